import PyProof.Rows.All
import Wide.All
import OpenK.AllK
import Wide.FinOn
import PyProof.InstNe
import KE.KFromBytes
import KE.KExcSuper
import KE.KOpsOwn
import KE.KIsNot
import KE.KIsAll
import HandS.ForMost
import HandS.Exc
import HandS.Wide
import HandS.Flow
import HandS.Defaults
import HandS.Property
import HandS.ClsMeth
import HandS.Slots
import HandS.SlotsOwn
import HandS.IsInst
import HandS.Evl
import HandS.Head0
import HandS.Head1
import HandS.Head2
import HandS.HeadEnd
import HandS.HeadHook1
import HandS.HeadHook2
import KE.KSuper
import HandS.ExcSuper
import HandS.Nested
import HandS.ExcInit
import HandS.ExcField
import HandS.ExcIs
import HandS.WordsExc
import KE.Datum
import HandS.Star
import HandS.DictComp
import PySem.Challenge.RW_risingscales_k20_patterns
set_option Elab.async false
set_option linter.all false
set_option maxRecDepth 100000
set_option maxHeartbeats 4000000
namespace RS
open PySem PySem.Spec PyProof.Rows L2

/-! ### defs, methods, classes by name, all that a call of them wants in one word -/
section
variable (P : Program) (w : World) (K : PySem.W.Frag) (mg : Str → Option Value) (base : Heap) (CX : CXT)
/-- the global def x keeps the promise sp; dvs fill its last parameters -/
structure Cal (lv : Nat) (x : Str) (ps : List Str) (dvs : List V) (sp : Sp) : Prop where
  ex : ∃ (f : Addr) (fd : FuncData) (ds : List Value), FnOk P w K mg base CX lv f fd ps sp ∧ mg x = some (.ref f) ∧ PySem.W.keepIn K (.ref f) = true ∧ Vals dvs ds ∧ Binds K fd ps ds
/-- the method m of the class at C -/
structure Mtd (lv : Nat) (C : Addr) (m : Str) (ps : List Str) (dvs : List V) (sp : Sp) : Prop where
  ex : ∃ (f : Addr) (fd : FuncData) (ds : List Value), FnOk P w K mg base CX lv f fd ps sp ∧ Meth K C m f ∧ Vals dvs ds ∧ Binds K fd ps ds
/-- the class x, at C, made by its __init__ -/
structure Mkr (lv : Nat) (x : Str) (C : Addr) (ps : List Str) (dvs : List V) (sp : Sp) : Prop where
  ex : ∃ (f : Addr) (fd : FuncData) (ds : List Value), FnOk P w K mg base CX lv f fd ps sp ∧ Mk K C f ∧ mg x = some (.ref C) ∧ Vals dvs ds ∧ Binds K fd ps ds
/-- the property m of the class at C -/
structure Prp (lv : Nat) (C : Addr) (m : Str) (ps : List Str) (dvs : List V) (sp : Sp) : Prop where
  ex : ∃ (p f : Addr) (fd : FuncData) (ds : List Value), FnOk P w K mg base CX lv f fd ps sp ∧ PropOf K C m p f ∧ Vals dvs ds ∧ Binds K fd ps ds
/-- the static method m of the class at C -/
structure Stc (lv : Nat) (C : Addr) (m : Str) (ps : List Str) (dvs : List V) (sp : Sp) : Prop where
  ex : ∃ (p f : Addr) (mc : Value) (fd : FuncData) (ds : List Value), FnOk P w K mg base CX lv f fd ps sp ∧ ClX.CRead K C mc ∧
    PySem.W.findCls K (.ref C) mc m = some (.get (.builtin "staticmethod.__get__") (.ref p) .none (.ref C)) ∧ (∃ rest, PySem.W.recIn K p "staticmethod" = some (.ref f :: rest)) ∧
    PySem.W.keepIn K (.ref f) = true ∧ Vals dvs ds ∧ Binds K fd ps ds
end
section
variable {X : Cx} {CX : CXT} {lv : Nat} {x m : Str} {C : Addr} {ps : List Str} {dvs : List V} {sp : Sp} {E : XK} {p pos apos : Pos} {e o : Expr} {es : List Expr} {ta : TE} {t : TA}
theorem pe_fn (F : Cal X.prog X.w X.K X.mg X.base CX lv x ps dvs sp) (hr : Room lv X.A) (hx : Passes CX X E) (ha : PA X (e :: es) t) (hg : Gl X x := by rfl) (hdb : (x == ("__debug__" : Str)) = false := by decide)
    (he : starEach (e :: es) X.env = (false, eval e X.env) :: starEach es X.env := by rfl) (hpl : (backTo pos (starEach es X.env)).any (·.1) = false := by rfl) : PE X (.Call (.Name x p) (e :: es) [] pos) (tCall sp dvs E t) := by
  obtain ⟨f, fd, ds, G, m, k, v, b⟩ := F.ex
  exact pe_call G hr hg m k b v hx ha hdb he hpl
theorem pe_fn0 (F : Cal X.prog X.w X.K X.mg X.base CX lv x ps dvs sp) (hr : Room lv X.A) (hx : Passes CX X E) (hg : Gl X x := by rfl) (hdb : (x == ("__debug__" : Str)) = false := by decide) : PE X (.Call (.Name x p) [] [] pos) (tCall sp dvs E tNil) := by
  obtain ⟨f, fd, ds, G, m, k, v, b⟩ := F.ex
  exact pe_call0 G hr hg m k b v hx hdb
theorem pe_mt {pl : Sem Bool} (c : Cls X.K C) (F : Mtd X.prog X.w X.K X.mg X.base CX lv C m ps dvs sp) (hr : Room lv X.A) (hx : Passes CX X E) (he : PE X o ta) (ha : PA X (e :: es) t)
    (hst : starEach (e :: es) X.env = (false, eval e X.env) :: starEach es X.env := by rfl) (hpl : (backTo pos (starEach es X.env)).any (·.1) = false := by rfl)
    (ht : eval (.Call (.Attribute o m apos) (e :: es) [] pos) X.env = (do
      let ov ← eval o X.env
      standAt apos.atName
      let (f, first) ← holding [ov] (getMethod ov m pl)
      callWith pos f first (backTo pos (starEach (e :: es) X.env)) (backToKw pos (keywordEach [] X.env))) := by rfl) :
    PE X (.Call (.Attribute o m apos) (e :: es) [] pos) (tMeth C m sp dvs E ta t) := by
  obtain ⟨f, fd, ds, G, k, v, b⟩ := F.ex
  exact pe_meth he c k G hr b v hx ha hst hpl ht
theorem pe_mt0 {pl : Sem Bool} (c : Cls X.K C) (F : Mtd X.prog X.w X.K X.mg X.base CX lv C m ps dvs sp) (hr : Room lv X.A) (hx : Passes CX X E) (he : PE X o ta)
    (ht : eval (.Call (.Attribute o m apos) [] [] pos) X.env = (do
      let ov ← eval o X.env
      standAt apos.atName
      let (f, first) ← holding [ov] (getMethod ov m pl)
      callWith pos f first (backTo pos (starEach [] X.env)) (backToKw pos (keywordEach [] X.env))) := by rfl) :
    PE X (.Call (.Attribute o m apos) [] [] pos) (tMeth C m sp dvs E ta tNil) := by
  obtain ⟨f, fd, ds, G, k, v, b⟩ := F.ex
  exact pe_meth0 he c k G hr b v hx ht
theorem pe_mk (F : Mkr X.prog X.w X.K X.mg X.base CX lv x C ps dvs sp) (hr : Room (lv + 1) X.A) (hx : Passes CX X E) (ha : PA X (e :: es) t) (hg : Gl X x := by rfl) (hdb : (x == ("__debug__" : Str)) = false := by decide)
    (he : starEach (e :: es) X.env = (false, eval e X.env) :: starEach es X.env := by rfl) (hpl : (backTo pos (starEach es X.env)).any (·.1) = false := by rfl) : PE X (.Call (.Name x p) (e :: es) [] pos) (tMake C sp dvs E t) := by
  obtain ⟨f, fd, ds, G, k, m, v, b⟩ := F.ex
  exact pe_make k G hr hg m b v hx ha hdb he hpl
theorem pe_pr (c : Cls X.K C) (F : Prp X.prog X.w X.K X.mg X.base CX lv C m ps dvs sp) (hr : Room (lv + 1) X.A) (hx : Passes CX X.nox E) (he : PE X e ta) (hab : attributeBase e m X.env (eval e X.env) = eval e X.env := by rfl) :
    PE X (.Attribute e m pos) (tProp C sp dvs E ta) := by
  obtain ⟨q, f, fd, ds, G, k, v, b⟩ := F.ex
  exact pe_prop he c k G hr b v hx hab
/-- C.m() of a static method -/
theorem pe_st0 {pl : Sem Bool} (F : Stc X.prog X.w X.K X.mg X.base CX lv C m ps dvs sp) (hr : Room lv X.A) (hx : Passes CX X E) (he : PE X o ta)
    (ht : eval (.Call (.Attribute o m apos) [] [] pos) X.env = (do
      let ov ← eval o X.env
      standAt apos.atName
      let (f, first) ← holding [ov] (getMethod ov m pl)
      callWith pos f first (backTo pos (starEach [] X.env)) (backToKw pos (keywordEach [] X.env))) := by rfl) :
    PE X (.Call (.Attribute o m apos) [] [] pos) (fun σ H Q => ta σ H fun z H1 => z = .ref C ∧ sp dvs H1 Q E) := by
  obtain ⟨q, f, mc, fd, ds, G, r, hf, ⟨rest, hrec⟩, kp, v, b⟩ := F.ex
  refine ⟨fun pins s σ H Q I h => ?_⟩
  refine PySem.W.methodCall_KW (pl := pl) (thn (he.run pins s σ H _ I h) fun u s1 ⟨z, H1, I1, rx, ez, q⟩ => ?_) ht
  subst ez
  obtain rfl : u = Value.ref C := rx
  refine PySem.W.method_cls I1.kIn r.ga ?_
  refine PySem.W.cls_bind I1.kIn r.rd hf ?_
  have I2 := I1.tok (s1.toks + 1)
  refine wpAny_call (PySem.W.sm_get (s := { s1 with toks := s1.toks + 1 }) I1.kIn hrec (PySem.W.handed_on rfl ?_))
  exact PySem.W.callWith_K0 (first := []) I2.kIn kp (run_fn (us := []) (vs := []) G hr b v hx I2 .nil (by simpa using q))
end

/-! ### own operators of instances -/
section
variable {X : Cx} {CX : CXT} {lv : Nat} {m : Str} {C : Addr} {ps : List Str} {sp : Sp} {E : XK}
theorem inst_at {pins : List (Addr × Obj)} {σ : L2.St} {H : Hp} {s : Shared} {a C dx : Addr} {fs : List (Str × V)} (I : Inv X pins σ H s) (ea : H a = some (.ins C dx fs)) : ∃ od, PySem.W.InstAt s.heap a (PySem.W.instObj C dx) C (some od) := by
  obtain ⟨mA, O, _, _, _, _⟩ := ins_get I.hok ea
  obtain ⟨od, J, _⟩ := O.look
  exact ⟨od, J⟩
/-- the truth of an instance by its __bool__ (or another def at that name, see hb) -/
def rTruOwn (C : Addr) (sp : Sp) (E : XK) : V → Hp → (Bool → Hp → Prop) → Prop := fun x H Q => ∃ a dx fs, x = .ref a ∧ H a = some (.ins C dx fs) ∧ sp [.ref a] H (fun v H' => ∃ b, v = .bl b ∧ Q b H') E
theorem tru_own (F : Mtd X.prog X.w X.K X.mg X.base CX lv C "__bool__" ps [] sp) (hr : Room lv X.A) (hx : Passes CX X E) : TruR X (rTruOwn C sp E) := by
  intro pins s σ H x v Q I rx h
  obtain ⟨a, dx, fs, rfl, ea, q⟩ := h
  obtain ⟨f, fd, ds, G, k, vd, b⟩ := F.ex
  cases (show v = Value.ref a from rx)
  obtain ⟨od, J⟩ := inst_at I ea
  obtain ⟨mm, hF⟩ := I.fr
  refine PySem.W.truthy_K hF I.ok.mod.kin J k.at_ k.fn ?_
  refine thn (run_fn (us := [.ref a]) (vs := [.ref a]) G hr b vd hx I (.cons rfl .nil) q) fun u s' ⟨z, H', I', rz, bb, ez, qz⟩ => ?_
  subst ez
  cases (show u = Value.bool bb from rz)
  exact ⟨H', I', qz⟩
/-- a name, a call, a field as a test, by its own __bool__ -/
theorem pt_own {a : Expr} {ta : TE} {r : V → Hp → (Bool → Hp → Prop) → Prop} (ht : TruR X r) (ha : PE X a ta) (he : ∀ whole, isTrue a X.env whole = (do let v ← whole; standAt a.pos; holding [v] (truthy v)) := by intro _; rfl) :
    PT X a (fun σ H Q => ta σ H fun x H' => r x H' Q) :=
  ⟨fun pins s σ H Q I h => isTrue_plain (thn (ha.run pins s σ H _ I h) fun v s1 ⟨x, H1, I1, r1, q1⟩ => ht pins s1 σ H1 x v Q I1 r1 q1) (he _)⟩
/-- not a as a value, by a's truth -/
theorem pe_notOwn {a : Expr} {pos : Pos} {ta : TE} {r : V → Hp → (Bool → Hp → Prop) → Prop} (ht : TruR X r) (ha : PE X a ta) : PE X (.UnaryOp .Not a pos) (fun σ H Q => ta σ H fun x H' => r x H' fun b H2 => Q (.bl (!b)) H2) := by
  refine ⟨fun pins s σ H Q I h => ?_⟩
  refine UnaryOp_ (thn (ha.run pins s σ H _ I h) fun v s1 ⟨x, H1, I1, r1, q1⟩ => ?_)
  exact not_of (thn (ht pins s1 σ H1 x v _ I1 r1 q1) fun b s2 ⟨H2, I2, q2⟩ => ⟨.bl (!b), H2, I2, rfl, q2⟩)
/-- x in y, y an instance with its own __contains__ that answers a bool -/
def rInOwn (neg : Bool) (C : Addr) (sp : Sp) (E : XK) : R2 := fun x y H Q => ∃ a dx fs, y = .ref a ∧ H a = some (.ins C dx fs) ∧ sp [.ref a, x] H (fun v H' => ∃ b, v = .bl b ∧ Q (.bl (if neg then !b else b)) H') E
theorem op_inOwn (F : Mtd X.prog X.w X.K X.mg X.base CX lv C "__contains__" ps [] sp) (hr : Room lv X.A) (hx : Passes CX X E) : OpR X (compareOp .In) (rInOwn false C sp E) := by
  intro pins s σ H x y v u Q I rx ry h
  obtain ⟨a, dx, fs, rfl, ea, q⟩ := h
  obtain ⟨f, fd, ds, G, k, vd, b⟩ := F.ex
  cases (show u = Value.ref a from ry)
  obtain ⟨od, J⟩ := inst_at I ea
  obtain ⟨mm, hF⟩ := I.fr
  refine PySem.W.in_K hF I.ok.mod.kin J k.at_ k.fn ?_
  refine thn (run_fn (us := [.ref a, v]) (vs := [.ref a, x]) G hr b vd hx I (.cons rfl (.cons rx .nil)) q) fun u s' ⟨z, H', I', rz, bb, ez, qz⟩ => ?_
  subst ez
  cases (show u = Value.bool bb from rz)
  exact wpAny_truthy_bool ⟨.bl bb, H', I', rfl, qz⟩
theorem op_notInOwn (F : Mtd X.prog X.w X.K X.mg X.base CX lv C "__contains__" ps [] sp) (hr : Room lv X.A) (hx : Passes CX X E) : OpR X (compareOp .NotIn) (rInOwn true C sp E) := by
  intro pins s σ H x y v u Q I rx ry h
  obtain ⟨a, dx, fs, rfl, ea, q⟩ := h
  obtain ⟨f, fd, ds, G, k, vd, b⟩ := F.ex
  cases (show u = Value.ref a from ry)
  obtain ⟨od, J⟩ := inst_at I ea
  obtain ⟨mm, hF⟩ := I.fr
  refine PySem.W.notIn_K hF I.ok.mod.kin J k.at_ k.fn ?_
  refine thn (run_fn (us := [.ref a, v]) (vs := [.ref a, x]) G hr b vd hx I (.cons rfl (.cons rx .nil)) q) fun u s' ⟨z, H', I', rz, bb, ez, qz⟩ => ?_
  subst ez
  cases (show u = Value.bool bb from rz)
  exact wpAny_truthy_bool ⟨.bl (!bb), H', I', rfl, qz⟩
/-- x op y, both instances of the class at C, by C's own def -/
def rBinOwn (C : Addr) (sp : Sp) (E : XK) : R2 := fun x y H Q => ∃ a dx fs b dy gs, x = .ref a ∧ y = .ref b ∧ H a = some (.ins C dx fs) ∧ H b = some (.ins C dy gs) ∧ sp [.ref a, .ref b] H Q E
theorem op_binOwn {op : Operator} (F : Mtd X.prog X.w X.K X.mg X.base CX lv C (PySem.dunder op.info.2) ps [] sp) (hr : Room lv X.A) (hx : Passes CX X E) (hc : PySem.W.selfFirst X.K C = true) : OpR X (binaryOp op) (rBinOwn C sp E) := by
  intro pins s σ H x y v u Q I rx ry h
  obtain ⟨a, dx, fs, b, dy, gs, rfl, rfl, ea, eb, q⟩ := h
  obtain ⟨f, fd, ds, G, k, vd, bb⟩ := F.ex
  cases (show v = Value.ref a from rx)
  cases (show u = Value.ref b from ry)
  obtain ⟨od, J⟩ := inst_at I ea
  obtain ⟨od', J'⟩ := inst_at I eb
  obtain ⟨mm, hF⟩ := I.fr
  refine PySem.W.binop_K hF I.ok.mod.kin J J'.type hc k.at_ k.fn ?_
  exact thn (run_fn (us := [.ref a, .ref b]) (vs := [.ref a, .ref b]) G hr bb vd hx I (.cons rfl (.cons rfl .nil)) q) fun w s' ⟨z, H', I', rz, qz⟩ => SlX.cmpback rz ⟨z, H', I', rz, qz⟩
/-- x == y, x an instance of the class at C with its own __eq__, y anything that is not of a class below C -/
def rEqOwn (K : PySem.W.Frag) (C : Addr) (sp : Sp) (E : XK) : R2 := fun x y H Q => ∃ a dx fs tb, x = .ref a ∧ H a = some (.ins C dx fs) ∧ TyX K H y tb ∧ PySem.W.notFirst K C tb = true ∧ sp [.ref a, y] H Q E
theorem op_eqOwn (F : Mtd X.prog X.w X.K X.mg X.base CX lv C "__eq__" ps [] sp) (hr : Room lv X.A) (hx : Passes CX X E) : OpR X (compareOp .Eq) (rEqOwn X.K C sp E) := by
  intro pins s σ H x y v u Q I rx ry h
  obtain ⟨a, dx, fs, tb, rfl, ea, ty, hn, q⟩ := h
  obtain ⟨f, fd, ds, G, k, vd, bb⟩ := F.ex
  cases (show v = Value.ref a from rx)
  obtain ⟨od, J⟩ := inst_at I ea
  obtain ⟨mm, hF⟩ := I.fr
  obtain ⟨P, Z, p, _⟩ := kit_of I ry ty
  show wpAny _ _ (richCompare .Eq (.ref a) u) _ _ _
  refine PySem.W.cmp_K (op := .Eq) (tb := tb) hr.units0 hF I.ok.mod.kin J (Z.ty _ _ I.kIn p) hn k.at_ k.fn ?_
  exact thn (run_fn (us := [.ref a, u]) (vs := [.ref a, y]) G hr bb vd hx I (.cons rfl (.cons ry .nil)) q) fun w s' ⟨z, H', I', rz, qz⟩ => SlX.cmpback rz ⟨z, H', I', rz, qz⟩
/-- ~x by its own __invert__ -/
def rInvOwn (C : Addr) (sp : Sp) (E : XK) : V → Hp → VK → Prop := fun x H Q => ∃ a dx fs, x = .ref a ∧ H a = some (.ins C dx fs) ∧ sp [.ref a] H Q E
theorem un_invOwn (F : Mtd X.prog X.w X.K X.mg X.base CX lv C "__invert__" ps [] sp) (hr : Room lv X.A) (hx : Passes CX X E) : UnR X (unaryOp .Invert) (rInvOwn C sp E) := by
  intro pins s σ H x v Q I rx h
  obtain ⟨a, dx, fs, rfl, ea, q⟩ := h
  obtain ⟨f, fd, ds, G, k, vd, b⟩ := F.ex
  cases (show v = Value.ref a from rx)
  obtain ⟨od, J⟩ := inst_at I ea
  obtain ⟨mm, hF⟩ := I.fr
  refine PySem.W.ksp_inv hF I.ok.mod.kin J k.at_ k.fn ?_
  exact run_fn (us := [.ref a]) (vs := [.ref a]) G hr b vd hx I (.cons rfl .nil) q
end
end RS

set_option maxRecDepth 100000
set_option maxHeartbeats 4000000
namespace RS
open PySem PySem.Spec PyProof.Rows L2
/-! ### x != y where the class has __eq__ but no __ne__ -/
section
open PySem.W Builtin
variable {prog : Program} {w : World} {A : Around} {E : Value → Shared → Prop} {s : Shared} {K : Frag} {x C f : Addr} {ox : Obj} {od : Option Obj} {b tb : Value}
theorem objNe_K {Q : Fin → Shared → Prop} (hu : A.units < cLine) (X : K.In s.heap) (I : InstAt s.heap x ox C od) (he : findIn K (.ref C) "__eq__" = some (some (.ref f))) (hf : isFn K (.ref f) = true)
    (h : wpAny (model prog w) A (call (.ref f) [.ref x, b]) (fun v s' => ∃ k, v = .bool k ∧ Q (.done (.ret (.bool (!k)))) s') E s) :
    wpAny (model prog w) A (Builtin.«object.__ne__» ⟨[.ref x, b], []⟩) Q E s := by
  unfold Builtin.«object.__ne__»
  repeat (first
    | with_reducible refine wpAny_cRoomFor hu ?_
    | (refine wpAny_bind (m := callSpecialIfBound? (.ref x) (Str.ofString "__eq__") [b])
        (ifBound_K X I he hf (wpAny_mono h (fun r s' hr => by
          obtain ⟨k, rfl, hq⟩ := hr
          repeat (first | exact hq | exact wpAny_pure hq | exact wpAny_truthy_bool hq | (refine wpAny_bind (m := truthy (.bool _)) (wpAny_truthy_bool ?_)) | wp_step)) fun _ _ e => e)))
    | wp_step)
theorem ne_K {Q : Value → Shared → Prop} (hu : A.units + 1 < cLine) (X : K.In s.heap) (I : InstAt s.heap x ox C od) (hb : Looks (model prog w) s.heap (typeOf b) tb) (hn : notFirst K C tb = true)
    (hs : findIn K (.ref C) "__ne__" = some (some (.builtin "object.__ne__"))) (he : findIn K (.ref C) "__eq__" = some (some (.ref f))) (hf : isFn K (.ref f) = true) (hm : mroIn K C (.type "object") = some true)
    (h : wpAny (model prog w) A.in1 (call (.ref f) [.ref x, b]) (fun v s' => ∃ k, v = .bool k ∧ Q (.bool (!k)) s') E s) : wpAny (model prog w) A (richCompare .NotEq (.ref x) b) Q E s := by
  have sub : Looks (model prog w) s.heap (isInstance (.ref x) (.type "object")) true := I.type.andThen (looks_mroIn X hm)
  have one : wpAny (model prog w) A (tryCompare (.ref x) "__ne__" b) (fun r s' => ∃ v, r = some v ∧ Q v s') E s := by
    unfold tryCompare
    refine wpAny_bind (m := callSpecialIfBound? (.ref x) (Str.ofString "__ne__") [b]) ?_
    simp only [callSpecialIfBound?, bindSpecialIfBound?]
    refine wpAny_holding (wpAny_bind (wpAny_bind (wpAny_bind (I.type.here ((looks_findIn X hs).here ?_)))))
    have cal : ∀ (Q' : Option Value → Shared → Prop), (∀ k s', Q (.bool (!k)) s' → Q' (some (.bool (!k))) s') → wpAny (model prog w) A (call (.builtin "object.__ne__") ([.ref x] ++ [b]) >>= fun v => pure (some v)) Q' E s := fun Q' hQ => by
      refine wpAny_bind (wpAny_call (codeAny_call_builtin F.cmp_object.ne.plain F.cmpEntry_ne
        (@check_slot (model prog w) _ _ s "object.__ne__" "object" "__ne__" (.ref x) [b] [] _ F.cmpKind_ne F.cmpSplit_ne sub (F.cmpArgs_ne _ _) (objNe_K (A := A.in1) hu X I he hf (wpAny_mono h (fun v s' hv => ?_) fun _ _ e => e)))))
      obtain ⟨k, rfl, hq⟩ := hv
      exact ⟨k, rfl, wpAny_pure (hQ _ _ hq)⟩
    refine wpAny_bind (wpAny_askSetting (wpAny_ite ?_))
    split
    · exact wpAny_bind (wpAny_of_eq (F.cmp_object.ne.bind _) (wpAny_pure (by exact cal _ fun k s' hq => wpAny_pure ⟨_, rfl, hq⟩)))
    · exact wpAny_tryCatch (wpAny_bind (wpAny_of_eq (F.cmp_object.ne.bind _) (wpAny_pure (by exact cal _ fun k s' hq => wpAny_pure ⟨_, rfl, hq⟩))))
  unfold richCompare
  simp only [oneThing_ref]
  refine wpAny_holding (wpAny_bind (wpAny_cRoomFor (Nat.lt_of_succ_lt hu) ?_))
  refine wpAny_bind (I.type.here (wpAny_bind (hb.here ?_)))
  rw [cmpInfo_NotEq]
  dsimp only
  split
  · rename_i q
    have e : subIn K tb (.ref C) = some false := by
      rcases Bool.or_eq_true_iff.mp hn with e | e
      · rw [beq_iff_eq.mp e] at q; simp at q
      · exact beq_iff_eq.mp e
    refine wpAny_bind ((looks_subIn X e).here ?_)
    simp only [Bool.false_eq_true, if_false]
    refine wpAny_bind (wpAny_mono one (fun r s' z => ?_) fun _ _ e => e)
    obtain ⟨v, rfl, hq⟩ := z
    exact wpAny_pure hq
  · refine wpAny_bind (wpAny_pure ?_)
    simp only [Bool.false_eq_true, if_false]
    refine wpAny_bind (wpAny_mono one (fun r s' z => ?_) fun _ _ e => e)
    obtain ⟨v, rfl, hq⟩ := z
    exact wpAny_pure hq
end
/-- no __ne__ of its own -/
structure NoNe (K : PySem.W.Frag) (C : Addr) : Prop where
  ne : PySem.W.findIn K (.ref C) "__ne__" = some (some (.builtin "object.__ne__"))
  ob : PySem.W.mroIn K C (.type "object") = some true
section
variable {X : Cx} {CX : CXT} {lv : Nat} {m : Str} {C : Addr} {ps : List Str} {sp : Sp} {E : XK}
/-- x != y, x an instance whose class has __eq__ (answering a bool) and no __ne__ -/
def rNeOwn (K : PySem.W.Frag) (C : Addr) (sp : Sp) (E : XK) : R2 := fun x y H Q => ∃ a dx fs tb, x = .ref a ∧ H a = some (.ins C dx fs) ∧ TyX K H y tb ∧ PySem.W.notFirst K C tb = true ∧ sp [.ref a, y] H (fun v H' => ∃ k, v = .bl k ∧ Q (.bl (!k)) H') E
theorem run_in1 {pins : List (Addr × Obj)} {σ : L2.St} {H : Hp} {s : Shared} {Q : VK} {f : Addr} {fd : FuncData} {us : List Value} {vs : List V} (F : FnOk X.prog X.w X.K X.mg X.base CX lv f fd ps sp) (hr : Room (lv + 1) X.A) (hb : Binds X.K fd ps []) (hx : Passes CX X E)
    (I : Inv X pins σ H s) (r : Vals vs us) (h : sp vs H Q E) : wpAny (model X.prog X.w) X.A.in1 (call (.ref f) us) (EP X pins σ Q) X.xe s := by
  have hl : (us ++ []).length = ps.length := by rw [List.append_nil, ← r.length]; exact F.len _ _ _ _ h
  have hb2 := hb s us I.kIn hl
  rw [List.append_nil] at hb2
  refine wpAny_call (codeAny_mono (F.run X.A.in1 X.stack s H ⟨us, []⟩ us vs Q E hr.in1 I.env0.in1 hb2 r h) fun r s' hq => ?_)
  cases r with
  | error e => exact hx pins σ H s e s' I hq
  | ok fl =>
    cases fl with
    | ret u => exact I.after hq
    | next => exact False.elim hq
    | brk => exact False.elim hq
    | cont => exact False.elim hq
theorem op_neOwn (n : NoNe X.K C) (F : Mtd X.prog X.w X.K X.mg X.base CX lv C "__eq__" ps [] sp) (hr : Room (lv + 1) X.A) (hx : Passes CX X E) : OpR X (compareOp .NotEq) (rNeOwn X.K C sp E) := by
  intro pins s σ H x y v u Q I rx ry h
  obtain ⟨a, dx, fs, tb, rfl, ea, ty, hn, q⟩ := h
  obtain ⟨f, fd, ds, G, k, vd, bb⟩ := F.ex
  cases vd
  cases (show v = Value.ref a from rx)
  obtain ⟨od, J⟩ := inst_at I ea
  obtain ⟨P, Z, p, _⟩ := kit_of I ry ty
  show wpAny _ _ (richCompare .NotEq (.ref a) u) _ _ _
  refine ne_K (by have := hr.units; omega) I.kIn J (Z.ty _ _ I.kIn p) hn n.ne k.at_ k.fn n.ob ?_
  refine thn (run_in1 (us := [.ref a, u]) (vs := [.ref a, y]) G hr bb hx I (.cons rfl (.cons ry .nil)) q) fun w s' ⟨z, H', I', rz, kk, ez, qz⟩ => ?_
  subst ez
  exact ⟨kk, rz, .bl (!kk), H', I', rfl, qz⟩
end
/-! ### bool(x) by x's own __bool__ -/
theorem bool_own {prog : Program} {w : World} {A : Around} {E : Value → Shared → Prop} {s : Shared} {x : Addr} {Q : Value → Shared → Prop}
    (ht : wpAny (model prog w) A.in1.in1 (truthy (.ref x)) (fun b s' => Q (.bool b) s') E s) : wpAny (model prog w) A (call (.type "bool") [.ref x]) Q E s := by
  refine callType_codes (T := "bool") (Bi := Builtin.«object.__init__») (Q₁ := fun r s₁ => ∃ k, r = Value.bool k ∧ Q r s₁) PySem.F.called_bool (PySem.F.typeCall_bool_1 _) PySem.F.entry_object_init ?_ ?_
  · refine codeAny_of_tree ?_
    show wpAny _ A.in1.in1 (do checkBuiltinCall "bool.__new__" ⟨[.type "bool", .ref x], []⟩; again (.builtin "bool.__new__" ⟨[.type "bool", .ref x], []⟩)) _ _ s
    refine wpAny_bind (wpAny_of_eq (PySem.F.newCall_bool_1 _) (wpAny_pure ⟨plainId_quiet (by decide +kernel) _, codeAny_builtin PySem.F.entry_bool_new ?_⟩))
    rw [Around.under_plainId (by decide +kernel) _]
    have f1 := PySem.F.conv_sub_bool
    unfold Builtin.«bool.__new__»
    repeat (first | (with_reducible refine wpAny_mono ht (fun b s' hb => ?_) (fun _ _ z => z)) | wp_step)
    exact ⟨b, rfl, hb⟩
  · rintro obj s₁ ⟨k, rfl, hq⟩
    exact ⟨PySem.typeIs_bool _ _, PySem.F.args_object_init_2 _ _, object_init_meets PySem.F.called_bool.init.lookup PySem.F.called_bool.made (by decide) prog w A.in1 _ s₁ ⟨PySem.typeIs_bool _ _, rfl, hq⟩⟩
section
variable {X : Cx} {CX : CXT} {lv : Nat} {m : Str} {C : Addr} {ps : List Str} {sp : Sp} {E : XK}
theorem call_boolOwn (F : Mtd X.prog X.w X.K X.mg X.base CX lv C "__bool__" ps [] sp) (hr : Room (lv + 2) X.A) (hx : Passes CX X E) : CallR X (.type "bool") (fun xs H Q => ∃ x, xs = [x] ∧ rTruOwn C sp E x H fun b H' => Q (.bl b) H') := by
  intro pins s σ H xs us Q I r h
  obtain ⟨x, rfl, a, dx, fs, rfl, ea, q⟩ := h
  obtain ⟨f, fd, ds, G, k, vd, bb⟩ := F.ex
  cases vd
  obtain ⟨u, rfl, ru⟩ := vals1 r
  cases (show u = Value.ref a from ru)
  obtain ⟨od, J⟩ := inst_at I ea
  obtain ⟨mm, hF⟩ := I.fr
  refine bool_own (PySem.W.truthy_K hF I.ok.mod.kin J k.at_ k.fn ?_)
  have hl : (([.ref a] : List Value) ++ []).length = ps.length := (G.len _ _ _ _ q)
  have hb2 := bb s [.ref a] I.kIn hl
  rw [List.append_nil] at hb2
  have hr2 : Room lv X.A.in1.in1 := (show Room (lv + 1) X.A.in1 from Room.in1 hr).in1
  refine wpAny_call (codeAny_mono (G.run X.A.in1.in1 X.stack s H ⟨[.ref a], []⟩ [.ref a] [.ref a] _ E hr2 I.env0.in1.in1 hb2 (.cons rfl .nil) q) fun r s' hq => ?_)
  cases r with
  | error e => exact hx pins σ H s e s' I hq
  | ok fl =>
    cases fl with
    | ret u =>
      obtain ⟨z, H', I', rz, b, ez, qz⟩ := I.after hq
      subst ez
      cases (show u = Value.bool b from rz)
      exact ⟨.bl b, H', I', rfl, qz⟩
    | next => exact False.elim hq
    | brk => exact False.elim hq
    | cont => exact False.elim hq
end
end RS

set_option maxRecDepth 100000
set_option maxHeartbeats 4000000
namespace RS
open PySem PySem.Spec PyProof.Rows L2
/-! ### the second family's source of draws: what its dict holds, and the draw's promise -/
/-- all that was tracked is as it was, but for the object at a -/
def Sav (a : Addr) (H H' : Hp) : Prop := ∀ b o, b ≠ a → H b = some o → H' b = some o
theorem Sav.refl (a : Addr) (H : Hp) : Sav a H H := fun _ _ _ h => h
theorem Sav.trans {a : Addr} {H H1 H2 : Hp} (x : Sav a H H1) (y : Sav a H1 H2) : Sav a H H2 := fun b o n h => y b o n (x b o n h)
theorem Sav.at {a b : Addr} {H H' : Hp} {o : HO} (x : Sav a H H') (n : b ≠ a) (h : H b = some o) : H' b = some o := x b o n h
theorem Sav.new {a p : Addr} {H : Hp} {o : HO} (h : H p = none) : Sav a H (upd H p o) := fun b u _ e => by rw [upd_ne (ne_of_none e h)]; exact e
theorem Sav.own {a : Addr} {H : Hp} {o : HO} : Sav a H (upd H a o) := fun b u n e => by rw [upd_ne n]; exact e
theorem Sav.free {a b : Addr} {H H' : Hp} (x : Sav a H H') (n : b ≠ a) (h : H' b = none) : H b = none := by
  cases q : H b with
  | none => rfl
  | some o => rw [x b o n q] at h; cases h
theorem Same.sav {a : Addr} {H H' : Hp} (x : Same H H') : Sav a H H' := fun b o _ h => x b o h
theorem upd_old {H : Hp} {p q : Addr} {o u : HO} (hp : H p = none) (hq : H q = some o) : upd H p u q = some o := by rw [upd_ne (ne_of_none hq hp)]; exact hq

def bagD (c : Addr) (a d n f : Int) : List (Key × V) := [(.inr "cells", .ref c), (.inr "at", .int a), (.inr "digits", .int d), (.inr "count", .int n), (.inr "fold", .int f)]
theorem n_cells_at : ¬ (("cells" : Str) = "at") := by decide +kernel
theorem n_cells_digits : ¬ (("cells" : Str) = "digits") := by decide +kernel
theorem n_cells_count : ¬ (("cells" : Str) = "count") := by decide +kernel
theorem n_cells_fold : ¬ (("cells" : Str) = "fold") := by decide +kernel
theorem n_at_cells : ¬ (("at" : Str) = "cells") := by decide +kernel
theorem n_at_digits : ¬ (("at" : Str) = "digits") := by decide +kernel
theorem n_at_count : ¬ (("at" : Str) = "count") := by decide +kernel
theorem n_at_fold : ¬ (("at" : Str) = "fold") := by decide +kernel
theorem n_digits_cells : ¬ (("digits" : Str) = "cells") := by decide +kernel
theorem n_digits_at : ¬ (("digits" : Str) = "at") := by decide +kernel
theorem n_digits_count : ¬ (("digits" : Str) = "count") := by decide +kernel
theorem n_digits_fold : ¬ (("digits" : Str) = "fold") := by decide +kernel
theorem n_count_cells : ¬ (("count" : Str) = "cells") := by decide +kernel
theorem n_count_at : ¬ (("count" : Str) = "at") := by decide +kernel
theorem n_count_digits : ¬ (("count" : Str) = "digits") := by decide +kernel
theorem n_count_fold : ¬ (("count" : Str) = "fold") := by decide +kernel
theorem n_fold_cells : ¬ (("fold" : Str) = "cells") := by decide +kernel
theorem n_fold_at : ¬ (("fold" : Str) = "at") := by decide +kernel
theorem n_fold_digits : ¬ (("fold" : Str) = "digits") := by decide +kernel
theorem n_fold_count : ¬ (("fold" : Str) = "count") := by decide +kernel
theorem bag_cells (c : Addr) (a d n f : Int) : valV (bagD c a d n f) (Sum.inr "cells") = some (.ref c) := by simp [valV, bagD, n_cells_at, n_cells_digits, n_cells_count, n_cells_fold, n_at_cells, n_at_digits, n_at_count, n_at_fold, n_digits_cells, n_digits_at, n_digits_count, n_digits_fold, n_count_cells, n_count_at, n_count_digits, n_count_fold, n_fold_cells, n_fold_at, n_fold_digits, n_fold_count]
theorem bag_at (c : Addr) (a d n f : Int) : valV (bagD c a d n f) (Sum.inr "at") = some (.int a) := by simp [valV, bagD, n_cells_at, n_cells_digits, n_cells_count, n_cells_fold, n_at_cells, n_at_digits, n_at_count, n_at_fold, n_digits_cells, n_digits_at, n_digits_count, n_digits_fold, n_count_cells, n_count_at, n_count_digits, n_count_fold, n_fold_cells, n_fold_at, n_fold_digits, n_fold_count]
theorem bag_digits (c : Addr) (a d n f : Int) : valV (bagD c a d n f) (Sum.inr "digits") = some (.int d) := by simp [valV, bagD, n_cells_at, n_cells_digits, n_cells_count, n_cells_fold, n_at_cells, n_at_digits, n_at_count, n_at_fold, n_digits_cells, n_digits_at, n_digits_count, n_digits_fold, n_count_cells, n_count_at, n_count_digits, n_count_fold, n_fold_cells, n_fold_at, n_fold_digits, n_fold_count]
theorem bag_count (c : Addr) (a d n f : Int) : valV (bagD c a d n f) (Sum.inr "count") = some (.int n) := by simp [valV, bagD, n_cells_at, n_cells_digits, n_cells_count, n_cells_fold, n_at_cells, n_at_digits, n_at_count, n_at_fold, n_digits_cells, n_digits_at, n_digits_count, n_digits_fold, n_count_cells, n_count_at, n_count_digits, n_count_fold, n_fold_cells, n_fold_at, n_fold_digits, n_fold_count]
theorem bag_fold (c : Addr) (a d n f : Int) : valV (bagD c a d n f) (Sum.inr "fold") = some (.int f) := by simp [valV, bagD, n_cells_at, n_cells_digits, n_cells_count, n_cells_fold, n_at_cells, n_at_digits, n_at_count, n_at_fold, n_digits_cells, n_digits_at, n_digits_count, n_digits_fold, n_count_cells, n_count_at, n_count_digits, n_count_fold, n_fold_cells, n_fold_at, n_fold_digits, n_fold_count]
theorem put_at (c : Addr) (a d n f z : Int) : putK (bagD c a d n f) (Sum.inr "at") (.int z) = bagD c z d n f := by simp [putK, bagD, n_cells_at, n_cells_digits, n_cells_count, n_cells_fold, n_at_cells, n_at_digits, n_at_count, n_at_fold, n_digits_cells, n_digits_at, n_digits_count, n_digits_fold, n_count_cells, n_count_at, n_count_digits, n_count_fold, n_fold_cells, n_fold_at, n_fold_digits, n_fold_count]
theorem put_digits (c : Addr) (a d n f z : Int) : putK (bagD c a d n f) (Sum.inr "digits") (.int z) = bagD c a z n f := by simp [putK, bagD, n_cells_at, n_cells_digits, n_cells_count, n_cells_fold, n_at_cells, n_at_digits, n_at_count, n_at_fold, n_digits_cells, n_digits_at, n_digits_count, n_digits_fold, n_count_cells, n_count_at, n_count_digits, n_count_fold, n_fold_cells, n_fold_at, n_fold_digits, n_fold_count]
theorem put_count (c : Addr) (a d n f z : Int) : putK (bagD c a d n f) (Sum.inr "count") (.int z) = bagD c a d z f := by simp [putK, bagD, n_cells_at, n_cells_digits, n_cells_count, n_cells_fold, n_at_cells, n_at_digits, n_at_count, n_at_fold, n_digits_cells, n_digits_at, n_digits_count, n_digits_fold, n_count_cells, n_count_at, n_count_digits, n_count_fold, n_fold_cells, n_fold_at, n_fold_digits, n_fold_count]
theorem put_fold (c : Addr) (a d n f z : Int) : putK (bagD c a d n f) (Sum.inr "fold") (.int z) = bagD c a d n z := by simp [putK, bagD, n_cells_at, n_cells_digits, n_cells_count, n_cells_fold, n_at_cells, n_at_digits, n_at_count, n_at_fold, n_digits_cells, n_digits_at, n_digits_count, n_digits_fold, n_count_cells, n_count_at, n_count_digits, n_count_fold, n_fold_cells, n_fold_at, n_fold_digits, n_fold_count]
section
variable {H : Hp} {p c : Addr} {a d n f z : Int}
theorem dg_cells (h : H p = some (.dK (bagD c a d n f))) : DGet H p (.str "cells") (some (.ref c)) := by rw [← bag_cells c a d n f]; exact DGet.k (k := Sum.inr "cells") h
theorem dg_at (h : H p = some (.dK (bagD c a d n f))) : DGet H p (.str "at") (some (.int a)) := by rw [← bag_at c a d n f]; exact DGet.k (k := Sum.inr "at") h
theorem dg_digits (h : H p = some (.dK (bagD c a d n f))) : DGet H p (.str "digits") (some (.int d)) := by rw [← bag_digits c a d n f]; exact DGet.k (k := Sum.inr "digits") h
theorem dg_count (h : H p = some (.dK (bagD c a d n f))) : DGet H p (.str "count") (some (.int n)) := by rw [← bag_count c a d n f]; exact DGet.k (k := Sum.inr "count") h
theorem dg_fold (h : H p = some (.dK (bagD c a d n f))) : DGet H p (.str "fold") (some (.int f)) := by rw [← bag_fold c a d n f]; exact DGet.k (k := Sum.inr "fold") h
theorem dp_at (h : H p = some (.dK (bagD c a d n f))) : DPut H p (.str "at") (.int z) (upd H p (.dK (bagD c z d n f))) := by
  rw [← put_at c a d n f z]; exact DPut.k (k := Sum.inr "at") h (by show 5 < sizeLine; rw [sizeLine_eq]; decide)
theorem dp_digits (h : H p = some (.dK (bagD c a d n f))) : DPut H p (.str "digits") (.int z) (upd H p (.dK (bagD c a z n f))) := by
  rw [← put_digits c a d n f z]; exact DPut.k (k := Sum.inr "digits") h (by show 5 < sizeLine; rw [sizeLine_eq]; decide)
theorem dp_count (h : H p = some (.dK (bagD c a d n f))) : DPut H p (.str "count") (.int z) (upd H p (.dK (bagD c a d z f))) := by
  rw [← put_count c a d n f z]; exact DPut.k (k := Sum.inr "count") h (by show 5 < sizeLine; rw [sizeLine_eq]; decide)
theorem dp_fold (h : H p = some (.dK (bagD c a d n f))) : DPut H p (.str "fold") (.int z) (upd H p (.dK (bagD c a d n z))) := by
  rw [← put_fold c a d n f z]; exact DPut.k (k := Sum.inr "fold") h (by show 5 < sizeLine; rw [sizeLine_eq]; decide)
end
/-- a bag stands at p, good for b more draws -/
structure Pen (H : Hp) (p c : Addr) (b : Nat) : Prop where
  ex : ∃ (cs : List Int) (a d n f : Int), H p = some (.dK (bagD c a d n f)) ∧ H c = some (.lst (cs.map V.int)) ∧ 0 ≤ a ∧ 0 ≤ d ∧ 0 ≤ n ∧ n + b ≤ 2 ^ 50 ∧ 0 ≤ f ∧ f < 2 ^ 32
theorem Pen.mono {H : Hp} {p c : Addr} {b b' : Nat} (x : Pen H p c b) (h : b' ≤ b) : Pen H p c b' := by
  obtain ⟨cs, a, d, n, f, h1, h2, h3, h4, h5, h6, h7⟩ := x.ex
  exact ⟨cs, a, d, n, f, h1, h2, h3, h4, h5, by omega, h7⟩
theorem Pen.dk {H : Hp} {p c : Addr} {b : Nat} (x : Pen H p c b) : ∃ kvs, H p = some (.dK kvs) := let ⟨_, _, _, _, _, h, _⟩ := x.ex; ⟨_, h⟩
/-- what stands at q is not the pen -/
theorem Pen.ne {H : Hp} {p c q : Addr} {b : Nat} {o : HO} (x : Pen H p c b) (h : H q = some o) (d : ∀ kvs, o ≠ .dK kvs) : q ≠ p := by
  obtain ⟨kvs, e⟩ := x.dk
  exact ne_of h e (d kvs)
theorem Pen.fresh_ne {H : Hp} {p c q : Addr} {b : Nat} (x : Pen H p c b) (h : H q = none) : q ≠ p := by
  obtain ⟨kvs, e⟩ := x.dk
  exact (ne_of_none e h).symm
/-- a new object beside it -/
theorem Pen.fresh_ne2 {H : Hp} {p c q : Addr} {b : Nat} (x : Pen H p c b) (h : H q = none) : q ≠ c := by
  obtain ⟨cs, a, d, n, f, h1, h2, _⟩ := x.ex
  exact (ne_of_none h2 h).symm
/-- an object that is neither the pen nor its list is written -/
theorem Pen.mut {H : Hp} {p c q : Addr} {b : Nat} {o : HO} (x : Pen H p c b) (h1 : q ≠ p) (h2 : q ≠ c) : Pen (upd H q o) p c b := by
  obtain ⟨cs, a, d, n, f, e1, e2, h3⟩ := x.ex
  exact ⟨cs, a, d, n, f, by rw [upd_ne h1.symm]; exact e1, by rw [upd_ne h2.symm]; exact e2, h3⟩
theorem Pen.old {H H' : Hp} {p c : Addr} {b : Nat} (x : Pen H p c b) (k : Same H H') : Pen H' p c b := by
  obtain ⟨cs, a, d, n, f, h1, h2, h3⟩ := x.ex
  exact ⟨cs, a, d, n, f, k _ _ h1, k _ _ h2, h3⟩
theorem Same.new {H : Hp} {p : Addr} {o : HO} (h : H p = none) : Same H (upd H p o) := fun b u e => by rw [upd_ne (ne_of_none e h)]; exact e
theorem Pen.new {H : Hp} {p c q : Addr} {b : Nat} {o : HO} (x : Pen H p c b) (h : H q = none) : Pen (upd H q o) p c b := x.old (Same.new h)
def spPen (K : PySem.W.Frag) : Sp := fun vs H Q _ => ∃ (a : Addr) (ns : List Int), vs = [.ref a] ∧ SqL K H a (ns.map V.int) ∧ ns.length ≤ 63 ∧ ∀ p c H', Same H H' → H p = none → H c = none → Pen H' p c (2 ^ 49) → Q (.ref p) H'
def spDraw : Sp := fun vs H Q _ => ∃ (p c : Addr) (m : Int) (b : Nat), vs = [.ref p, .int m] ∧ 0 < m ∧ m.natAbs.log2 < 9000 ∧ Pen H p c (b + 1) ∧
  ∀ d H', 0 ≤ d → d < m → Pen H' p c b → Sav p H H' → Q (.int d) H'
theorem dp_ints {K : PySem.W.Frag} {H : Hp} : ∀ cs : List Int, DpAll K H (cs.map V.int) (cs.map PyData.int)
  | [] => .nil
  | c :: cs => .cons (.int c) (dp_ints cs)
theorem shaped_ints (cs : List Int) : SeqAt.shaped (.list (cs.map PyData.int)) = true := PySem.W.shaped_ints cs
theorem eqv_nil (cs : List Int) : (!PyData.eqv (.list (cs.map PyData.int)) (.list [])) = !cs.isEmpty := by cases cs <;> rfl
theorem at_mod {cs : List Int} {a : Int} (h : 0 < cs.length) : ∃ z, atI (cs.map V.int) (a % (((cs.map V.int).length : Nat) : Int)) = some (.int z) := by
  rw [List.length_map]
  have h1 : 0 ≤ a % (cs.length : Int) := Int.emod_nonneg a (by omega)
  have h2 : a % (cs.length : Int) < cs.length := Int.emod_lt_of_pos a (by omega)
  generalize a % (cs.length : Int) = j at *
  obtain ⟨n, rfl⟩ : ∃ n : Nat, j = (n : Int) := ⟨j.toNat, by omega⟩
  have hn : n < cs.length := by omega
  exact ⟨cs[n], atI_nat (by rw [List.getElem?_map, List.getElem?_eq_getElem hn]; rfl)⟩
theorem mul_mod {x y m : Int} (h : 0 < m) (h2 : m < 2 ^ 64) : CMul (x % m) y := .inl ⟨by have := Int.emod_nonneg x (show m ≠ 0 by omega); omega, by have := Int.emod_lt_of_pos x h; omega⟩
theorem Same.mut {H H' : Hp} {p : Addr} {o : HO} (e : Same H H') (h : H p = none) : Same H (upd H' p o) := fun a u ha => by
  rw [upd_ne (ne_of_none ha h)]
  exact e a u ha
theorem cut63 (ns : List Int) : ∃ cs : List Int, cutV (ns.map V.int) none (some 63) = cs.map V.int ∧ cs.length ≤ 63 := by
  refine ⟨ns.take (min 63 ns.length), ?_, by rw [List.length_take]; omega⟩
  show ((ns.map V.int).drop 0).take (HT.sIx (ns.map V.int).length (ns.map V.int).length (some ((63 : Nat) : Int)) - 0) = _
  rw [HT.sIx_nat, List.drop_zero, Nat.sub_zero, List.length_map, List.map_take]
theorem ints_at {cs : List Int} {i : Nat} {x : V} (h : (cs.map V.int)[i]? = some x) : ∃ z, cs[i]? = some z ∧ x = .int z := by
  rw [List.getElem?_map] at h
  cases e : cs[i]? with
  | none => rw [e] at h; cases h
  | some z => rw [e] at h; exact ⟨z, rfl, (Option.some.inj h).symm⟩
theorem take_int {cs : List Int} {i : Nat} {z : Int} (h : cs[i]? = some z) : (cs.take (i + 1)).map V.int = (cs.take i).map V.int ++ [V.int z] := by
  rw [List.take_succ, h, List.map_append]
  rfl
theorem merge_bag (D : Addr) (f : Int) : mergeK [] [(Sum.inr ("cells" : Str), V.ref D), (Sum.inr "at", .int 0), (Sum.inr "digits", .int 0), (Sum.inr "count", .int 0), (Sum.inr "fold", .int f)] = bagD D 0 0 0 f := by
  simp [mergeK, putK, bagD, n_cells_at, n_cells_digits, n_cells_count, n_cells_fold, n_at_cells, n_at_digits, n_at_count, n_at_fold, n_digits_cells, n_digits_at, n_digits_count, n_digits_fold, n_count_cells, n_count_at, n_count_digits, n_count_fold, n_fold_cells, n_fold_at, n_fold_digits, n_fold_count]
theorem free2 {H : Hp} {p q D : Addr} {o u : HO} (hp : H p = none) (hq : (upd H p o) q = none) (hD : (upd (upd H p o) q u) D = none) : H D = none := by
  have n1 : D ≠ q := fun z => by rw [z, upd_same] at hD; cases hD
  rw [upd_ne n1] at hD
  have n2 : D ≠ p := fun z => by rw [z, upd_same] at hD; cases hD
  rw [upd_ne n2] at hD
  exact hD
theorem mod_in {x m : Int} (h : 0 < m) : 0 ≤ x % m ∧ x % m < m := ⟨Int.emod_nonneg x (by omega), Int.emod_lt_of_pos x h⟩
end RS

set_option maxRecDepth 100000
set_option maxHeartbeats 4000000
namespace RS
open PySem PySem.Spec PyProof.Rows L2 He
/-! ### the head's facts: defs at any path, and any Bool of the fragment -/
abbrev Frg := PySem.W.Frag
/-- a property's getter; a static method's def -/
def prA (K : Frg) (C : Addr) (m : Str) : Addr := match PySem.W.recIn K (ma K C m) "property" with
  | some (.ref g :: _) => g
  | _ => 0
def smA (K : Frg) (C : Addr) (m : Str) : Addr := match PySem.W.recIn K (ma K C m) "staticmethod" with
  | some (.ref g :: _) => g
  | _ => 0
structure DefR where
  adr : Frg → Addr
  name : Str
  qual : Str
  params : Arguments
  body : List Stmt
  scope : Scope
  dfl : List Dv := []
  clo : List Str := []
abbrev FnZ : Type := Option (Str × Str × Arguments × FuncBody × Scope × Addr × List Str × Addr)
def fnA (K : Frg) (a : Addr) : FnZ := match K.lookup a with
  | some ⟨_, _, .func fd, _⟩ => some (fd.name, fd.qualname, fd.params, fd.body, fd.scope, fd.globals, fd.closure.map (·.1), fd.builtins)
  | _ => none
def DefR.val (d : DefR) : FnZ := some (d.name, d.qual, d.params, .stmts d.body, d.scope, mainGlobals, d.clo, builtinsNs)
def DefR.dvs (K : Frg) (d : DefR) : List V := d.dfl.map (Dv.v K)
def DefR.ok (K : Frg) (d : DefR) : Bool := PySem.W.keepIn K (.ref (d.adr K)) && (match K.lookup (d.adr K) with
  | some ⟨_, _, .func fd, _⟩ => PySem.W.codeIn K fd.code d.qual && dflB K fd.defaults (d.dvs K)
  | _ => false)
theorem DefR.funD {K : Frg} {d : DefR} (e : fnA K (d.adr K) = d.val) (c : d.ok K = true) (hclo : d.clo = []) : ∃ fd, FunD K d.name d.qual d.params d.body d.scope (d.dvs K) [] (d.adr K) fd := by
  obtain ⟨kp, c2⟩ := ba c
  unfold fnA at e
  cases q : K.lookup (d.adr K) with
  | none =>
    rw [q] at c2
    cases c2
  | some o =>
    obtain ⟨oc, od, dt, osl⟩ := o
    rw [q] at c2 e
    cases dt with
    | func fd =>
      obtain ⟨n1, n2, n3, n4, n5, n6, n7, n8, n9, n10, n11, n12, n13, n14, n15⟩ := fd
      have e2 : (some (n1, n2, n3, n4, n5, n6, n7.map (·.1), n15) : FnZ) = some (d.name, d.qual, d.params, .stmts d.body, d.scope, mainGlobals, d.clo, builtinsNs) := e
      rw [hclo] at e2
      simp only [Option.some.injEq, Prod.mk.injEq, List.map_eq_nil_iff] at e2
      obtain ⟨h1, h2, h3, h4, h5, h6, h7, h8⟩ := e2
      subst h1 h2 h3 h4 h5 h6 h7 h8
      have c3 : (PySem.W.codeIn K n13 d.qual && dflB K n8 (d.dvs K)) = true := c2
      obtain ⟨k1, k2⟩ := ba c3
      exact ⟨_, ⟨oc, od, n8, n9, n10, n11, n12, n13, n14, osl, rfl, q, k1, dflB_ok k2, .inl rfl⟩, kp⟩
    | _ => cases c2
def asR (g : Addr → Option Obj) : Nat → List Addr
  | 0 => [mainGlobals, cStatics]
  | n + 1 => growD g (asR g n)
abbrev AlR : Type := Bool × List FnZ
def obsR (ex : Frg → Bool) (fn : List DefR) (K : Frg) : AlR := (ex K && fn.all fun d => d.ok K, fn.map fun d => fnA K (d.adr K))
def valR (fn : List DefR) : AlR := (true, fn.map DefR.val)
def SaysR (ex : Frg → Bool) (fn : List DefR) (K : Frg) : Prop := obsR ex fn K = valR fn
def obsRG (n : Nat) (ex : Frg → Bool) (fn : List DefR) (g : Addr → Option Obj) : AlR := obsR ex fn (frG g (asR g n))
def hookR (n : Nat) (ex : Frg → Bool) (fn : List DefR) : PySem.W.Hook where
  α := AlR
  obs := fun s => obsRG n ex fn s.heap.get?
  val := fun _ => valR fn
  says := fun _ h => ∃ K : Frg, K.In h ∧ SaysR ex fn K
  of := fun _ _ e => ⟨_, frG_in, e⟩
  keeps := fun _ _ _ ⟨K, hK, c⟩ k => ⟨K, PySem.W.Frag.In.keeps hK k, c⟩
theorem obsRG_eq {n : Nat} {ex : Frg → Bool} {fn : List DefR} {g : Addr → Option Obj} {s : Shared} (h : ∀ a, g a = s.heap.get? a) : obsRG n ex fn g = (hookR n ex fn).obs s := by
  have e : g = s.heap.get? := funext h
  rw [e] <;> rfl
section
variable {ex : Frg → Bool} {fn : List DefR} {K : Frg}
theorem SaysR.more (c : SaysR ex fn K) : ex K = true := (ba (show (ex K && fn.all fun d => d.ok K) = true from congrArg (fun z : AlR => z.1) c)).1
theorem SaysR.def_ (c : SaysR ex fn K) (i : Nat) {d : DefR} (h : fn[i]? = some d := by rfl) (hclo : d.clo = [] := by rfl) : ∃ fd, FunD K d.name d.qual d.params d.body d.scope (d.dvs K) [] (d.adr K) fd := by
  have c2 := (ba (show (ex K && fn.all fun d => d.ok K) = true from congrArg (fun z : AlR => z.1) c)).2
  have e : fn.map (fun d => fnA K (d.adr K)) = fn.map DefR.val := congrArg (fun z : AlR => z.2) c
  have e2 : (fn.map fun d => fnA K (d.adr K))[i]? = (fn.map DefR.val)[i]? := by rw [e]
  rw [List.getElem?_map, List.getElem?_map, h] at e2
  exact DefR.funD (Option.some.inj e2) (List.all_eq_true.mp c2 d (List.mem_of_getElem? h)) hclo
theorem SaysR.val_ (c : SaysR ex fn K) (i : Nat) {d : DefR} (h : fn[i]? = some d := by rfl) : fnA K (d.adr K) = d.val := by
  have e : fn.map (fun d => fnA K (d.adr K)) = fn.map DefR.val := congrArg (fun z : AlR => z.2) c
  have e2 : (fn.map fun d => fnA K (d.adr K))[i]? = (fn.map DefR.val)[i]? := by rw [e]
  rw [List.getElem?_map, List.getElem?_map, h] at e2
  exact Option.some.inj e2
end
/-! ### facts as Bools -/
def freeB (K : Frg) (x : Str) : Bool := (Fa.free x).ok K
def gloB (K : Frg) (x : Str) : Bool := (Fa.glo x).ok K
def clsB (K : Frg) (x : Str) : Bool := (Fa.cls x).ok K
def noatB (K : Frg) (x f : Str) : Bool := (Fa.noat x f).ok K
def methB (K : Frg) (x f : Str) : Bool := (Fa.meth x f).ok K
def mkrB (K : Frg) (x : Str) : Bool := (Fa.mkr x).ok K
def prpB (K : Frg) (x m : Str) : Bool := eqO (PySem.W.findIn K (.ref (ga K x)) m) (some (some (.ref (ma K (ga K x) m)))) &&
  (eqO (PySem.W.specialIn K (.ref (ma K (ga K x) m)) "__get__") (some (some (.builtin "property.__get__"))) && (decide (PySem.W.takesIn K (.ref (ma K (ga K x) m)) = some true) &&
  (match PySem.W.recIn K (ma K (ga K x) m) "property" with
  | some (.ref g :: _) => decide (g = prA K (ga K x) m)
  | _ => false)))
theorem prpB_ok {K : Frg} {x m : Str} (h : prpB K x m = true) : PropOf K (ga K x) m (ma K (ga K x) m) (prA K (ga K x) m) := by
  obtain ⟨h1, h⟩ := ba h
  obtain ⟨h2, h⟩ := ba h
  obtain ⟨h3, h4⟩ := ba h
  refine ⟨eqO_ok h1, eqO_ok h2, of_decide_eq_true h3, ?_⟩
  split at h4
  · rename_i g rest e
    exact ⟨rest, by rw [e, of_decide_eq_true h4]⟩
  · cases h4
/-- attributes of the class x are read in the plain way -/
def crdB (K : Frg) (x : Str) : Bool := PySem.W.readsIn K (ga K x) (.type "type") && eqO (PySem.W.specialIn K (.ref (ga K x)) "__getattribute__") (some (some (.builtin "type.__getattribute__")))
theorem crdB_ok {K : Frg} {x : Str} (h : crdB K x = true) : ClX.CRead K (ga K x) (.type "type") := by
  obtain ⟨h1, h2⟩ := ba h
  exact ⟨h1, eqO_ok h2⟩
def stcB (K : Frg) (x m : Str) : Bool := (match PySem.W.findCls K (.ref (ga K x)) (.type "type") m with
  | some (.get (.builtin i) (.ref p) .none (.ref C)) => decide (i = "staticmethod.__get__") && (decide (p = ma K (ga K x) m) && decide (C = ga K x))
  | _ => false) && (match PySem.W.recIn K (ma K (ga K x) m) "staticmethod" with
  | some (.ref g :: _) => decide (g = smA K (ga K x) m)
  | _ => false)
theorem stcB_ok {K : Frg} {x m : Str} (h : stcB K x m = true) : PySem.W.findCls K (.ref (ga K x)) (.type "type") m = some (.get (.builtin "staticmethod.__get__") (.ref (ma K (ga K x) m)) .none (.ref (ga K x))) ∧
    ∃ rest, PySem.W.recIn K (ma K (ga K x) m) "staticmethod" = some (.ref (smA K (ga K x) m) :: rest) := by
  obtain ⟨h1, h2⟩ := ba h
  constructor
  · split at h1
    · rename_i i p C e
      obtain ⟨a, b⟩ := ba h1
      obtain ⟨b, c⟩ := ba b
      rw [e, of_decide_eq_true a, of_decide_eq_true b, of_decide_eq_true c]
    · cases h1
  · split at h2
    · rename_i g rest e
      exact ⟨rest, by rw [e, of_decide_eq_true h2]⟩
    · cases h2
/-- what isinstance asks of an instance of the class x -/
structure IsiC (K : Frg) (C : Addr) : Prop where
  cl : Cls K C
  ca : PySem.W.findIn K (.ref C) "__class__" = some (some (.builtin "object.__class__"))
  cn : PySem.W.specialIn K (.builtin "object.__class__") "__get__" = some (some (.builtin "getset_descriptor.__get__"))
  ct : PySem.W.takesIn K (.builtin "object.__class__") = some true
  cm : PySem.W.mroIn K C (.type "object") = some true
def isiB (K : Frg) (x : Str) : Bool := clsB K x && (eqO (PySem.W.findIn K (.ref (ga K x)) "__class__") (some (some (.builtin "object.__class__"))) &&
  (eqO (PySem.W.specialIn K (.builtin "object.__class__") "__get__") (some (some (.builtin "getset_descriptor.__get__"))) && (decide (PySem.W.takesIn K (.builtin "object.__class__") = some true) && decide (PySem.W.mroIn K (ga K x) (.type "object") = some true))))
theorem isiB_ok {K : Frg} {x : Str} (h : isiB K x = true) : IsiC K (ga K x) := by
  obtain ⟨h0, h⟩ := ba h
  obtain ⟨h1, h⟩ := ba h
  obtain ⟨h2, h⟩ := ba h
  obtain ⟨h3, h4⟩ := ba h
  exact ⟨cls_ok h0, eqO_ok h1, eqO_ok h2, of_decide_eq_true h3, of_decide_eq_true h4⟩
theorem IsiC.ty {K : Frg} {C : Addr} (c : IsiC K C) {H : Hp} {a dx : Addr} {fs : List (Str × V)} (e : H a = some (.ins C dx fs)) : TyX K H (.ref a) (.ref C) := .base (.ins e c.cl c.ca c.cn c.ct c.cm)
def neB (K : Frg) (x : Str) : Bool := eqO (PySem.W.findIn K (.ref (ga K x)) "__ne__") (some (some (.builtin "object.__ne__"))) && decide (PySem.W.mroIn K (ga K x) (.type "object") = some true)
theorem neB_ok {K : Frg} {x : Str} (h : neB K x = true) : NoNe K (ga K x) := by
  obtain ⟨h1, h2⟩ := ba h
  exact ⟨eqO_ok h1, of_decide_eq_true h2⟩
def kitB1 (K : Frg) (t c : Value) (b : Bool) : Bool := decide (PySem.W.kitOne K t c = some b)
end RS

set_option maxRecDepth 100000
set_option maxHeartbeats 4000000
/-! ### own exceptions whose __init__ calls the base's by super() -/
namespace PySem.RSX
open PySem PySem.W PySem.F PySem.Calls PyProof.Rows PySem.ESX
section
variable {prog : Program} {w : World} {A : Around} {E : Value → Shared → Prop} {h : Heap} {g : Array GenState} {d : Drawn} {t : Nat} {os : OsState}
variable {nm q : Str} {C N : Addr} {bs bm : List Value} {hdct : Bool} {sn : List Str} {sub : List Value} {ab : Bool} {col : Option Bool} {dd : Option Addr} {k0 k1 k2 k3 k5 : Option Value}
theorem call_mw {u e t0 : Addr} {rest : List Value} {Q : Value → Shared → Prop}
    (hC : h.get? C = some (excClassObj nm q C N bs bm hdct sn sub ab col dd k0 k1 k2 k3 k5 "ValueError.__new__")) (he : h.get? e = some (HandSPX.excO C t0)) (hu : h.get? u = some (kxs_mw "ValueError.__init__" e)) (hrest : rest.length ≤ sizeLine)
    (hq : ∀ h' t1, (∀ b o, b ≠ e → h.get? b = some o → h'.get? b = some o) → h'.get? e = some (HandSPX.excO C t1) → Q .none ⟨h', g, d, t, os⟩) :
    wpAny (model prog w) A (call (.ref u) rest) Q E ⟨h, g, d, t, os⟩ := by
  refine wpAny_call (codeAny_of_tree ?_)
  show wpAny _ A.in1 (callAny (.ref u) ⟨rest, []⟩) _ _ _
  simp only [callAny]
  refine wpAny_bind (wpAny_load hu ?_)
  simp only [kxs_mw, show (Value.type "method-wrapper" == Value.type "method" || Value.type "method-wrapper" == Value.type "builtin_function_or_method" || Value.type "method-wrapper" == Value.type "method-wrapper") = true by decide, if_true]
  refine W.KFB.if_so (by decide) ?_
  refine wpAny_bind (check_bound F.excBase_ValueError hC he rfl ?_)
  refine wpAny_bind (wpAny_pure (wpAny_pure ?_))
  refine ⟨Code.quiet_builtin _ (by decide +kernel), codeAny_builtin F.excBase_ValueError.initEntry ?_⟩
  rw [Around.under_plainId F.excBase_ValueError.init.plain _]
  wp_walk
  refine hq _ h.objs.size (fun b o hb ho => ?_) ?_
  · rw [Heap.get?_update_other _ _ (Ne.symm hb)]
    exact Heap.get?_push_of_some _ ho
  · rw [Heap.get?_update_self _ (Heap.get?_push_of_some _ he) rfl]
    rfl
end
end PySem.RSX
namespace RS
open PySem PySem.Spec PyProof.Rows L2 NdefX
/-- the class at C: an own exception (its __init__ says super().__init__(..)) -/
structure SupC (K : Frg) (C : Addr) : Prop where
  ox : OexC K C
  sup : PySem.W.ks_superIn K C C "__init__" = some (some (.builtin "ValueError.__init__"))
  op : PySem.W.nsIn K cStatics "thirdparty.any" = some none
  ve : PySem.W.mroIn K C (.type "ValueError") = some true
  me : PySem.W.mroIn K C (.ref C) = some true
/-- the def at f: closed over the cell of its class C -/
structure FunX (K : Frg) (P : Program) (name qual : Str) (params : Arguments) (body : List Stmt) (scope : Scope) (C : Addr) (f : Addr) (fd : FuncData) : Prop where
  ex : ∃ (oc : Value) (od : Option Addr) (doc pm ct : Value) (an : Option Addr) (cda cc : Addr) (osl : Array (Option Value)),
    fd = PySem.W.fnX name qual params body scope [("__class__", cc)] .none .none doc pm an (.ref cda) ct ∧ K.lookup f = some ⟨oc, od, .func fd, osl⟩ ∧ PySem.W.codeIn K (.ref cda) qual = true ∧
    (∃ ccl cdd vs ccs file tf, K.lookup cda = some ⟨ccl, cdd, .fields vs, ccs⟩ ∧ vs[2]? = some (.str file tf) ∧ (P.main.file == file) = true) ∧ ∃ cl cld csl, K.lookup cc = some ⟨cl, cld, .cell (some (.ref C)), csl⟩
  kp : PySem.W.keepIn K (.ref f) = true
abbrev supCall (p0 p1 ap cp pc : Pos) (j : Nat) (msg : Str) : Expr := .Call (.Attribute (.Call (.Name "super" p0) [] [] p1) "__init__" ap) [.Constant (.str msg) j pc] [] cp
section
variable {P : Program} {w : World} {K : Frg} {mg : Str → Option Value} {base : Heap} {CX : CXT} {k : Nat} {x qual s0 msg : Str} {params : Arguments} {rest : List Stmt} {scope : Scope} {C f : Addr} {fd : FuncData} {N ps : List Str} {sp : Sp} {p0 p1 ap cp pc sp0 : Pos} {j : Nat} {ar : Arg}
theorem fnx_of (F : FunX K P x qual params (.Expr (supCall p0 p1 ap cp pc j msg) sp0 :: rest) scope C f fd) (S : NScope N (s0 :: ps) ["__class__"] scope) (T : SupC K C)
    (hp : (params.posonlyargs ++ params.args).head? = some ar) (har : ar.arg = s0) (hs : scope.names.lookup ("super" : Str) = some .globalImplicit) (hmg : mg "super" = none) (htop : (P.main.scope.names.lookup ("super" : Str)).isSome = false)
    (hev : ∀ L cda cc : Addr, ∃ pl : Sem Bool, eval (supCall p0 p1 ap cp pc j msg) (PySem.W.envX qual scope L f (.ref cda) [("__class__", cc)]) = (do
      let ov ← attributeBase (.Call (.Name "super" p0) [] [] p1) "__init__" (PySem.W.envX qual scope L f (.ref cda) [("__class__", cc)]) (eval (.Call (.Name "super" p0) [] [] p1) (PySem.W.envX qual scope L f (.ref cda) [("__class__", cc)]))
      standAt ap.atName
      let (g, first) ← holding [ov] (getMethod ov "__init__" pl)
      callWith cp g first (backTo cp (starEach [.Constant (.str msg) j pc] (PySem.W.envX qual scope L f (.ref cda) [("__class__", cc)]))) []))
    (hsw : ∀ L cda cc : Addr, swapsWith (supCall p0 p1 ap cp pc j msg) none sp0.line (PySem.W.envX qual scope L f (.ref cda) [("__class__", cc)]) = pure false)
    (len : ∀ vs H Q E, sp vs H Q E → vs.length = (s0 :: ps).length)
    (hbody : ∀ (cda cc : Addr) (A : Around) (outer : List Env) (s : Shared) (H : Hp) (vs : List V) (Q : VK) (E : XK), Room k (A.deeper (envF ⟨x, qual, params, [], scope, [("__class__", cc)], cda⟩ f s.heap.objs.size)) → sp vs H Q E →
      ∃ (a : Addr) (ws : List V) (t : TS), vs = .ref a :: ws ∧ H a = some (exo a C none) ∧ PSs (ncx CX P w K mg base N ⟨x, qual, params, [], scope, [("__class__", cc)], cda⟩ f A outer s H E) rest t ∧
        t { nx := fun _ H' => Q .non H', rt := Q } (startF N vs [some (.ref C)]) H) :
    FnOk P w K mg base CX (k + 1) f fd (s0 :: ps) sp := by
  obtain ⟨oc, od, doc, pm, ct, an, cda, cc, osl, rfl, lk, hcd, ⟨ccl, cdd, vs0, ccs, file, tf, hcode, hvs, hfile⟩, ⟨cl, cld, csl, hcell⟩⟩ := F.ex
  refine ⟨len, fun A outer s H args us vs Q E hr e0 hb r hsp => ?_⟩
  have hl := len _ _ _ _ hsp
  have KX : K.In s.heap := e0.mod.kin.keeps fun b o e => (e0.bs b o e).1
  have lim : s.heap.NoLimit := e0.mod.nolimit.keeps fun b o e => (e0.bs b o e).1
  refine ks_codeAny_call_defAt (body := (.Expr (supCall p0 p1 ap cp pc j msg) sp0 :: rest)) (binds := (s0 :: ps).zip us) hr.depth (KX _ _ lk) rfl lim (PySem.W.codeRec_of KX hcd) rfl hb S.nocell (fun y hy => S.par y.1 (List.of_mem_zip hy).1) (fun h₁ hns kp => ?_) S.co S.gen S.kind
  have CA : CellsAt [("__class__", cc)] ["__class__"] [some (.ref C)] s.heap H := by
    have e1 : s.heap.IsCell cc (some (.ref C)) := ⟨_, KX _ _ hcell, rfl⟩
    have e2 : H cc = none := (e0.bs cc _ (e0.mod.kin _ _ hcell)).2
    have lk1 : ∀ {y : Str} {c : Addr}, List.lookup y [(("__class__" : Str), cc)] = some c → y = "__class__" ∧ c = cc := fun {y c} z => by
      have z2 := PySem.mem_of_lookup z
      simp at z2
      exact z2
    refine ⟨rfl, fun y c z => ?_, fun y z c h1 h2 => ?_, fun i y h => ?_⟩
    · obtain ⟨_, rfl⟩ := lk1 z
      exact ⟨e2, _, e1⟩
    · rw [(lk1 h1).1, (lk1 h2).1]
    · have hi : i < 1 := (List.getElem?_eq_some_iff.mp h).1
      obtain rfl : i = 0 := by omega
      obtain rfl := Option.some.inj h
      refine ⟨cc, by simp [List.lookup], fun v hv => ?_⟩
      obtain rfl := Option.some.inj (Option.some.inj hv)
      exact ⟨_, rfl, e1⟩
  obtain ⟨a, ws, tt, rfl, ha, ht, hq⟩ := hbody cda cc A outer s H vs Q E (hr.deeper _) hsp
  have I : Inv (ncx CX P w K mg base N ⟨x, qual, params, [], scope, [("__class__", cc)], cda⟩ f A outer s H E) [] (startF N (.ref a :: ws) [some (.ref C)]) H { s with heap := h₁, toks := s.toks + ((s0 :: ps).zip us).length } := inv_startN S hr.hd e0 hl r CA hns kp
  obtain ⟨us0, rfl⟩ : ∃ us0, us = .ref a :: us0 := by
    cases r with
    | @cons _ u0 _ ur ra rw' =>
      obtain rfl : u0 = Value.ref a := ra
      exact ⟨ur, rfl⟩
  refine PySem.ks_wpAt_mono (Q := SP (ncx CX P w K mg base N ⟨x, qual, params, [], scope, [("__class__", cc)], cda⟩ f A outer s H E) [] { nx := fun _ H' => Q .non H', rt := Q }) (E := (ncx CX P w K mg base N ⟨x, qual, params, [], scope, [("__class__", cc)], cda⟩ f A outer s H E).xe) ?_ (fun fl s' hs => ?_) fun e s' hs => hs
  · have hc0 : ∃ cd, PySem.W.clsIn K C = some cd := by
      cases q : PySem.W.clsIn K C with
      | none =>
        have z := T.sup
        unfold PySem.W.ks_superIn at z
        rw [q] at z
        cases z
      | some cd => exact ⟨cd, rfl⟩
    obtain ⟨cd, hcd2⟩ := hc0
    have hal : PySem.W.alongIn K "__init__" ((cd.mro.dropWhile (· != .ref C)).drop 1) = some (some (.builtin "ValueError.__init__")) := by
      have z := T.sup
      unfold PySem.W.ks_superIn at z
      rw [hcd2] at z
      exact z
    have KX1 : K.In h₁ := I.kIn
    obtain ⟨oD, hD1, hD2⟩ : ∃ oD, h₁.get? C = some oD ∧ oD.data = .cls cd := by
      unfold PySem.W.clsIn at hcd2
      split at hcd2
      · rename_i c d cd' sl ho
        cases hcd2
        exact ⟨_, KX1 _ _ ho, rfl⟩
      · cases hcd2
    obtain ⟨t1, hax⟩ := exo_at I.hok ha
    have hself : scope.names.lookup s0 = some .local := S.par s0 (List.mem_cons_self ..)
    have IA : PySem.W.InstAt h₁ a { cls := .ref C, dict := none, data := .fields #[.ref t1, .none, .none, .none, .bool false, .none] } C none := ⟨hax, rfl, rfl, trivial⟩
    obtain ⟨pl, he⟩ := hev s.heap.objs.size cda cc
    refine PySem.ks_wpAt_execs_cons (PySem.ks_wpAt_Expr_any (PySem.ks_wpAt_MethodCall (pl := pl) ?_ he) I.quiet (hsw s.heap.objs.size cda cc))
    have kfr : scope.names.lookup ("__class__" : Str) = some .free := S.frk _ (List.mem_cons_self ..)
    refine PySem.ks_wpAt_super_base (f := f) hs kfr (by decide) rfl (KX1 _ _ lk) rfl hp rfl (KX1 _ _ hcode) rfl hvs hfile htop ?_
    obtain ⟨mb, hb1, hb2⟩ := I.mod.blt
    refine PySem.W.ks_loadName_global S.kind hs (PySem.Calls.loadGlobal_builtin (I.mod.glob.keeps I.bk) hmg (hb1.keeps I.bk) ((hb2 _ (by decide)).trans (by decide +kernel : bootBuiltins "super" = some (.type "super"))) ⟨rfl, ?_⟩)
    refine wpAny_loadName_free S.kind kfr rfl ⟨_, KX1 _ _ hcell, rfl⟩ ?_
    have ndP : (s0 :: ps).Nodup := by
      have q := S.nd.sublist (List.take_sublist ((s0 :: ps).length + (["__class__"] : List Str).length) N)
      rw [S.pre] at q
      exact (List.nodup_append.mp q).1
    refine wpAny_loadName_local (v := .ref a) S.kind (by rw [har]; exact hself) hns (by rw [har]; exact zip_look (i := 0) (us := Value.ref a :: us0) ndP rfl rfl) ?_
    refine PySem.ks_wpAny_isType_cls hD1 hD2 ⟨rfl, ?_⟩
    refine PySem.ks_wpAny_call_super hD1 hD2 hax rfl (fun c e => by cases e) (PySem.W.looks_mroIn KX1 T.me) (fun h2 e2 k2 => ?_)
    have I2 : Inv (ncx CX P w K mg base N ⟨x, qual, params, [], scope, [("__class__", cc)], cda⟩ f A outer s H E) [] (startF N (.ref a :: ws) [some (.ref C)]) H { s with heap := h2, toks := s.toks + ((s0 :: ps).zip (Value.ref a :: us0)).length } := I.kept k2
    have hC2 : PySem.W.Looks (model P w) h2 (mroOf (.ref C)) cd.mro := fun A Q E s k q => wpAny_bind ((PySem.W.looks_clsIn I2.kIn hcd2) A _ E s k (wpAny_pure q))
    have IA2 : PySem.W.InstAt h2 a { cls := .ref C, dict := none, data := .fields #[.ref t1, .none, .none, .none, .bool false, .none] } C none := ⟨k2 _ _ hax, rfl, rfl, trivial⟩
    refine PySem.W.kxs_getMethod PySem.W.kxs_ValueError e2 (PySem.W.looks_opaque I2.kIn T.op) hC2 rfl I2.kIn hal (IA2.type.andThen (PySem.W.looks_mroIn I2.kIn T.ve)) (PySem.W.ks_ne KX1 IA hcd2) (by decide) ?_
    -- the call of the bound __init__
    have hu0 : (h2.push (PySem.W.kxs_mw "ValueError.__init__" a)).get? h2.objs.size = some (PySem.W.kxs_mw "ValueError.__init__" a) := by heap_get
    have hn0 : H h2.objs.size = none := I2.hok.fresh (Nat.le_refl _)
    have I3 : Inv (ncx CX P w K mg base N ⟨x, qual, params, [], scope, [("__class__", cc)], cda⟩ f A outer s H E) [(h2.objs.size, PySem.W.kxs_mw "ValueError.__init__" a)] (startF N (.ref a :: ws) [some (.ref C)]) H
        { s with heap := h2.push (PySem.W.kxs_mw "ValueError.__init__" a), toks := s.toks + ((s0 :: ps).zip (Value.ref a :: us0)).length + 1 } := by
      have I3' : Inv (ncx CX P w K mg base N ⟨x, qual, params, [], scope, [("__class__", cc)], cda⟩ f A outer s H E) [] (startF N (.ref a :: ws) [some (.ref C)]) H
        { s with heap := h2.push (PySem.W.kxs_mw "ValueError.__init__" a), toks := s.toks + ((s0 :: ps).zip (Value.ref a :: us0)).length + 1 } := I2.kept (fun b o e => Heap.get?_push_of_some _ e)
      refine I3'.pins_of fun p hp => ?_
      obtain rfl : p = (h2.objs.size, PySem.W.kxs_mw "ValueError.__init__" a) := by simpa using hp
      exact ⟨hu0, hn0, Nat.ne_of_gt I2.lt, I2.nofs (Nat.le_refl _), fun v z => by cases z⟩
    refine PySem.W.kxs_callWith (i := "ValueError.__init__") (x := a) (by rfl) ?_
    have pst : ∀ X : Cx, PA X [.Constant (.str msg) j pc] (tCons (tC (.str msg)) tNil) := fun X => pa_cons pe_str pa_nil
    have ha3 := (pst (ncx CX P w K mg base N ⟨x, qual, params, [], scope, [("__class__", cc)], cda⟩ f A outer s H E)).run cp _ _ _ H (fun vs H' => vs = [.str msg] ∧ H' = H) I3 ⟨rfl, rfl⟩
    refine PySem.Calls.evalArgs_plain (thn ha3 fun vs s1 hh => ?_)
    obtain ⟨xs, H', I4, rv, rfl, rfl⟩ := hh
    have hu4 : s1.heap.get? h2.objs.size = some (PySem.W.kxs_mw "ValueError.__init__" a) := (I4.pin _ (List.mem_append_right _ (List.mem_singleton.mpr rfl))).1
    have hlen : vs.length ≤ sizeLine := by
      rw [← Paired.length rv, sizeLine_eq]
      show 1 ≤ 16777216; decide
    refine ⟨hu4, ?_⟩
    obtain ⟨nm, q, N', bs, bm, sn, sub, ab, col, dd, k0, k1, k2', k3, k5, hC, hbm⟩ := T.ox.cls
    obtain ⟨t4, hax4⟩ := exo_at I4.hok ha
    obtain ⟨hp4, g4, d4, tk4, os4⟩ := s1
    refine PySem.RSX.call_mw (I4.kIn _ _ hC) hax4 hu4 hlen fun h5 t5 k5 hx5 => ?_
    have I4' := I4.pins_of (pins' := []) (fun p hp => absurd hp (by simp))
    have J := I4'.write (t' := tk4) (x := a) (e := a) (o := exo a C none) (by rw [ha]; exact True.intro) (.inl rfl) k5 ⟨_, hx5⟩ (exo_ok hx5)
    have eu : upd H' a (exo a C none) = H' := by
      funext b
      by_cases hb : b = a
      · rw [hb, upd_same, ha]
      · rw [upd_ne hb]
    rw [eu] at J
    exact wpAt_of_wpAny (ht.run [] _ _ _ _ J hq)
  · have fin : ∀ {σ' : L2.St} {H' : Hp} {v : V} {u : Value}, Inv (ncx CX P w K mg base N ⟨x, qual, params, [], scope, [("__class__", cc)], cda⟩ f A outer s H E) [] σ' H' s' → RelV v u → Q v H' → CE outer P w H s Q u s' :=
      fun {σ' H' v u} J rv q => ⟨v, H', J.os, J.bare, J.base, J.hok, rv, q⟩
    cases fl with
    | ret u =>
      obtain ⟨v, σ', H', J, rv, q⟩ := hs
      exact fin J rv q
    | next =>
      obtain ⟨σ', H', J, q⟩ := hs
      exact fin (v := V.non) (u := Value.none) J rfl q
    | brk =>
      obtain ⟨_, _, _, q⟩ := hs
      exact False.elim q
    | cont =>
      obtain ⟨_, _, _, q⟩ := hs
      exact False.elim q
end
end RS

set_option maxRecDepth 100000
set_option maxHeartbeats 4000000
namespace RS
open PySem PySem.Spec PyProof.Rows L2 NdefX He
/-! ### the facts of an own exception class, as Bools -/
def oexB (K : Frg) (C : Addr) : Bool := match K.lookup C with
  | some ⟨.type "type", _, .cls cd, sl⟩ => (match cd.mro, sl.toList with
    | .ref C' :: bm, [_, _, _, _, some (.builtin n), _] => C' == C && n == "ValueError.__new__" && !cd.hasDel && cd.hasDict && PySem.HandSPX.refsVE bm
    | _, _ => false)
  | _ => false
theorem oexB_ok {K : Frg} {C : Addr} (q : oexB K C = true) : ∃ nm q N bs bm sn sub ab col dd k0 k1 k2 k3 k5, K.lookup C = some (excClassObj nm q C N bs bm true sn sub ab col dd k0 k1 k2 k3 k5 "ValueError.__new__") ∧ PySem.HandSPX.refsVE bm = true := by
  unfold oexB at q
  split at q
  · rename_i dd cd sl ho
    split at q
    · rename_i C' bm k0 k1 k2 k3 n k5 hm hs
      simp only [Bool.and_eq_true, beq_iff_eq, Bool.not_eq_true'] at q
      obtain ⟨⟨⟨⟨rfl, rfl⟩, hdel⟩, hdc⟩, ht⟩ := q
      obtain ⟨nm, bs, mro, ns, qn, hd, sn, sub, ab, col, del⟩ := cd
      dsimp only at hm hdel hdc
      subst hm hdel hdc
      have hsl : sl = #[k0, k1, k2, k3, some (.builtin "ValueError.__new__"), k5] := by
        obtain ⟨l⟩ := sl
        simp only at hs
        rw [hs]
      subst hsl
      exact ⟨nm, qn, ns, bs, bm, sn, sub, ab, col, dd, k0, k1, k2, k3, k5, ho, ht⟩
    · cases q
  · cases q
/-- C: an own exception class, with the names of its fields -/
structure ExcT (K : Frg) (C : Addr) : Prop where
  sup : SupC K C
  xf : XfC K C
  is : ExcC K C
def excB (K : Frg) (x : Str) : Bool := oexB K (ga K x) && (eqO (PySem.W.findIn K (.ref (ga K x)) "__setattr__") (some (some (.builtin "object.__setattr__"))) && (decide (PySem.W.subIn K (.ref (ga K x)) (.type "BaseException") = some true) &&
  (decide (PySem.W.typeIn K (.ref (ga K x)) = some (.type "type")) && (PySem.W.keepIn K (.ref (ga K x)) && (eqO (PySem.W.ks_superIn K (ga K x) (ga K x) "__init__") (some (some (.builtin "ValueError.__init__"))) &&
  (eqO (PySem.W.nsIn K cStatics "thirdparty.any") (some none) && (decide (PySem.W.mroIn K (ga K x) (.type "ValueError") = some true) && (decide (PySem.W.mroIn K (ga K x) (.ref (ga K x)) = some true) && (xfB K (ga K x) &&
  (eqO (PySem.W.findIn K (.ref (ga K x)) "__class__") (some (some (.builtin "object.__class__"))) && (eqO (PySem.W.specialIn K (.builtin "object.__class__") "__get__") (some (some (.builtin "getset_descriptor.__get__"))) &&
  (decide (PySem.W.takesIn K (.builtin "object.__class__") = some true) && decide (PySem.W.mroIn K (ga K x) (.type "object") = some true)))))))))))))
theorem excB_ok {K : Frg} {x : Str} (h : excB K x = true) : ExcT K (ga K x) := by
  obtain ⟨h1, h⟩ := ba h
  obtain ⟨h2, h⟩ := ba h
  obtain ⟨h3, h⟩ := ba h
  obtain ⟨h4, h⟩ := ba h
  obtain ⟨h5, h⟩ := ba h
  obtain ⟨h6, h⟩ := ba h
  obtain ⟨h7, h⟩ := ba h
  obtain ⟨h8, h⟩ := ba h
  obtain ⟨h9, h⟩ := ba h
  obtain ⟨h10, h⟩ := ba h
  obtain ⟨h11, h⟩ := ba h
  obtain ⟨h12, h⟩ := ba h
  obtain ⟨h13, h14⟩ := ba h
  have X := xfB_ok h10
  exact ⟨⟨⟨oexB_ok h1, eqO_ok h2, of_decide_eq_true h3, of_decide_eq_true h4, h5⟩, eqO_ok h6, eqO_ok h7, of_decide_eq_true h8, of_decide_eq_true h9⟩, X, ⟨X.ga, X.gg, X.exC, X.hdC, eqO_ok h11, eqO_ok h12, of_decide_eq_true h13, of_decide_eq_true h14⟩⟩
/-- the __init__ of such a class: it stands in the fragment, closed over the class's cell -/
def inA (K : Frg) (x : Str) : Addr := ma K (ga K x) "__init__"
def clxB (K : Frg) (x file : Str) : Bool := PySem.W.keepIn K (.ref (inA K x)) && (eqO (PySem.W.findIn K (.ref (ga K x)) "__init__") (some (some (.ref (inA K x)))) && (decide (PySem.W.typeIn K (.ref (inA K x)) = some (.type "function")) &&
  (match K.lookup (inA K x) with
  | some ⟨_, _, .func fd, _⟩ => eqO (some (some fd.defaults)) (some (some .none)) && (eqO (some (some fd.kwdefaults)) (some (some .none)) && (match fd.code with
    | .ref c => PySem.W.codeIn K (.ref c) fd.qualname && (match K.lookup c with
      | some ⟨_, _, .fields vs, _⟩ => (match vs[2]? with | some (Value.str fl _) => decide (fl = file) | _ => false)
      | _ => false)
    | _ => false) && (match fd.closure with
    | [(_, cc)] => (match K.lookup cc with
      | some ⟨_, _, .cell (some (.ref C)), _⟩ => decide (C = ga K x)
      | _ => false)
    | _ => false))
  | _ => false)))
theorem clxB_ok {K : Frg} {x file : Str} {d : DefR} {P : Program} (h : clxB K x file = true) (ha : d.adr K = inA K x) (e : fnA K (d.adr K) = d.val) (hclo : d.clo = (["__class__"] : List Str)) (hf : P.main.file = file) :
    ∃ fd, FunX K P d.name d.qual d.params d.body d.scope (ga K x) (inA K x) fd ∧ PySem.W.findIn K (.ref (ga K x)) "__init__" = some (some (.ref (inA K x))) ∧ PySem.W.typeIn K (.ref (inA K x)) = some (.type "function") := by
  obtain ⟨h1, h⟩ := ba h
  obtain ⟨h2, h⟩ := ba h
  obtain ⟨h3, c2⟩ := ba h
  rw [ha] at e
  unfold fnA at e
  cases q : K.lookup (inA K x) with
  | none =>
    rw [q] at c2
    cases c2
  | some o =>
    obtain ⟨oc, od, dt, osl⟩ := o
    rw [q] at c2 e
    cases dt with
    | func fd =>
      obtain ⟨n1, n2, n3, n4, n5, n6, n7, n8, n9, n10, n11, n12, n13, n14, n15⟩ := fd
      have e2 : (some (n1, n2, n3, n4, n5, n6, n7.map (·.1), n15) : FnZ) = some (d.name, d.qual, d.params, .stmts d.body, d.scope, mainGlobals, d.clo, builtinsNs) := e
      rw [hclo] at e2
      simp only [Option.some.injEq, Prod.mk.injEq] at e2
      obtain ⟨g1, g2, g3, g4, g5, g6, g7, g8⟩ := e2
      subst g1 g2 g3 g4 g5 g6 g8
      obtain ⟨c3, c4⟩ := ba c2
      have d8 : n8 = .none := Option.some.inj (Option.some.inj (eqO_ok c3))
      obtain ⟨c6, c8⟩ := ba c4
      obtain ⟨c5, c7⟩ := ba c6
      have d9 : n9 = .none := Option.some.inj (Option.some.inj (eqO_ok c5))
      subst d8 d9
      dsimp only at c7 c8
      split at c7
      · rename_i c
        obtain ⟨c9, c10⟩ := ba c7
        split at c10
        · rename_i _ _ vs _ hc
          split at c10
          · rename_i fl _ hv
            split at c8
            · rename_i nm cc
              simp only [List.map_cons, List.map_nil, List.cons.injEq, and_true] at g7
              subst g7
              split at c8
              · rename_i _ _ CC _ hcc
                have z := of_decide_eq_true c8
                subst z
                refine ⟨_, ⟨⟨oc, od, _, _, _, _, c, cc, osl, rfl, q, c9, ⟨_, _, vs, _, fl, _, hc, hv, ?_⟩, _, _, _, hcc⟩, h1⟩, eqO_ok h2, of_decide_eq_true h3⟩
                rw [hf, of_decide_eq_true c10]
                simp
              · cases c8
            · cases c8
          · cases c10
        · cases c10
      · cases c7
    | _ => cases c2
end RS

set_option maxRecDepth 100000
set_option maxHeartbeats 4000000
namespace PySem.RSX
open PySem PySem.Spec PySem.W PySem.Calls PyProof.Rows
section
variable {prog : Program} {w : World} {A : Around} {E : Value → Shared → Prop} {s : Shared} {K : Frag} {x D : Addr} {ox : Obj} {odx : Option Obj}
theorem findObj_dataX {C : Addr} {name : Str} {a g : Value} {od : Option Obj} (hc : (clsIn K C).isSome = true) (ha : findIn K (.ref C) name = some (some a)) (hg : specialIn K a "__get__" = some (some g)) (ht : takesIn K a = some true) : findObj K C od name = some (.bind g a) := by
  obtain ⟨cd, hc⟩ := Option.isSome_iff_exists.mp hc
  unfold findObj
  rw [hc, Option.bind_some, ha, Option.bind_some]
  simp [hg, ht]
theorem kin_classX {Q : Option Value → Shared → Prop} (hga : findIn K (.ref D) "__getattribute__" = some (some (.builtin "BaseException.__getattribute__"))) (hgt : findIn K (.ref D) "__getattr__" = some none) (hsub : subIn K (.ref D) (.type "BaseException") = some true)
    (hdct : hasDictIn K D = true) (ha : findIn K (.ref D) "__class__" = some (some (.builtin "object.__class__")))
    (hn : specialIn K (.builtin "object.__class__") "__get__" = some (some (.builtin "getset_descriptor.__get__"))) (htk : takesIn K (.builtin "object.__class__") = some true) (hm : mroIn K D (.type "object") = some true)
    (X : K.In s.heap) (I : InstAt s.heap x ox D odx) (h : Q (some (.ref D)) { s with toks := s.toks + 1 }) : wpAny (model prog w) A (getAttr? (.ref x) "__class__") Q E s := by
  have hf : findObj K D odx "__class__" = some (.bind (.builtin "getset_descriptor.__get__") (.builtin "object.__class__")) := findObj_dataX (by obtain ⟨cd, hc, _⟩ := any_some hdct; rw [hc]; rfl) ha hn htk
  obtain ⟨hp, g, d, t, os⟩ := s
  have L0 := I.type (M := model prog w)
  have L1 := looks_findIn (M := model prog w) X hga
  have L2 := looks_findIn (M := model prog w) X hgt
  have L3 := looks_find (M := model prog w) X I hf
  have sub : Looks (model prog w) hp (isInstance (.ref x) (.type "BaseException")) true := L0.andThen (looks_subIn X hsub)
  have hx0 : (false && onTheHeap (Value.builtin "BaseException.__getattribute__")) = false := rfl
  have hx2 : (Value.builtin "BaseException.__getattribute__" == Value.builtin "object.__getattribute__") = false := by decide +kernel
  have hx1 : (onTheHeap (Value.ref D) && Value.builtin "BaseException.__getattribute__" == Value.builtin "object.__getattribute__") = false := by rw [hx2]; rfl
  unfold getAttr? getAttrBy? getAttrBy
  refine wpAny_bind (wpAny_mkText (wpAny_bind (wpAny_attempt (wpAny_holding (wpAny_bind (L0.at (wpAny_bind (L1.at ?_))))))))
  show wpAny _ _ (if (onTheHeap (Value.ref D) && Value.builtin "BaseException.__getattribute__" == Value.builtin "object.__getattribute__") = true then _ else _) _ _ _
  rw [hx1, if_neg Bool.false_ne_true]
  unfold getAttrByItsOwn hookBefore
  refine wpAny_bind ?_
  rw [if_pos (show onTheHeap (Value.ref D) = true from rfl)]
  refine L2.at ?_
  refine wpAny_bind (wpAny_attempt (wpAny_holding ?_))
  unfold callGetattribute
  rw [hx0, if_neg Bool.false_ne_true]
  unfold boundAndCalled
  rw [PySem.F.excAttr_ValueError.ga.bind (.ref x)]
  refine wpAny_bind (wpAny_pure ?_)
  show wpAny _ _ (call (.builtin "BaseException.__getattribute__") [.ref x, .str "__class__" t]) _ _ _
  refine wpAny_call (codeAny_call_builtin PySem.F.excAttr_ValueError.ga.plain PySem.F.entry_bexc_ga ?_)
  refine @check_slot (model prog w) _ _ ⟨hp, g, d, t + 1, os⟩ "BaseException.__getattribute__" "BaseException" "__getattribute__" (.ref x) [.str "__class__" t] [] _ (by decide +kernel) (by decide +kernel) sub (PySem.F.args_bexc_ga (.ref x) (.str "__class__" t)) ?_
  unfold Builtin.«object.__getattribute__»
  refine wpAny_bind (wpAny_of_eq (a := ((Value.ref x : Value), [Value.str "__class__" t])) (by first | rfl | (simp only [slotArgs]; rfl)) ?_)
  refine wpAny_bind (wpAny_pure (wpAny_bind (L0.at (wpAny_bind (L3.at ?_)))))
  show wpAny _ _ (holding [Value.builtin "object.__class__"] (call (.builtin "getset_descriptor.__get__") [.builtin "object.__class__", .ref x, .ref D]) >>= ret) _ _ _
  refine wpAny_bind (wpAny_holding (wpAny_call (class_get (s := ⟨hp, g, d, t + 1, os⟩) (ox := ox) (od := odx) X I hm ?_)))
  refine wpAny_pure ?_
  show wpAny _ _ (handedOut (.ref D)) _ _ _
  rw [handedOut_of (v := .ref D) rfl]
  first
    | exact wpAny_pure (wpAny_pure h)
    | exact wpAny_pure h
    | exact wpAny_pure (wpAny_bind (wpAny_pure (wpAny_pure h)))
theorem kitx_excX (hga : findIn K (.ref D) "__getattribute__" = some (some (.builtin "BaseException.__getattribute__"))) (hgt : findIn K (.ref D) "__getattr__" = some none) (hsub : subIn K (.ref D) (.type "BaseException") = some true) (hdct : hasDictIn K D = true) (ha : findIn K (.ref D) "__class__" = some (some (.builtin "object.__class__")))
    (hn : specialIn K (.builtin "object.__class__") "__get__" = some (some (.builtin "getset_descriptor.__get__"))) (htk : takesIn K (.builtin "object.__class__") = some true) (hm : mroIn K D (.type "object") = some true) :
    KitX K (.ref x) (.ref D) (fun h => ∃ odx, InstAt h x ox D odx) where
  ty := fun _ _ _ ⟨_, I⟩ => I.type
  it := fun _ _ X _ => by
    obtain ⟨cdD, hcD, _⟩ := any_some hdct
    unfold clsIn at hcD
    split at hcD
    · rename_i c' d' cd' sl' ho
      intro A' Q' E' s' k q
      unfold isType loadHead
      exact wpAny_bind (wpAny_loadPart (k _ _ (X _ _ ho)) (wpAny_pure q))
    · cases hcD
  ne := fun h tp dd its n sl X htp => by
    obtain ⟨cdD, hcD, _⟩ := any_some hdct
    refine Bool.eq_false_iff.mpr fun q => ?_
    have e : D = tp := Value.ref.inj (beq_iff_eq.mp q)
    subst e
    unfold clsIn at hcD
    split at hcD
    · rename_i c' d' cd' sl' ho
      have z := (X _ _ ho).symm.trans htp
      cases z
    · cases hcD
  ca := fun X ⟨_, I⟩ k => kin_classX hga hgt hsub hdct ha hn htk hm X I k
end
end PySem.RSX
namespace RS
open PySem PySem.Spec PyProof.Rows L2 NdefX He
/-- isinstance(e, c), e the exception that the suite holds, with its fields or without -/
theorem call_isX {X : Cx} {a D : Addr} {cls : Value} {oe : Obj} {d : Option Addr} {pn : List (Addr × Obj)} (C : ExcC X.K D) (hz : Zc cls d oe) (hf : ∃ vs, oe.data = .fields vs) : CallR (X.suite a ((a, oe) :: pn)) (.builtin "isinstance") (fun xs H Q => cls = .ref D ∧ (∀ dd, d = some dd → ∃ fs, H dd = some (.xd fs)) ∧ rIsE X.K D a xs H Q) := by
  intro pins s σ H xs us Q I r h
  obtain ⟨rfl, hd, c, cv, b, rfl, hcv, e, q⟩ := h
  cases r with
  | cons rx rr =>
    cases rr with
    | cons rt rr =>
      cases rr
      cases rx
      have ec := hcv _ rt
      subst ec
      obtain ⟨hget, _⟩ := I.pin (a, oe) (List.mem_append.mpr (.inl List.mem_cons_self))
      obtain ⟨vs, hv⟩ := hf
      have J : ∃ odx, PySem.W.InstAt s.heap a oe D odx := by
        obtain ⟨oc, od, oda, osl⟩ := oe
        obtain ⟨h1, h2⟩ := hz
        dsimp only at h1 h2 hv
        subst h1 h2 hv
        cases od with
        | none => exact ⟨none, hget, rfl, rfl, trivial⟩
        | some dd =>
          obtain ⟨fs, e⟩ := hd dd rfl
          have hx : ObjOk X.prog X.w H s.heap dd (.xd fs) := I.hok dd _ e
          obtain ⟨mA, hns, hr⟩ := hx
          obtain ⟨od, ho, hl⟩ := lookIn_ns hns
          exact ⟨some od, hget, rfl, rfl, ho⟩
      exact PySem.W.kia_one (PySem.RSX.kitx_excX C.hg C.hk C.hs C.hd C.ha C.hn C.ht C.hm) I.kIn J e (fun z => nomatch z) fun tk => ⟨.bl b, H, I.kept (t' := tk) fun _ _ z => z, rfl, q⟩
/-! ### the promise of an own exception's __init__: names, its fields -/
def spEx (C : Addr) (names : List Str) : Sp := fun vs H Q _ => ∃ (a : Addr) (ws : List V), vs = .ref a :: ws ∧ ws.length = names.length ∧ H a = some (exo a C none) ∧ (names = [] → Q .non H) ∧
  (names ≠ [] → ∀ dx H2, H dx = none → dx ≠ a → H2 a = some (exo a C (some dx)) → H2 dx = some (exd dx ((names.zip ws).reverse)) → (∀ b, b ≠ a → b ≠ dx → H2 b = H b) → Q .non H2)
theorem mkEx {C : Addr} {names : List Str} {vs : List V} {H1 : Hp} {Q : XK} (hl : vs.length = names.length) (hn : names ≠ []) (h2 : vs.length ≤ 1000) (k : ∀ d, H1 d = none → Q (.ref C) (some d) (upd H1 d (.xd ((names.zip vs).reverse)))) :
    vs.length ≤ 1000 ∧ ∀ a, H1 a = none → spEx C names (.ref a :: (vs ++ [])) (upd H1 a (exo a C none))
      (fun v H2 => v = .non ∧ ∃ (d : Addr) (fs : List (Str × V)), H2 a = some (exo a C (some d)) ∧ H2 d = some (exd d fs) ∧ H1 d = none ∧ Q (.ref C) (some d) (upd (del H2 a) d (.xd fs))) (fun _ _ _ => False) := by
  refine ⟨h2, fun a ha => ⟨a, vs, by rw [List.append_nil], hl, upd_same, fun z => absurd z hn, fun _ dx H2 hd hne e1 e2 e3 => ⟨rfl, dx, _, e1, e2, ?_, ?_⟩⟩⟩
  · rw [upd_ne hne] at hd
    exact hd
  · have e : upd (del H2 a) dx (.xd ((names.zip vs).reverse)) = upd H1 dx (.xd ((names.zip vs).reverse)) := by
      funext b
      by_cases hb : b = dx
      · rw [hb, upd_same, upd_same]
      · rw [upd_ne hb, upd_ne hb]
        by_cases hba : b = a
        · rw [hba, del_same, ha]
        · rw [del_ne hba, e3 b hba hb, upd_ne hba]
    rw [e]
    refine k dx ?_
    rw [upd_ne hne] at hd
    exact hd
/-- the exception class x, at C, by name -/
structure Exk (P : Program) (w : World) (K : Frg) (mg : Str → Option Value) (base : Heap) (x : Str) (C : Addr) (names : List Str) : Prop where
  ex : ∃ (fI : Addr) (fd : FuncData) (ps : List Str), FnOk P w K mg base CX0 1 fI fd ps (spEx C names) ∧ Binds K fd ps [] ∧ PySem.W.findIn K (.ref C) "__init__" = some (some (.ref fI)) ∧ PySem.W.typeIn K (.ref fI) = some (.type "function")
  g : mg x = some (.ref C)
  T : ExcT K C
theorem FunX.bindsN {P : Program} {K : Frg} {x qual : Str} {params : Arguments} {body : List Stmt} {scope : Scope} {C f : Addr} {fd : FuncData} {ps : List Str} (F : FunX K P x qual params body scope C f fd)
    (h : ∀ (doc pm ct : Value) (an : Option Addr) (cda cc : Addr) (us : List Value), us.length = ps.length → bindArgs (PySem.W.fnX x qual params body scope [("__class__", cc)] .none .none doc pm an (.ref cda) ct) ⟨us, []⟩ = pure (ps.zip us)) : Binds K fd ps [] := by
  obtain ⟨oc, od, doc, pm, ct, an, cda, cc, osl, rfl, _⟩ := F.ex
  exact .all (h doc pm ct an cda cc)
section
variable {X : Cx} {x : Str} {C : Addr} {names : List Str} {e : Expr} {es : List Expr} {ta : TA} {p pos : Pos}
/-- x(e, ..) to be raised -/
theorem pmk_ex (F : Exk X.prog X.w X.K X.mg X.base x C names) (hr : Room 2 X.A) (ha : PA X (e :: es) ta) (hg : Gl X x := by rfl)
    (hdb : (x == ("__debug__" : Str)) = false := by decide) (he : starEach (e :: es) X.env = (false, eval e X.env) :: starEach es X.env := by rfl) (hpl : (backTo pos (starEach es X.env)).any (·.1) = false := by rfl) :
    PMk X (.Call (.Name x p) (e :: es) [] pos) (tMkO C (spEx C names) [] ta) := by
  obtain ⟨fI, fd, ps, G, b, i, t⟩ := F.ex
  exact pmk_oex F.T.sup.ox i t G hr b .nil pass0 hg F.g ha hdb he hpl
/-- x(e, ..) in a try's body, x a def that may raise -/
theorem pe_fnS {CX : CXT} {lv : Nat} {ps : List Str} {sp : Sp} {E : L2.St → XK} (F : Cal X.prog X.w X.K X.mg X.base CX lv x ps [] sp) (hr : Room lv X.A) (hx : ∀ σ, PassesAt CX X σ (E σ)) (ha : PA X (e :: es) ta) (hg : Gl X x := by rfl) (hdb : (x == ("__debug__" : Str)) = false := by decide)
    (he : starEach (e :: es) X.env = (false, eval e X.env) :: starEach es X.env := by rfl) (hpl : (backTo pos (starEach es X.env)).any (·.1) = false := by rfl) : PE X (.Call (.Name x p) (e :: es) [] pos) (tCallS sp E ta) := by
  obtain ⟨f, fd, ds, G, m, k, v, b⟩ := F.ex
  cases v
  exact pe_callS G hr hg m k b hx ha hdb he hpl
/-- == and != of data, the fragment named (within an except suite) -/
theorem op_eqDs {K : Frg} (hk : X.K = K) (hu : X.A.units + 64 < cLine) : OpR X (compareOp .Eq) (rEqD K) := hk ▸ op_eqD hu
theorem op_neDs {K : Frg} (hk : X.K = K) (hu : X.A.units + 64 < cLine) : OpR X (compareOp .NotEq) (rNeD K) := hk ▸ op_neD hu
/-- // by a divisor that is not 0, of up to 9000 bits -/
theorem op_fdivNW : OpR X (binaryOp .FloorDiv) (rI (fun _ j => j ≠ 0 ∧ j.natAbs.log2 < 9000) fun i j => .int (i.fdiv j)) := opI fun _ _ _ _ _ _ _ hc q => floordiv_int hc.1 q (.inl (PyProof.noPylong_of_log2 hc.2))
end
end RS

set_option maxRecDepth 100000
set_option maxHeartbeats 4000000
namespace RS
open PySem PySem.Spec PyProof.Rows L2 NdefX He PySem.W
/-! ### data of tuples, with a Lean type -/
mutual
inductive Td (H : Hp) : V → PyData → Prop
  | non : Td H .non .none
  | bl (b : Bool) : Td H (.bl b) (.bool b)
  | int (i : Int) : Td H (.int i) (.int i)
  | str (x : Str) : Td H (.str x) (.str x)
  | tup {a : Addr} {xs : List V} {ds : List PyData} : H a = some (.tup xs) → TdAll H xs ds → Td H (.ref a) (.tuple ds)
inductive TdAll (H : Hp) : List V → List PyData → Prop
  | nil : TdAll H [] []
  | cons {v : V} {vs : List V} {d : PyData} {ds : List PyData} : Td H v d → TdAll H vs ds → TdAll H (v :: vs) (d :: ds)
end
/-- all tuples stand as they were -/
def TK (H H' : Hp) : Prop := ∀ r xs, H r = some (.tup xs) → H' r = some (.tup xs)
theorem TK.refl (H : Hp) : TK H H := fun _ _ h => h
theorem TK.trans {H H1 H2 : Hp} (x : TK H H1) (y : TK H1 H2) : TK H H2 := fun r xs h => y r xs (x r xs h)
theorem Same.tk {H H' : Hp} (x : L2.Same H H') : TK H H' := fun r xs h => x _ _ h
mutual
theorem Td.keep {H H' : Hp} (k : TK H H') : ∀ {v : V} {d : PyData}, Td H v d → Td H' v d
  | _, _, .non => .non
  | _, _, .bl b => .bl b
  | _, _, .int i => .int i
  | _, _, .str x => .str x
  | _, _, .tup e a => .tup (k _ _ e) (TdAll.keep k a)
theorem TdAll.keep {H H' : Hp} (k : TK H H') : ∀ {vs : List V} {ds : List PyData}, TdAll H vs ds → TdAll H' vs ds
  | _, _, .nil => .nil
  | _, _, .cons x y => .cons (Td.keep k x) (TdAll.keep k y)
end
mutual
theorem Td.dp {K : Frg} {H : Hp} : ∀ {v : V} {d : PyData}, Td H v d → Dp K H v d
  | _, _, .non => .non
  | _, _, .bl b => .bl b
  | _, _, .int i => .int i
  | _, _, .str x => .str x
  | _, _, .tup e a => .tup (SqT.of e) (TdAll.dp a)
theorem TdAll.dp {K : Frg} {H : Hp} : ∀ {vs : List V} {ds : List PyData}, TdAll H vs ds → DpAll K H vs ds
  | _, _, .nil => .nil
  | _, _, .cons x y => .cons (Td.dp x) (TdAll.dp y)
end
theorem TdAll.len {H : Hp} : ∀ {vs : List V} {ds : List PyData}, TdAll H vs ds → vs.length = ds.length
  | _, _, .nil => rfl
  | _, _, .cons _ y => by rw [List.length_cons, List.length_cons, TdAll.len y]
theorem TdAll.snoc {H : Hp} : ∀ {vs : List V} {ds : List PyData} {v : V} {d : PyData}, TdAll H vs ds → Td H v d → TdAll H (vs ++ [v]) (ds ++ [d])
  | _, _, _, _, .nil, x => .cons x .nil
  | _, _, _, _, .cons y ys, x => .cons y (TdAll.snoc ys x)
theorem TdAll.at {H : Hp} : ∀ {vs : List V} {ds : List PyData} {i : Nat} {v : V}, TdAll H vs ds → vs[i]? = some v → ∃ d, ds[i]? = some d ∧ Td H v d
  | _, _, i, _, .nil, h => by simp at h
  | _, _, 0, _, .cons y _, h => by
    simp at h
    subst h
    exact ⟨_, rfl, y⟩
  | _, _, i + 1, _, .cons _ ys, h => by
    simp at h
    obtain ⟨d, e, t⟩ := TdAll.at ys h
    exact ⟨d, by simpa using e, t⟩
section
variable {X : Cx}
/-- == and != of such data -/
def rEqT (α : Type) [DecidableEq α] [Datum α] (K : Frg) : R2 := fun x y H Q => ∃ a b : α, Dp K H x (Datum.toD a) ∧ Dp K H y (Datum.toD b) ∧ Q (.bl (decide (a = b))) H
def rNeT (α : Type) [DecidableEq α] [Datum α] (K : Frg) : R2 := fun x y H Q => ∃ a b : α, Dp K H x (Datum.toD a) ∧ Dp K H y (Datum.toD b) ∧ Q (.bl (!decide (a = b))) H
theorem op_eqT (α : Type) [DecidableEq α] [Datum α] (hu : X.A.units + 64 < cLine) (hd : Datum.depth α ≤ 64 := by decide) : OpR X (compareOp .Eq) (rEqT α X.K) := by
  intro pins s σ H x y v u Q I rx ry h
  obtain ⟨d, e, hd', he, q⟩ := h
  obtain ⟨as, r1⟩ := Dp.reads I _ x v hd' rx
  obtain ⟨bs, r2⟩ := Dp.reads I _ y u he ry
  exact eq_datum ⟨as, r1⟩ ⟨bs, r2⟩ (by omega) ⟨.bl _, H, I, rfl, q⟩
theorem op_neT (α : Type) [DecidableEq α] [Datum α] (hu : X.A.units + 64 < cLine) (hd : Datum.depth α ≤ 64 := by decide) : OpR X (compareOp .NotEq) (rNeT α X.K) := by
  intro pins s σ H x y v u Q I rx ry h
  obtain ⟨d, e, hd', he, q⟩ := h
  obtain ⟨as, r1⟩ := Dp.reads I _ x v hd' rx
  obtain ⟨bs, r2⟩ := Dp.reads I _ y u he ry
  exact ne_datum ⟨as, r1⟩ ⟨bs, r2⟩ (by omega) ⟨.bl (!decide (d = e)), H, I, by show _ = Value.bool _; rw [← decide_not], q⟩
/-- either of two rules -/
theorem opOr {f : Value → Value → Sem Value} {r r' : R2} (h : OpR X f r) (h' : OpR X f r') : OpR X f (fun x y H Q => r x y H Q ∨ r' x y H Q) := by
  intro pins s σ H x y v u Q I rx ry q
  rcases q with q | q
  · exact h pins s σ H x y v u Q I rx ry q
  · exact h' pins s σ H x y v u Q I rx ry q
/-- a, b, .. = a tuple, the fragment named (within a comprehension) -/
theorem pg_tupK {K : Frg} (hk : X.K = K) {es : List Expr} {k : Nat} {t : TGs} {n : Nat} {pos : Pos} (hc : X.calm = true) (h : PGs X es t)
    (hn : (assignEach es X.env).length = n := by rfl) (hst : (assignEach es X.env).findIdx? (·.1) = none := by rfl) : PG X (.Tuple es k pos) (gTup K n t) := by
  subst hk
  exact pg_tup hc h hn hst
/-- a, b, .. = a tuple or a list -/
def gUnp (K : Frg) (n : Nat) (t : TGs) : TG := fun v σ H Q => ∃ a xs, v = .ref a ∧ (SqT K H a xs ∨ SqL K H a xs) ∧ xs.length = n ∧ t xs σ H Q
theorem pg_unp {K : Frg} (hk : X.K = K) {es : List Expr} {k : Nat} {t : TGs} {n : Nat} {pos : Pos} (hc : X.calm = true) (h : PGs X es t)
    (hn : (assignEach es X.env).length = n := by rfl) (hst : (assignEach es X.env).findIdx? (·.1) = none := by rfl) : PG X (.Tuple es k pos) (gUnp K n t) := by
  subst hk
  refine ⟨fun pins s σ H v u Q I r hw => ?_⟩
  obtain ⟨a, xs, e1, hq | hq, hl, hw⟩ := hw
  · exact (pg_tup hc h hn hst).run pins s σ H v u Q I r ⟨a, xs, e1, hq, hl, hw⟩
  · exact (pg_lst hc h hn hst).run pins s σ H v u Q I r ⟨a, xs, e1, hq, hl, hw⟩
/-- list(x) within a comprehension -/
theorem call_listK {K : Frg} (hk : X.K = K) : CallR X (.type "list") (fun xs H Q => ∃ p ys, xs = [.ref p] ∧ (SqL K H p ys ∨ SqT K H p ys) ∧ ∀ l, H l = none → Q (.ref l) (upd H l (.lst ys))) := by
  subst hk
  exact call_list_of
/-- a sign n times -/
theorem rep_sign (c : Nat) : ∀ n : Nat, (List.replicate n #[c]).foldl (· ++ ·) #[] = (List.replicate n c).toArray := fun n => by
  have key : ∀ (n : Nat) (a : Array Nat), (List.replicate n #[c]).foldl (· ++ ·) a = a ++ (List.replicate n c).toArray := by
    intro n
    induction n with
    | zero => intro a; simp
    | succ n ih =>
      intro a
      rw [List.replicate_succ, List.foldl_cons, ih, List.replicate_succ]
      apply Array.ext'
      simp
  rw [key n #[]]
  simp
theorem op_mulS : OpR X (binaryOp .Mult) (fun x y H Q => ∃ (c : Nat) (n : Int), x = .str ⟨#[c]⟩ ∧ y = .int n ∧ 1 ≤ n ∧ n ≤ 1000 ∧ Q (.str ⟨(List.replicate n.toNat c).toArray⟩) H) := by
  intro pins s σ H x y v u Q I rx ry h
  obtain ⟨c, n, rfl, rfl, h1, h2, q⟩ := h
  obtain ⟨t, rfl⟩ := rx
  obtain ⟨t', rfl⟩ := ry
  refine PySem.P.mul_str ?_ (fun _ _ => ?_) (fun _ _ => ?_) ?_
  · rw [decide_eq_false (by omega), decide_eq_false (by omega)]
    rfl
  · show ¬ (((1 : Nat) : Int) > (2 ^ 63 - 1) / n)
    have : 1 ≤ (2 ^ 63 - 1) / n := (Int.le_ediv_iff_mul_le (by omega)).mpr (by omega)
    omega
  · exact decide_eq_false (show ¬ (1 * n.toNat > sizeLine) by rw [sizeLine_eq]; omega)
  · rw [if_neg (by omega)]
    split
    · rename_i hn
      have e : n = 1 := by
        rcases Bool.or_eq_true_iff.mp hn with z | z
        · exact beq_iff_eq.mp z
        · exact absurd (beq_iff_eq.mp z) (by show ¬ (1 = 0); decide)
      subst e
      exact ⟨.str ⟨#[c]⟩, H, I, ⟨_, rfl⟩, q⟩
    · rw [rep_sign]
      refine ⟨?_, ⟨.str _, H, I.tok _, ⟨_, rfl⟩, q⟩⟩
      show (List.replicate n.toNat c).toArray.size ≤ sizeLine
      rw [sizeLine_eq]
      simp
      omega
/-- a row that is not reached -/
theorem ps_never {st : Stmt} : PS X st (fun _ _ _ => False) := ⟨fun _ _ _ _ _ _ h => h.elim⟩
end
/-! ### a class whose __init__ may raise, called in a try's body -/
def tMakeS (C : Addr) (sp : Sp) (E : L2.St → XK) (t : TA) : TE := fun σ H Q => t σ H fun vs H1 => ∀ x dx, H1 x = none → H1 dx = none → dx ≠ x → sp (.ref x :: vs) (upd (upd H1 dx (.own x)) x (.ins C dx [])) (fun v H2 => v = .non ∧ Q (.ref x) H2) (E σ)
theorem pe_mkS {X : Cx} {CX : CXT} {lv : Nat} {x : Str} {C : Addr} {ps : List Str} {sp : Sp} {E : L2.St → XK} {p pos : Pos} {e : Expr} {es : List Expr} {t : TA} (F : Mkr X.prog X.w X.K X.mg X.base CX lv x C ps [] sp) (hr : Room (lv + 1) X.A)
    (hx : ∀ (σ : L2.St) (pins : List (Addr × Obj)) (H : Hp) (s : Shared) (e : Value) (s' : Shared), Inv X pins σ H s → CX X.stack H s (E σ) e s' → X.xe e s') (ha : PA X (e :: es) t) (hg : Gl X x := by rfl) (hdb : (x == ("__debug__" : Str)) = false := by decide)
    (he : starEach (e :: es) X.env = (false, eval e X.env) :: starEach es X.env := by rfl) (hpl : (backTo pos (starEach es X.env)).any (·.1) = false := by rfl) : PE X (.Call (.Name x p) (e :: es) [] pos) (tMakeS C sp E t) := by
  obtain ⟨f, fd, ds, G, M, hm, v, b⟩ := F.ex
  cases v
  refine ⟨fun pins s σ H Q I h => ?_⟩
  refine wpAny_Call_Name_kw (ld_glob I hg hm ?_ hdb)
  refine PySem.W.callWith_K (h₀ := X.base) I.ok.mod.kin M.kp (thn (ha.run pos pins s σ H _ I h) fun us s1 ⟨vs, H1, I1, r, h1⟩ => ⟨I1.kIn, ?_⟩) he hpl
  have hq := h1 (s1.heap.objs.size + 1) s1.heap.objs.size (I1.hok.fresh (Nat.le_succ _)) (I1.hok.fresh (Nat.le_refl _)) (Nat.ne_of_lt (Nat.lt_succ_self _))
  have I2 := Inv.made (C := C) I1
  have r2 : Vals (V.ref (s1.heap.objs.size + 1) :: vs) (Value.ref (s1.heap.objs.size + 1) :: us) := .cons rfl r
  have hl : (Value.ref (s1.heap.objs.size + 1) :: us).length = ps.length := by
    have e := r2.length
    rw [G.len _ _ _ _ hq] at e
    exact e.symm
  have bb := b _ (Value.ref (s1.heap.objs.size + 1) :: us) I2.kIn (by rw [List.append_nil]; exact hl)
  rw [List.append_nil] at bb
  refine wpAny_call (make_map (f := f) I1.kIn M.makes M.init (beq_iff_eq.mp M.fn) (codeAny_mono (G.run _ X.stack _ _ ⟨Value.ref (s1.heap.objs.size + 1) :: us, []⟩ (Value.ref (s1.heap.objs.size + 1) :: us) _ _ (E σ) (hr.make C us [])
    (I2.env0.make C us []) bb r2 hq) fun r s' hq' => ?_))
  cases r with
  | error e => exact hx σ pins _ _ e s' I2 hq'
  | ok fl =>
    cases fl with
    | ret u =>
      obtain ⟨v, H', I3, rv, ev, q3⟩ := I2.after hq'
      subst ev
      exact ⟨rv, ⟨V.ref (s1.heap.objs.size + 1), H', I3, rfl, q3⟩⟩
    | next => exact False.elim hq'
    | brk => exact False.elim hq'
    | cont => exact False.elim hq'
/-! ### an instance that is called -/
theorem fnR_of {P : Program} {w : World} {K : Frg} {mg : Str → Option Value} {base : Heap} {CX : CXT} {k : Nat} {f : Addr} {fd : FuncData} {ps : List Str} {sp : Sp} {ds : List Value} {dvs : List V} (F : FnOk P w K mg base CX k f fd ps sp) (hb : Binds K fd ps ds) (hd : Vals dvs ds) :
    FnR P w K mg base CX k f (fun vs H Q E => sp (vs ++ dvs) H Q E) := fun A outer s H us vs Q E hr e0 r hs => by
  have r2 : Vals (vs ++ dvs) (us ++ ds) := r.append hd
  have hl : (us ++ ds).length = ps.length := by rw [← r2.length]; exact F.len _ _ _ _ hs
  have KX : K.In s.heap := e0.mod.kin.keeps fun b o e => (e0.bs b o e).1
  exact F.run A outer s H ⟨us, []⟩ (us ++ ds) (vs ++ dvs) Q E hr e0 (hb s us KX hl) r2 hs
/-- instances of C may be called -/
structure Clo (P : Program) (w : World) (K : Frg) (mg : Str → Option Value) (base : Heap) (CX : CXT) (lv : Nat) (C : Addr) (sp : Sp) : Prop where
  ex : ∃ g, StX.CallO K C g ∧ FnR P w K mg base CX lv g sp
theorem pe_cl {X : Cx} {CX : CXT} {lv : Nat} {C : Addr} {sp : Sp} {E : XK} {fe e : Expr} {es : List Expr} {tf : TE} {t : TA} {pos : Pos} (F : Clo X.prog X.w X.K X.mg X.base CX lv C sp) (hr : Room lv X.A) (hx : Passes CX X E) (hf : PE X fe tf) (ha : PA X (e :: es) t)
    (ht : eval (.Call fe (e :: es) [] pos) X.env = (do callWith pos (← eval fe X.env) [] (backTo pos (starEach (e :: es) X.env)) (backToKw pos (keywordEach [] X.env))) := by rfl)
    (he : starEach (e :: es) X.env = (false, eval e X.env) :: starEach es X.env := by rfl) (hpl : (backTo pos (starEach es X.env)).any (·.1) = false := by rfl) : PE X (.Call fe (e :: es) [] pos) (StX.tCallO X C sp E tf t) := by
  obtain ⟨g, c, G⟩ := F.ex
  exact StX.pe_callO hf c G hr hx ha ht he hpl
/-- over the signs of a text -/
theorem lc_str {x : Str} {g : TG} {tt : TT} {te : TE} {vs : List Nat} {σ : L2.St} {H1 : Hp} {D : Addr} {Qd : Hp → Prop} (Pv : Nat → Hp → Prop) (h0 : Pv 0 (upd H1 D (.lst [])))
    (hs : ∀ i c H, x.cps[i]? = some c → Pv i H → g (.str ⟨#[c]⟩) (wipe σ vs) H fun σ2 H2 => wipe σ2 vs = wipe σ vs ∧ tt σ2 H2 fun b H3 =>
      if b = true then te σ2 H3 fun y H4 => ∃ acc, H4 D = some (.lst acc) ∧ acc.length < sizeLine ∧ Pv (i + 1) (upd H4 D (.lst (acc ++ [y]))) else Pv (i + 1) H3) (hd : ∀ H, Pv x.cps.size H → Qd H) :
    ∃ W : Nat → Nat → Hp → Prop, (∃ m, W 0 m (upd H1 D (.lst []))) ∧ ∀ i m H, W i m H →
      ((L2.Its x).stop i H ∧ Qd H) ∨ ((L2.Its x).go i H ∧ ∃ Nx : Hp → Prop, (∀ H', Nx H' → ∃ m', m' < m ∧ W (i + 1) m' H') ∧ ∀ v H', (L2.Its x).yld i H v H' → g v (wipe σ vs) H' fun σ2 H2 => wipe σ2 vs = wipe σ vs ∧ tt σ2 H2 fun b H3 =>
        if b = true then te σ2 H3 fun y H4 => ∃ acc, H4 D = some (.lst acc) ∧ acc.length < sizeLine ∧ Nx (upd H4 D (.lst (acc ++ [y]))) else Nx H3) := by
  refine ⟨fun i m H => m = x.cps.size - i ∧ i ≤ x.cps.size ∧ Pv i H, ⟨x.cps.size, by simp, Nat.zero_le _, h0⟩, ?_⟩
  rintro i m H ⟨rfl, hi, p⟩
  by_cases hlt : i < x.cps.size
  · refine .inr ⟨hlt, Pv (i + 1), fun H' p' => ⟨x.cps.size - (i + 1), by omega, rfl, hlt, p'⟩, ?_⟩
    rintro v H' ⟨rfl, c, hc, rfl⟩
    exact hs i c _ hc p
  · have e : i = x.cps.size := by omega
    subst e
    exact .inl ⟨Nat.le_refl _, hd H p⟩
end RS

set_option maxRecDepth 100000
set_option maxHeartbeats 4000000
namespace RS
open PySem PySem.Spec PyProof.Rows L2 NdefX He
def top (i : Nat) : Stmt := PySem.Challenge.pw_risingscales_k20_patterns.main.body.getD i (.Pass ⟨0, 0, 0, 0⟩)
abbrev FnP (K : PySem.W.Frag) (x qual : Str) (st : Stmt) (f : Addr) (fd : FuncData) : Prop := FunD K x qual (defArgs st) (defBody st) (defScope st) [] [] f fd
section
variable {P : Program} {w : World} {K : PySem.W.Frag} {mg : Str → Option Value} {base : Heap}
structure TPen (mg : Str → Option Value) : Prop where
  b_int : mg "int" = none
  b_len : mg "len" = none
  b_list : mg "list" = none
abbrev s__law_bag : Stmt := top 34
theorem sc__law_bag : FnScope ["_law_script", "_law_fold", "_law_cell"] ["_law_script"] (defScope s__law_bag) := ⟨rfl, rfl, rfl, by decide +kernel, rfl, by decide +kernel, by decide +kernel⟩
theorem ok_pen {f : Addr} {fd : FuncData} (F : FnP K "_law_bag" "_law_bag" s__law_bag f fd) (T : TPen mg) : FnOk P w K mg base CX0 1 f fd ["_law_script"] (spPen K) := by
  refine F.ok sc__law_bag (fun vs H Q E h => ?_) (fun cdv A outer s H vs Q E hr h => ?_)
  · obtain ⟨a, ns, rfl, _⟩ := h
    rfl
  · obtain ⟨a, ns, rfl, hS, hl, k⟩ := h
    refine ⟨_, PSs.nox (pss_cons (ps_set (i := 1) sc__law_bag.nd rfl (by first | exact Or.inl rfl | exact Or.inr rfl) pe_int)
      (pss_cons (ps_for PassesOwn.never rfl (pi_list (pv 0)) (pg_name (i := 2) sc__law_bag.nd rfl (by first | exact Or.inl rfl | exact Or.inr rfl)) (pss_one (ps_set (i := 1) sc__law_bag.nd rfl (by first | exact Or.inl rfl | exact Or.inr rfl) (pe_op op_mod (pe_callTy call_int1 (by rfl) T.b_int (by decide +kernel) (pa_cons (pe_op op_add (pe_op op_mul (pv 1) pe_int) (pv 2)) pa_nil)) pe_int))))
      (pss_one (ps_ret (pe_disp (pps_cons pe_str (pe_callTy call_list_of (by rfl) T.b_list (by decide +kernel) (pa_cons (pv 0) pa_nil)) (pps_cons pe_str pe_int (pps_cons pe_str pe_int (pps_cons pe_str pe_int (pps_cons pe_str (pv 1) pps_nil))))) (by rfl) (by rfl) (fun z => by cases z) (by decide)))))), ?_⟩
    refine ⟨_, rfl, a, rfl, ⟨_, hS⟩, for_list (K := K) (a := a) (xs := ns.map V.int) (fun i σ H' => H' = H ∧ ∃ (f : Int) (z : Option V), σ = [some (.ref a), some (.int f), z] ∧ 0 ≤ f ∧ f < 2 ^ 32) ⟨rfl, 0, none, rfl, by decide, by decide⟩ (fun i σ H' _ z => z.1 ▸ hS) ?_ ?_⟩
    · rintro i x σ H' hi ⟨rfl, f, z, rfl, f0, f1⟩
      obtain ⟨m, _, rfl⟩ := ints_at hi
      have q := mod_in (x := f * 37 + m) (show (0 : Int) < 1000000009 by decide)
      exact ⟨_, rfl, _, _, rfl, rfl, .inr ⟨by decide, by decide⟩, _, rfl, _, _, rfl, rfl, .inl ⟨_, rfl, _, _, rfl, rfl, by show (0 : Int) < _; decide, rfl, _, _, rfl, q.1, by have := q.2; omega⟩⟩
    · rintro σ H' ⟨rfl, f, z, rfl, f0, f1⟩
      intro p hp
      have hS1 : SqL K (upd H' p (.dK [])) a (ns.map V.int) := (Same.new hp).seq hS
      refine ⟨_, rfl, a, _, rfl, .inl hS1, fun l hl => ?_⟩
      have hpp : (upd (upd H' p (.dK [])) l (.lst (ns.map V.int))) p = some (.dK []) := upd_old hl upd_same
      refine ⟨_, rfl, hpp, [(.inr "cells", .ref l), (.inr "at", .int 0), (.inr "digits", .int 0), (.inr "count", .int 0), (.inr "fold", .int f)], rfl, by show 5 ≤ 15; decide, ?_⟩
      have npl : p ≠ l := ne_of_none (upd_same (H := H') (a := p) (o := .dK [])) hl
      have hl0 : H' l = none := by rw [upd_ne npl.symm] at hl; exact hl
      refine k p l _ (fun b o e => ?_) hp hl0 ⟨ns, 0, 0, 0, f, ?_, by rw [upd_ne npl.symm]; exact upd_same, by decide, by decide, by decide, by decide, f0, f1⟩
      · rw [upd_ne (ne_of_none e hp)]
        exact upd_old hl (upd_old hp e)
      · rw [upd_same, merge_bag]
abbrev s__law_draw : Stmt := top 35
theorem sc__law_draw : FnScope ["_law_bag_here", "_law_limit", "_law_base", "_law_cell", "_law_digit"] ["_law_bag_here", "_law_limit"] (defScope s__law_draw) := ⟨rfl, rfl, rfl, by decide +kernel, rfl, by decide +kernel, by decide +kernel⟩
theorem ok_draw {f : Addr} {fd : FuncData} (F : FnP K "_law_draw" "_law_draw" s__law_draw f fd) (T : TPen mg) : FnOk P w K mg base CX0 1 f fd ["_law_bag_here", "_law_limit"] spDraw := by
  refine F.ok sc__law_draw (fun vs H Q E h => ?_) (fun cdv A outer s H vs Q E hr h => ?_)
  · obtain ⟨a, c, ns, b, rfl, _⟩ := h
    rfl
  · obtain ⟨p, c, m, b, rfl, hm, hm2, P, k⟩ := h
    obtain ⟨cs, a, d, n, f, hp, hc, h0, h1, h2, h3, h4, h5⟩ := P.ex
    have hu := hu_of hr
    have ncp : c ≠ p := ne_of hc hp (by intro z; cases z)
    refine ⟨_, PSs.nox (pss_cons (ps_dput hu (pv 0) pe_str (pe_op op_add (pe_dget hu (pv 0) pe_str (fun _ _ => rfl)) pe_int) rfl)
      (Evl.pss_cut (ps_if (PW.pt (pw_and (pt_cmpR op_eq (pe_dget hu (pv 0) pe_str (fun _ _ => rfl)) pe_int (nomark _)) (pw_and1 (pt_cmpR op_lt (pe_dget hu (pv 0) pe_str (fun _ _ => rfl)) (pe_callB call_len (by rfl) T.b_len PySem.boot_len (pa_cons (pe_dget hu (pv 0) pe_str (fun _ _ => rfl)) pa_nil)) (nomark _))))) (pss_cons (ps_set (i := 3) sc__law_draw.nd rfl (by first | exact Or.inl rfl | exact Or.inr rfl) (pe_ix ix_list (pe_dget hu (pv 0) pe_str (fun _ _ => rfl)) (pe_dget hu (pv 0) pe_str (fun _ _ => rfl)) (fun _ _ => rfl)))
      (pss_cons (ps_dput hu (pv 0) pe_str (pe_op op_add (pe_dget hu (pv 0) pe_str (fun _ _ => rfl)) pe_int) rfl)
      (pss_one (ps_if (pt_cmpR op_ge (pv 3) (pe_op op_pow pe_int pe_int) (nomark _)) (pss_one (ps_dput hu (pv 0) pe_str (pe_op op_sub (pv 3) (pe_op op_pow pe_int pe_int)) rfl)) (pss_one (ps_dput hu (pv 0) pe_str (pe_op op_mod (pe_callTy call_int1 (by rfl) T.b_int (by decide +kernel) (pa_cons (pe_op op_add (pe_op op_mul (pe_dget hu (pv 0) pe_str (fun _ _ => rfl)) pe_int) (pv 3)) pa_nil)) pe_int) rfl)))))) pss_nil)
      (pss_cons (ps_if (pt_cmpR op_gt (pe_dget hu (pv 0) pe_str (fun _ _ => rfl)) pe_int (nomark _)) (pss_cons (ps_set (i := 4) sc__law_draw.nd rfl (by first | exact Or.inl rfl | exact Or.inr rfl) (pe_op op_mod (pe_callTy call_int1 (by rfl) T.b_int (by decide +kernel) (pa_cons (pe_dget hu (pv 0) pe_str (fun _ _ => rfl)) pa_nil)) (pv 1)))
      (pss_cons (ps_dput hu (pv 0) pe_str (pe_op op_fdivW (pe_dget hu (pv 0) pe_str (fun _ _ => rfl)) (pv 1)) rfl)
      (pss_one (ps_ret (pv 4))))) pss_nil)
      (pss_cons (ps_set (i := 2) sc__law_draw.nd rfl (by first | exact Or.inl rfl | exact Or.inr rfl) (pe_op op_add (pe_op op_add (pe_dget hu (pv 0) pe_str (fun _ _ => rfl)) (pe_op op_mul (pe_dget hu (pv 0) pe_str (fun _ _ => rfl)) pe_int)) pe_int))
      (pss_one (ps_ret (pe_op op_mod (pe_op op_fdivW (pe_callTy call_int1 (by rfl) T.b_int (by decide +kernel) (pa_cons (pe_op op_mod (pe_op op_pow (pv 2) pe_int) pe_int) pa_nil)) pe_int) (pv 1)))))))), ?_⟩
    -- count
    refine ⟨_, rfl, p, _, rfl, dg_count hp, _, _, rfl, rfl, _, rfl, p, _, rfl, dp_count hp, ?_⟩
    have hp1 : (upd H p (.dK (bagD c a d (n + 1) f))) p = some (.dK (bagD c a d (n + 1) f)) := upd_same
    have hc1 : (upd H p (.dK (bagD c a d (n + 1) f))) c = some (.lst (cs.map V.int)) := by rw [upd_ne ncp]; exact hc
    have S1 : Sav p H (upd H p (.dK (bagD c a d (n + 1) f))) := Sav.own
    have G1 : ∃ H1 : Hp, H1 = upd H p (.dK (bagD c a d (n + 1) f)) := ⟨_, rfl⟩
    obtain ⟨H1, g1⟩ := G1
    rw [← g1] at hp1 hc1 S1 ⊢
    clear g1
    -- a cell is read
    refine ⟨fun σ' H' => ∃ (z : Option V) (a d f : Int), σ' = [some (.ref p), some (.int m), none, z, none] ∧ H' p = some (.dK (bagD c a d (n + 1) f)) ∧ H' c = some (.lst (cs.map V.int)) ∧ Sav p H H' ∧ 0 ≤ a ∧ 0 ≤ d ∧ 0 ≤ f ∧ f < 2 ^ 32, ?_, ?_⟩
    · refine ⟨_, rfl, p, _, rfl, dg_digits hp1, rfl, _, rfl, ?_⟩
      refine ite2 (fun hd => ?_) (fun _ => iteF ⟨_, a, d, f, rfl, hp1, hc1, S1, h0, h1, h4, h5⟩)
      refine ⟨_, rfl, p, _, rfl, dg_at hp1, _, rfl, p, _, rfl, dg_cells hp1, _, _, rfl, .inl ⟨_, SqL.of hc1, rfl⟩, _, _, rfl, rfl, _, rfl, ?_⟩
      refine ite2 (fun ha => ?_) (fun _ => ⟨_, a, d, f, rfl, hp1, hc1, S1, h0, h1, h4, h5⟩)
      have ha2 : a < cs.length := by have := of_decide_eq_true ha; rw [List.length_map] at this; exact this
      obtain ⟨j, rfl⟩ : ∃ j : Nat, a = (j : Int) := ⟨a.toNat, by omega⟩
      have hj : j < cs.length := by omega
      have hix : atI (cs.map V.int) (j : Int) = some (.int cs[j]) := atI_nat (by rw [List.getElem?_map, List.getElem?_eq_getElem hj]; rfl)
      refine ⟨_, rfl, p, _, rfl, dg_cells hp1, _, rfl, p, _, rfl, dg_at hp1, c, _, _, _, rfl, rfl, SqL.of hc1, hix, ?_⟩
      refine ⟨_, rfl, p, _, rfl, dg_at hp1, _, _, rfl, rfl, _, rfl, p, _, rfl, dp_at hp1, ?_⟩
      have hp2 : (upd H1 p (.dK (bagD c ((j : Int) + 1) d (n + 1) f))) p = some (.dK (bagD c ((j : Int) + 1) d (n + 1) f)) := upd_same
      have hc2 : (upd H1 p (.dK (bagD c ((j : Int) + 1) d (n + 1) f))) c = some (.lst (cs.map V.int)) := by rw [upd_ne ncp]; exact hc1
      refine ⟨_, rfl, _, _, rfl, rfl, ⟨by decide, by decide, by decide⟩, _, _, rfl, rfl, _, rfl, ?_⟩
      refine ite2 (fun hg => ?_) (fun _ => ?_)
      · have hg2 := of_decide_eq_true hg
        refine ⟨_, rfl, _, _, rfl, rfl, ⟨by decide, by decide, by decide⟩, _, _, rfl, rfl, _, rfl, p, _, rfl, dp_digits hp2, ?_⟩
        refine ⟨_, (j : Int) + 1, _, f, rfl, upd_same, by rw [upd_ne ncp]; exact hc2, S1.trans (Sav.own.trans Sav.own), by omega, ?_, h4, h5⟩
        have e : (10 : Int) ^ (18 : Int).toNat = 1000000000000000000 := by decide
        rw [e] at hg2 ⊢
        omega
      · have q := mod_in (x := f * 69069 + cs[j]) (show (0 : Int) < 2147483587 by decide)
        refine ⟨_, rfl, p, _, rfl, dg_fold hp2, _, _, rfl, rfl, .inr ⟨by decide, by decide⟩, _, rfl, _, _, rfl, rfl, .inl ⟨_, rfl, _, _, rfl, rfl, by show (0 : Int) < _; decide, _, rfl, p, _, rfl, dp_fold hp2, ?_⟩⟩
        exact ⟨_, (j : Int) + 1, d, _, rfl, upd_same, by rw [upd_ne ncp]; exact hc2, S1.trans (Sav.own.trans Sav.own), by omega, h1, q.1, by have := q.2; omega⟩
    · rintro σ' H2 ⟨z, a, d, f, rfl, hp2, hc2, S2, h0, h1, h4, h5⟩
      refine ⟨_, rfl, p, _, rfl, dg_digits hp2, _, _, rfl, rfl, _, rfl, ?_⟩
      refine ite2 (fun hd => ?_) (fun _ => ?_)
      · refine ⟨_, rfl, p, _, rfl, dg_digits hp2, .inl ⟨_, rfl, _, rfl, _, _, rfl, rfl, hm, ?_⟩⟩
        refine ⟨_, rfl, p, _, rfl, dg_digits hp2, _, rfl, _, _, rfl, rfl, ⟨hm, hm2⟩, _, rfl, p, _, rfl, dp_digits hp2, ?_⟩
        refine ⟨_, rfl, k _ _ (mod_in hm).1 (mod_in hm).2 ⟨cs, a, _, n + 1, f, upd_same, by rw [upd_ne ncp]; exact hc2, h0, Int.ediv_nonneg h1 (by omega), by omega, by omega, h4, h5⟩ (S2.trans Sav.own)⟩
      · refine ⟨_, rfl, p, _, rfl, dg_fold hp2, _, rfl, p, _, rfl, dg_count hp2, _, _, rfl, rfl, .inr ⟨by decide, by decide⟩, _, _, rfl, rfl, _, _, rfl, rfl, ?_⟩
        refine ⟨_, rfl, _, _, rfl, rfl, ⟨by decide, by decide, by omega⟩, _, _, rfl, rfl, by show (0 : Int) < _; decide, .inl ⟨_, rfl, _, _, rfl, rfl, ⟨by decide, by decide⟩, _, rfl, _, _, rfl, rfl, hm, ?_⟩⟩
        exact k _ _ (mod_in hm).1 (mod_in hm).2 ⟨cs, a, d, n + 1, f, hp2, hc2, h0, h1, by omega, by omega, h4, h5⟩ S2
end
end RS

set_option maxRecDepth 100000
set_option maxHeartbeats 4000000
namespace RS
open PySem PySem.Spec PyProof.Rows L2 NdefX He PySem.W
/-! ### names -/
def LT : Str := "abcdefghijklmnopqrstuvwxyz"
def DG : Str := "0123456789"
def okS (c : Nat) : Bool := decide (c ∈ LT.cps.toList) || decide (c ∈ DG.cps.toList)
def headB (x : Str) : Bool := match x.cps.toList with
  | [] => false
  | c :: _ => decide (c ∈ LT.cps.toList)
def nameB (x : Str) : Bool := (decide (1 ≤ x.length) && decide (x.length ≤ 12)) && (headB x && x.cps.toList.all okS)
/-- what is_name says of a value -/
inductive IsNm (K : Frg) (H : Hp) : V → Bool → Prop
  | no {v : V} {n : String} : TyX K H v (.type n) → kitB n "str" = some false → IsNm K H v false
  | str {x : Str} : x.length ≤ sizeLine → IsNm K H (.str x) (nameB x)
structure TName (mg : Str → Option Value) : Prop where
  b_isinstance : mg "isinstance" = none
  b_str : mg "str" = none
  b_len : mg "len" = none
  b_all : mg "all" = none
  g_LETTERS : ∃ t, mg "LETTERS" = some (.str LT t)
  g_DIGITS : ∃ t, mg "DIGITS" = some (.str DG t)
  g_LONGEST : ∃ t, mg "LONGEST" = some (.int 12 t)
section
variable {P : Program} {w : World} {K : PySem.W.Frag} {mg : Str → Option Value} {base : Heap} {C_Scales a_KINDS : Addr}
def spIsName (K : Frg) : Sp := fun vs H Q _ => ∃ v b, vs = [v] ∧ IsNm K H v b ∧ ∀ H', L2.Same H H' → Q (.bl b) H'
abbrev s_is_name : Stmt := top 29
theorem sc_is_name : FnScope ["value", "sign"] ["value"] (defScope s_is_name) := ⟨rfl, rfl, rfl, by decide +kernel, rfl, by decide +kernel, by decide +kernel⟩
theorem ok_is_name {f : Addr} {fd : FuncData} (F : FnP K "is_name" "is_name" s_is_name f fd) (T : TName mg) : FnOk P w K mg base CX0 1 f fd ["value"] (spIsName K) := by
  obtain ⟨t1, g_LETTERS⟩ := T.g_LETTERS
  obtain ⟨t2, g_DIGITS⟩ := T.g_DIGITS
  obtain ⟨t3, g_LONGEST⟩ := T.g_LONGEST
  refine F.ok sc_is_name (fun vs H Q E h => ?_) (fun cdv A outer s H vs Q E hr h => ?_)
  · obtain ⟨v, b, rfl, _⟩ := h
    rfl
  · obtain ⟨v, b, rfl, W, k⟩ := h
    refine ⟨_, PSs.nox (Evl.pss_cut (ps_if (PW.pt (pw_or (pt_not (pt_val (pe_callB call_isi (by rfl) T.b_isinstance (by decide +kernel) (pa_cons (pv 0) (pa_cons (pe_bltn (v := .ty "str") (u := .type "str") (by rfl) T.b_str (by decide +kernel) rfl) pa_nil))))) (pw_or (pt_not (pt_chain op_le op_le pe_int (pe_callB call_len (by rfl) T.b_len PySem.boot_len (pa_cons (pv 0) pa_nil)) (pe_glob (v := .int 12) rfl g_LONGEST ⟨_, rfl⟩))) (pw_or1 (pt_cmpR op_notIn_sign (pe_ix ix_str (pv 0) pe_int (fun _ _ => rfl)) (pe_glob (v := .str LT) rfl g_LETTERS ⟨_, rfl⟩) rfl))))) (pss_one (ps_ret pe_bl)) pss_nil)
      (pss_one (ps_ret (pe_callB (cr_all rfl) (by rfl) T.b_all (by decide +kernel) (pa_cons (pe_lc (own := [("sign", 1)]) (by rfl) sc_is_name.nd (pi_str (pv 0)) (blkOk_by (own := [("sign", 1)]) (N := ["value", "sign"]) (sc := defScope s_is_name) (by decide +kernel)) (fun _ _ _ _ _ => (pg_name (i := 1) sc_is_name.nd rfl (by first | exact Or.inl rfl | exact Or.inr rfl))) (fun _ _ _ _ _ => pts_nil) (fun _ _ _ _ _ => (pe_or (pe_cmpR op_in_sign (pv 1) (pe_glob (v := .str LT) rfl g_LETTERS ⟨_, rfl⟩) rfl) (pe_one (pe_cmpR op_in_sign (pv 1) (pe_glob (v := .str DG) rfl g_DIGITS ⟨_, rfl⟩) rfl))))) pa_nil))))), ?_⟩
    have ks : kitB "str" "str" = some true := by decide +kernel
    refine ⟨fun σ' H' => H' = H ∧ ∃ x : Str, σ' = [some (.str x), none] ∧ b = x.cps.toList.all okS ∧ x.length ≤ 12, ?_, ?_⟩
    · cases W with
      | no ty kk => exact ⟨_, rfl, _, _, _, _, false, rfl, .ty _, ty, kit_ty kk, _, rfl, iteT (iteT (k _ (L2.Same.refl _)))⟩
      | @str x hx =>
        refine ⟨_, rfl, _, _, _, _, true, rfl, .ty _, .base (.str _), kit_ty ks, _, rfl, iteF ?_⟩
        refine ⟨_, rfl, _, x.length, rfl, ⟨hx, rfl⟩, _, _, rfl, rfl, _, rfl, ?_⟩
        by_cases h1 : 1 ≤ x.length
        · have e1 : decide ((1 : Int) ≤ (x.length : Int)) = true := decide_eq_true (by omega)
          rw [e1]
          refine iteT ⟨_, _, rfl, rfl, _, rfl, ?_⟩
          by_cases h2 : x.length ≤ 12
          · have e2 : decide ((x.length : Int) ≤ 12) = true := decide_eq_true (by omega)
            rw [e2]
            obtain ⟨c, l, hc⟩ : ∃ c l, x.cps.toList = c :: l := by
              cases e : x.cps.toList with
              | nil =>
                exfalso
                have : x.cps.toList.length = 0 := by rw [e]; rfl
                have e3 : x.length = x.cps.toList.length := rfl
                omega
              | cons c l => exact ⟨c, l, rfl⟩
            refine iteF ⟨_, rfl, x, 0, c, rfl, rfl, hx, by rw [hc]; exact atI_nat (xs := c :: l) (j := 0) rfl, c, LT, rfl, rfl, _, rfl, ?_⟩
            have en : nameB x = (decide (c ∈ LT.cps.toList) && x.cps.toList.all okS) := by
              unfold nameB headB
              rw [decide_eq_true h1, decide_eq_true h2, hc]
              rfl
            cases hd : decide (c ∈ LT.cps.toList) with
            | false =>
              rw [en, hd] at k
              exact iteT (k _ (L2.Same.refl _))
            | true =>
              rw [en, hd] at k ⊢
              exact iteF ⟨rfl, x, rfl, rfl, h2⟩
          · have e2 : decide ((x.length : Int) ≤ 12) = false := decide_eq_false (by omega)
            rw [e2]
            have en : nameB x = false := by
              unfold nameB
              rw [decide_eq_false h2, Bool.and_false, Bool.false_and]
            rw [en] at k
            exact iteT (iteT (k _ (L2.Same.refl _)))
        · have e1 : decide ((1 : Int) ≤ (x.length : Int)) = false := decide_eq_false (by omega)
          rw [e1]
          have en : nameB x = false := by
            unfold nameB
            rw [decide_eq_false h1, Bool.false_and, Bool.false_and]
          rw [en] at k
          exact iteF ⟨_, rfl, iteT (iteT (k _ (L2.Same.refl _)))⟩
    · rintro σ' H' ⟨rfl, x, rfl, rfl, h12⟩
      have hsz : x.cps.size ≤ 12 := h12
      refine ⟨_, rfl, x, rfl, fun D hD => lc_str (x := x) (fun i H'' => L2.Same H' H'' ∧ H'' D = some (.lst (((x.cps.toList.take i).map okS).map V.bl))) ⟨Same.new hD, upd_same⟩ ?_ ?_⟩
      · rintro i c H'' hc ⟨s, e⟩
        have hi : i < x.cps.size := (Array.getElem?_eq_some_iff.mp hc).1
        refine ⟨rfl, ?_⟩
        have fin : ∃ acc, H'' D = some (.lst acc) ∧ acc.length < sizeLine ∧ (L2.Same H' (upd H'' D (.lst (acc ++ [V.bl (okS c)]))) ∧ (upd H'' D (.lst (acc ++ [V.bl (okS c)]))) D = some (.lst (((x.cps.toList.take (i + 1)).map okS).map V.bl))) := by
          refine ⟨_, e, by rw [List.length_map, List.length_map, List.length_take, sizeLine_eq]; omega, Same.mut s hD, ?_⟩
          have hc2 : x.cps.toList[i]? = some c := by rw [Array.getElem?_toList]; exact hc
          rw [upd_same, List.take_succ, hc2, List.map_append, List.map_append]
          rfl
        refine ⟨_, rfl, c, LT, rfl, rfl, _, rfl, ?_⟩
        unfold okS at fin
        cases hl : decide (c ∈ LT.cps.toList) with
        | true =>
          rw [hl] at fin
          exact iteT fin
        | false =>
          rw [hl] at fin
          exact iteF ⟨_, rfl, c, DG, rfl, rfl, fin⟩
      · rintro H'' ⟨s, e⟩
        have e2 : x.cps.toList.take x.cps.size = x.cps.toList := List.take_of_length_le (by rw [Array.length_toList]; exact Nat.le_refl _)
        rw [e2] at e
        refine ⟨D, x.cps.toList.map okS, rfl, SqL.of e, ?_⟩
        rw [List.all_map]
        exact k _ s
end
end RS

set_option maxRecDepth 100000
set_option maxHeartbeats 4000000
namespace RS
open PySem PySem.Spec PyProof.Rows L2 NdefX He PySem.W
/-! ### scales -/
abbrev PL := List (Str × Str)
def kdS (s : Str) : Bool := decide (s = "free") || (decide (s = "rising") || decide (s = "falling"))
def kvs (ps : PL) : List (Key × V) := ps.map fun q => (Sum.inr q.1, V.str q.2)
def tupD (ps : PL) : PyData := Datum.toD (Tup.mk ps)
theorem td_pair {H : Hp} {v : V} {n k : Str} (h : Td H v (Datum.toD ((n, k) : Str × Str))) : ∃ r, v = .ref r ∧ H r = some (.tup [.str n, .str k]) := by
  have h' : Td H v (.tuple [.str n, .str k]) := h
  cases h' with
  | tup e a =>
    cases a with
    | cons x y =>
      cases y with
      | cons y z =>
        cases z
        cases x
        cases y
        exact ⟨_, rfl, e⟩
theorem pair_td {H : Hp} {r : Addr} {n k : Str} (h : H r = some (.tup [.str n, .str k])) : Td H (.ref r) (Datum.toD ((n, k) : Str × Str)) := .tup h (.cons (.str n) (.cons (.str k) .nil))
theorem flP1 : ¬ (("pairs" : Str) = "names") := by decide +kernel
theorem flP2 : ¬ (("pairs" : Str) = "kinds_told") := by decide +kernel
theorem flP3 : ¬ (("names" : Str) = "kinds_told") := by decide +kernel
def flSc (tp tn td : Addr) : List (Str × V) := putF "kinds_told" (.ref td) (putF "names" (.ref tn) (putF "pairs" (.ref tp) []))
theorem fl_pairs (tp tn td : Addr) : (flSc tp tn td).lookup ("pairs" : Str) = some (.ref tp) := by unfold flSc; rw [lookup_putF, if_neg flP2, lookup_putF, if_neg flP1, lookup_putF, if_pos rfl]
theorem fl_names (tp tn td : Addr) : (flSc tp tn td).lookup ("names" : Str) = some (.ref tn) := by unfold flSc; rw [lookup_putF, if_neg flP3, lookup_putF, if_pos rfl]
theorem fl_kinds (tp tn td : Addr) : (flSc tp tn td).lookup ("kinds_told" : Str) = some (.ref td) := by unfold flSc; rw [lookup_putF, if_pos rfl]
/-- scales of these pairs stand at p, their dict at td -/
structure ScalesAt (C : Addr) (H : Hp) (p td : Addr) (ps : PL) : Prop where
  ex : ∃ dx tp tn, H p = some (.ins C dx (flSc tp tn td)) ∧ Td H (.ref tp) (tupD ps) ∧ H tn = some (.tup (ps.map fun q => V.str q.1)) ∧ H td = some (.dK (kvs ps))
/-- a list of such pairs -/
structure Kds (H : Hp) (L : Addr) (ps : PL) : Prop where
  ex : ∃ rs : List V, H L = some (.lst rs) ∧ TdAll H rs (ps.map Datum.toD)
/-- all but the pen and the lists stand as they were -/
def Kp (p : Addr) (H H' : Hp) : Prop := ∀ b o, b ≠ p → (∀ xs, o ≠ .lst xs) → H b = some o → H' b = some o
theorem Kp.refl (p : Addr) (H : Hp) : Kp p H H := fun _ _ _ _ h => h
theorem Kp.trans {p : Addr} {H H1 H2 : Hp} (x : Kp p H H1) (y : Kp p H1 H2) : Kp p H H2 := fun b o n l h => y b o n l (x b o n l h)
theorem Sav.kp {p : Addr} {H H' : Hp} (x : Sav p H H') : Kp p H H' := fun b o n _ h => x b o n h
theorem Same.kp {p : Addr} {H H' : Hp} (x : L2.Same H H') : Kp p H H' := fun b o _ _ h => x b o h
theorem Kp.lst {p l : Addr} {H : Hp} {xs : List V} {o : HO} (h : H l = some (.lst xs)) : Kp p H (upd H l o) := fun b u _ n e => by
  have : b ≠ l := fun z => by rw [z, h] at e; exact n xs (Option.some.inj e).symm
  rw [upd_ne this]
  exact e
theorem Kp.tk {p c : Addr} {n : Nat} {H H' : Hp} (x : Kp p H H') (P : Pen H p c n) : TK H H' := fun r xs h => x _ _ (P.ne h fun _ z => by cases z) (fun ys z => by cases z) h
theorem Kp.ins {p c C q dx : Addr} {n : Nat} {H H' : Hp} {fs : List (Str × V)} (x : Kp p H H') (P : Pen H p c n) (h : H q = some (.ins C dx fs)) : H' q = some (.ins C dx fs) := x _ _ (P.ne h fun _ z => by cases z) (fun ys z => by cases z) h
theorem ScalesAt.kp {C p q td c : Addr} {n : Nat} {H H' : Hp} {ps : PL} (x : ScalesAt C H q td ps) (P : Pen H p c n) (nd : td ≠ p) (k : Kp p H H') : ScalesAt C H' q td ps := by
  obtain ⟨dx, tp, tn, h1, h2, h3, h4⟩ := x.ex
  exact ⟨dx, tp, tn, k.ins P h1, h2.keep (k.tk P), k.tk P _ _ h3, k _ _ nd (fun xs z => by cases z) h4⟩
theorem ScalesAt.old {C q td : Addr} {H H' : Hp} {ps : PL} (x : ScalesAt C H q td ps) (k : L2.Same H H') : ScalesAt C H' q td ps := by
  obtain ⟨dx, tp, tn, h1, h2, h3, h4⟩ := x.ex
  exact ⟨dx, tp, tn, k _ _ h1, h2.keep (Same.tk k), k _ _ h3, k _ _ h4⟩
theorem valV_kvs (x : Str) : ∀ ps : PL, (valV (kvs ps) (Sum.inr x)).isSome = decide (x ∈ ps.map (·.1))
  | [] => rfl
  | q :: ps => by
    by_cases h : q.1 = x
    · have e : valV (kvs (q :: ps)) (Sum.inr x) = some (.str q.2) := valV_pos (p := (Sum.inr q.1, V.str q.2)) (by rw [h])
      rw [e, decide_eq_true (by rw [List.map_cons, h]; exact List.mem_cons_self ..)]
      rfl
    · have e : valV (kvs (q :: ps)) (Sum.inr x) = valV (kvs ps) (Sum.inr x) := valV_neg (p := (Sum.inr q.1, V.str q.2)) (fun z => h (Sum.inr.inj z))
      rw [e, valV_kvs x ps]
      have : (x ∈ (q :: ps).map (·.1)) ↔ x ∈ ps.map (·.1) := by
        rw [List.map_cons, List.mem_cons]
        exact ⟨fun z => z.elim (fun y => absurd y.symm h) id, .inr⟩
      simp only [this]
theorem putK_kvs {x v : Str} {ps : PL} (h : x ∉ ps.map (·.1)) : putK (kvs ps) (Sum.inr x) (.str v) = kvs (ps ++ [(x, v)]) := by
  have e : ((kvs ps).any fun kv => decide (kv.1 = Sum.inr x)) = false := by
    rw [valV_any, valV_kvs]
    exact decide_eq_false h
  unfold putK
  rw [e, if_neg (by decide)]
  unfold kvs
  rw [List.map_append]
  rfl
structure TSc (K : Frg) (mg : Str → Option Value) (C a_KINDS : Addr) : Prop where
  b_isinstance : mg "isinstance" = none
  b_str : mg "str" = none
  b_len : mg "len" = none
  b_tuple : mg "tuple" = none
  g_Scales : mg "Scales" = some (.ref C)
  c_Scales : Cls K C
  i_Scales : IsiC K C
  n1 : NoAttr K C "pairs"
  n2 : NoAttr K C "names"
  n3 : NoAttr K C "kinds_told"
  k_self : PySem.W.kitOne K (.ref C) (.ref C) = some true
  g_KINDS : mg "KINDS" = some (.ref a_KINDS)
  t_KINDS : ∀ H, SqT K H a_KINDS [.str "free", .str "rising", .str "falling"]
theorem inV_kinds {x : Str} (h : kdS x = true) : inV (.str x) [.str "free", .str "rising", .str "falling"] = true := by
  unfold kdS at h
  rcases Bool.or_eq_true_iff.mp h with h | h
  · rw [of_decide_eq_true h]; decide +kernel
  · rcases Bool.or_eq_true_iff.mp h with h | h
    · rw [of_decide_eq_true h]; decide +kernel
    · rw [of_decide_eq_true h]; decide +kernel
/-- pairs that scales may be made of -/
structure GoodP (ps : PL) : Prop where
  ne : ps ≠ []
  few : ps.length ≤ 100
  nm : ∀ q ∈ ps, nameB q.1 = true
  kd : ∀ q ∈ ps, kdS q.2 = true
  nd : (ps.map (·.1)).Nodup
theorem GoodP.at {ps : PL} (g : GoodP ps) {i : Nat} {q : Str × Str} (h : ps[i]? = some q) : q.1 ∉ (ps.take i).map (·.1) ∧ nameB q.1 = true ∧ kdS q.2 = true := by
  have hm := List.mem_of_getElem? h
  refine ⟨fun z => ?_, g.nm q hm, g.kd q hm⟩
  obtain ⟨q', hq', e⟩ := List.mem_map.mp z
  obtain ⟨j, hj⟩ := List.mem_iff_getElem?.mp hq'
  have hji : j < i := by
    have h1 := (List.getElem?_eq_some_iff.mp hj).1
    rw [List.length_take] at h1
    omega
  have hj' : ps[j]? = some q' := by rw [List.getElem?_take_of_lt hji] at hj; exact hj
  have nd := g.nd
  have e1 : (ps.map (·.1))[j]? = some q'.1 := by rw [List.getElem?_map, hj']; rfl
  have e2 : (ps.map (·.1))[i]? = some q.1 := by rw [List.getElem?_map, h]; rfl
  rw [e] at e1
  have := nodup_ix nd e1 e2
  omega
theorem name_len {x : Str} (h : nameB x = true) : x.length ≤ sizeLine := by
  unfold nameB at h
  obtain ⟨h1, _⟩ := ba h
  obtain ⟨_, h2⟩ := ba h1
  have := of_decide_eq_true h2
  rw [sizeLine_eq]
  omega
section
variable {P : Program} {w : World} {K : PySem.W.Frag} {mg : Str → Option Value} {base : Heap} {C_Scales a_KINDS : Addr}
def spScInit (C : Addr) : Sp := fun vs H Q _ => ∃ (p dx L : Addr) (ps : PL), vs = [.ref p, .ref L] ∧ H p = some (.ins C dx []) ∧ Kds H L ps ∧ GoodP ps ∧ ∀ td H', (∀ b o, H b = some o → b ≠ p → H' b = some o) → H td = none → ScalesAt C H' p td ps → Q .non H'
abbrev s_Scales___init__ : Stmt := inClass (top 32) 0
theorem sc_Scales___init__ : FnScope ["self", "pairs", "told", "kinds", "name", "kind"] ["self", "pairs"] (defScope s_Scales___init__) := ⟨rfl, rfl, rfl, by decide +kernel, rfl, by decide +kernel, by decide +kernel⟩
theorem ok_Scales_init {f : Addr} {fd : FuncData} (F : FnP K "__init__" "Scales.__init__" s_Scales___init__ f fd) (T : TSc K mg C_Scales a_KINDS) (M_is_name : Cal P w K mg base CX0 1 "is_name" ["value"] [] (spIsName K)) : FnOk P w K mg base CX0 2 f fd ["self", "pairs"] (spScInit C_Scales) := by
  refine F.ok sc_Scales___init__ (fun vs H Q E h => ?_) (fun cdv A outer s H vs Q E hr h => ?_)
  · obtain ⟨p, dx, L, ps, rfl, _⟩ := h
    rfl
  · obtain ⟨p, dx, L, ps, rfl, hp, KL, g, k⟩ := h
    obtain ⟨rs, hL, hrs⟩ := KL.ex
    have hu := hu_of hr
    have hlen : rs.length = ps.length := by rw [hrs.len, List.length_map]
    have few := g.few
    refine ⟨_, PSs.nox (pss_cons (ps_setLc (i := 2) (own := [("name", 4), ("kind", 5)]) (by rfl) sc_Scales___init__.nd rfl rfl (sw_true rfl rfl rfl (by decide +kernel)) (pi_list (pv 1)) (blkOk_by (own := [("name", 4), ("kind", 5)]) (N := ["self", "pairs", "told", "kinds", "name", "kind"]) (sc := defScope s_Scales___init__) (by decide +kernel)) (fun _ _ _ _ _ => (pg_tupK (K := K) (n := 2) rfl (by rfl) (pgs_cons (pg_name (i := 4) sc_Scales___init__.nd rfl (by first | exact Or.inl rfl | exact Or.inr rfl)) (pgs_cons (pg_name (i := 5) sc_Scales___init__.nd rfl (by first | exact Or.inl rfl | exact Or.inr rfl)) pgs_nil)))) (fun _ _ _ _ _ => pts_nil) (fun _ _ _ _ _ => (pe_tup (pa_cons (pv 4) (pa_cons (pv 5) pa_nil)))))
      (pss_cons (ps_if (pt_cmpR op_eq (pe_callB call_len (by rfl) T.b_len PySem.boot_len (pa_cons (pv 2) pa_nil)) pe_int (nomark _)) (pss_one ps_never) pss_nil)
      (pss_cons (ps_set (i := 3) sc_Scales___init__.nd rfl (by first | exact Or.inl rfl | exact Or.inr rfl) pe_dnewK)
      (pss_cons (ps_for PassesOwn.never rfl (pi_list (pv 2)) (pg_tup (by rfl) (pgs_cons (pg_name (i := 4) sc_Scales___init__.nd rfl (by first | exact Or.inl rfl | exact Or.inr rfl)) (pgs_cons (pg_name (i := 5) sc_Scales___init__.nd rfl (by first | exact Or.inl rfl | exact Or.inr rfl)) pgs_nil))) (pss_cons (ps_if (pt_not (pt_val (pe_fn M_is_name (hr.mono (by decide)) pass0 (pa_cons (pv 4) pa_nil)))) (pss_one ps_never) pss_nil)
      (pss_cons (ps_if (pt_cmp (pc_din hu (pv 4) (pv 3))) (pss_one ps_never) pss_nil)
      (Evl.pss_cut (ps_if (PW.pt (pw_or (pt_not (pt_val (pe_callB call_isi (by rfl) T.b_isinstance (by decide +kernel) (pa_cons (pv 5) (pa_cons (pe_bltn (v := .ty "str") (u := .type "str") (by rfl) T.b_str (by decide +kernel) rfl) pa_nil))))) (pw_or1 (pt_cmpR op_notIn_seq (pv 5) (pe_glob (v := .ref a_KINDS) rfl T.g_KINDS rfl) rfl)))) (pss_one ps_never) pss_nil)
      (pss_one (ps_dput hu (pv 3) (pv 4) (pv 5) rfl))))))
      (pss_cons (ps_fld (pv 0) (pe_callTy call_tuple_of (by rfl) T.b_tuple (by decide +kernel) (pa_cons (pv 2) pa_nil)) rfl)
      (pss_cons (ps_fld (pv 0) (pe_callTy call_tuple_of (by rfl) T.b_tuple (by decide +kernel) (pa_cons (pe_lc (own := [("name", 4), ("kind", 5)]) (by rfl) sc_Scales___init__.nd (pi_list (pv 2)) (blkOk_by (own := [("name", 4), ("kind", 5)]) (N := ["self", "pairs", "told", "kinds", "name", "kind"]) (sc := defScope s_Scales___init__) (by decide +kernel)) (fun _ _ _ _ _ => (pg_tupK (K := K) (n := 2) rfl (by rfl) (pgs_cons (pg_name (i := 4) sc_Scales___init__.nd rfl (by first | exact Or.inl rfl | exact Or.inr rfl)) (pgs_cons (pg_name (i := 5) sc_Scales___init__.nd rfl (by first | exact Or.inl rfl | exact Or.inr rfl)) pgs_nil)))) (fun _ _ _ _ _ => pts_nil) (fun _ _ _ _ _ => (pv 4))) pa_nil)) rfl)
      (pss_one (ps_fld (pv 0) (pv 3) rfl)))))))), ?_⟩
    -- told
    refine ⟨_, rfl, L, rfl, ⟨_, SqL.of hL⟩, fun D hD => lc_list (xs := rs) (fun i H' => L2.Same H H' ∧ ∃ ts, H' D = some (.lst ts) ∧ TdAll H' ts ((ps.take i).map Datum.toD)) ⟨Same.new hD, [], upd_same, .nil⟩ (fun i H' _ z => SqL.of (z.1 _ _ hL)) ?_ ?_⟩
    · rintro i x H' hi ⟨s', ts, e, ht⟩
      obtain ⟨d, hd, tx⟩ := hrs.at hi
      rw [List.getElem?_map] at hd
      cases hq : ps[i]? with
      | none => rw [hq] at hd; cases hd
      | some q =>
        rw [hq] at hd
        obtain ⟨n, kd⟩ := q
        cases hd
        obtain ⟨r, rfl, hr0⟩ := td_pair tx
        have hi2 : i < ps.length := (List.getElem?_eq_some_iff.mp hq).1
        refine ⟨r, _, rfl, SqT.of (s' _ _ hr0), rfl, _, _, rfl, _, _, rfl, rfl, rfl, ?_⟩
        refine ⟨_, rfl, _, rfl, by show 2 ≤ sizeLine; rw [sizeLine_eq]; decide, fun t htn => ⟨ts, upd_old htn e, by rw [ht.len, List.length_map, List.length_take, sizeLine_eq]; omega, Same.mut (L2.Same.trans s' (Same.new htn)) hD, ts ++ [.ref t], upd_same, ?_⟩⟩
        have k2 : TK H' (upd (upd H' t (.tup [.str n, .str kd])) D (.lst (ts ++ [.ref t]))) := fun b xs hb => by
          have n1 : b ≠ D := fun z => by rw [z, e] at hb; cases hb
          rw [upd_ne n1]
          exact upd_old htn hb
        have nt : t ≠ D := fun z => by rw [z, e] at htn; cases htn
        rw [List.take_succ, hq, List.map_append]
        exact (ht.keep k2).snoc (pair_td (by rw [upd_ne nt, upd_same]))
    · rintro H1 ⟨s1, ts, e1, ht1⟩
      have tl : ts.length = ps.length := by rw [ht1.len, List.length_map, List.length_take, hlen]; omega
      rw [List.take_of_length_le (by omega)] at ht1
      have pos : 0 < ps.length := List.length_pos_iff.mpr g.ne
      refine ⟨_, rfl, _, ts.length, rfl, .inl ⟨ts, SqL.of e1, rfl⟩, rfl, _, rfl, ?_⟩
      rw [decide_eq_false (show ¬ V.int (ts.length : Int) = V.int 0 from fun z => by have := V.int.inj z; omega)]
      refine iteF ?_
      intro kd hkd
      have hkd0 : H kd = none := by
        cases z : H kd with
        | none => rfl
        | some o => rw [s1 _ _ z] at hkd; cases hkd
      have p1 : H1 p = some (.ins C_Scales dx []) := s1 _ _ hp
      have npk : p ≠ kd := ne_of_none p1 hkd
      have nDk : D ≠ kd := ne_of_none e1 hkd
      have e2 : (upd H1 kd (.dK [])) D = some (.lst ts) := upd_old hkd e1
      have ht2 : TdAll (upd H1 kd (.dK [])) ts (ps.map Datum.toD) := ht1.keep (Same.tk (Same.new hkd))
      have p2 : (upd H1 kd (.dK [])) p = some (.ins C_Scales dx []) := upd_old hkd p1
      have q2 : (upd H1 kd (.dK [])) kd = some (.dK []) := upd_same
      have s2 : L2.Same H (upd H1 kd (.dK [])) := L2.Same.trans s1 (Same.new hkd)
      have G2 : ∃ H2 : Hp, H2 = upd H1 kd (.dK []) := ⟨_, rfl⟩
      obtain ⟨H2, g2⟩ := G2
      rw [← g2] at e2 ht2 p2 q2 s2 ⊢
      clear g2 e1 ht1 p1 hkd s1
      -- the kinds
      refine ⟨_, rfl, D, rfl, ⟨_, SqL.of e2⟩, for_list (K := K) (a := D) (xs := ts) (fun i σ H' => (∃ z4 z5 : Option V, σ = [some (.ref p), some (.ref L), some (.ref D), some (.ref kd), z4, z5]) ∧ H' kd = some (.dK (kvs (ps.take i))) ∧ Sav kd H2 H')
        ⟨⟨_, _, rfl⟩, q2, Sav.refl _ _⟩ (fun i σ H' _ z => SqL.of (z.2.2.at nDk e2)) ?_ ?_⟩
      · rintro i x σ H' hi ⟨⟨z4, z5, rfl⟩, hk', sv⟩
        obtain ⟨d, hd, tx⟩ := ht2.at hi
        rw [List.getElem?_map] at hd
        cases hq : ps[i]? with
        | none => rw [hq] at hd; cases hd
        | some q =>
          rw [hq] at hd
          obtain ⟨nf, nn, nk⟩ := g.at hq
          obtain ⟨n, kk⟩ := q
          cases hd
          obtain ⟨r, rfl, hr0⟩ := td_pair tx
          have nrk : r ≠ kd := ne_of hr0 q2 (by intro z; cases z)
          have hr1 := sv.at nrk hr0
          have hi2 : i < ps.length := (List.getElem?_eq_some_iff.mp hq).1
          refine ⟨r, _, rfl, SqT.of hr1, rfl, _, _, rfl, _, _, rfl, rfl, ?_⟩
          have hnm : IsNm K H' (.str n) true := by
            have z := IsNm.str (K := K) (H := H') (name_len nn)
            rw [show nameB n = true from nn] at z
            exact z
          refine ⟨_, rfl, .str n, true, rfl, hnm, fun H3 s3 => ⟨_, rfl, iteF ?_⟩⟩
          have hk3 := s3 _ _ hk'
          refine ⟨_, rfl, _, rfl, kd, _, rfl, DGet.k (k := Sum.inr n) hk3, _, rfl, ?_⟩
          rw [valV_kvs, decide_eq_false nf]
          refine iteF ?_
          refine ⟨fun σ' H' => H' = H3 ∧ σ' = [some (.ref p), some (.ref L), some (.ref D), some (.ref kd), some (.str n), some (.str kk)], ?_, ?_⟩
          · refine ⟨_, rfl, _, _, _, _, true, rfl, .ty _, .base (.str _), kit_ty (show kitB "str" "str" = some true by decide +kernel), _, rfl, iteF ⟨_, rfl, a_KINDS, _, rfl, .inr (T.t_KINDS _), rfl, rfl, _, rfl, ?_⟩⟩
            rw [show (if true = true then !inV (.str kk) [.str "free", .str "rising", .str "falling"] else inV (.str kk) [.str "free", .str "rising", .str "falling"]) = false by rw [inV_kinds nk]; rfl]
            exact iteF ⟨rfl, rfl⟩
          · rintro σ' H'' ⟨rfl, rfl⟩
            refine ⟨_, rfl, _, rfl, _, rfl, kd, _, rfl, DPut.k (k := Sum.inr n) hk3 (by rw [show (kvs (ps.take i)).length = (ps.take i).length from List.length_map .., List.length_take, sizeLine_eq]; omega), ⟨_, _, rfl⟩, ?_, sv.trans ((Same.sav s3).trans Sav.own)⟩
            rw [upd_same, putK_kvs nf, List.take_succ, hq]
            rfl
      · rintro σ H3 ⟨⟨z4, z5, rfl⟩, hk3, sv⟩
        rw [List.take_of_length_le (by omega)] at hk3
        have e3 := sv.at nDk e2
        have p3 := sv.at npk p2
        have ht3 : TdAll H3 ts (ps.map Datum.toD) := ht2.keep (fun r xs h => sv.at (ne_of h q2 (by intro z; cases z)) h)
        have s3 : ∀ b o, H b = some o → b ≠ p → H3 b = some o := fun b o hb _ => sv.at (ne_of_none hb hkd0) (s2 b o hb)
        clear e2 p2 q2 ht2 s2 sv
        -- self.pairs
        refine ⟨_, rfl, D, _, rfl, .inl ⟨SqL.of e3, fun tp htp => ?_⟩⟩
        have p4 := upd_old (u := .tup ts) htp p3
        refine ⟨_, rfl, p, C_Scales, dx, _, rfl, p4, T.c_Scales, T.n1, by decide, ?_⟩
        have npt : p ≠ tp := ne_of_none p3 htp
        have nDp : D ≠ p := ne_of e3 p3 (by intro z; cases z)
        have nkp : kd ≠ p := npk.symm
        have hd4 : ∀ b o, b ≠ p → H3 b = some o → (upd (upd H3 tp (.tup ts)) p (.ins C_Scales dx (putF "pairs" (.ref tp) []))) b = some o := fun b o n h => by rw [upd_ne n]; exact upd_old htp h
        have tp4 : (upd (upd H3 tp (.tup ts)) p (.ins C_Scales dx (putF "pairs" (.ref tp) []))) tp = some (.tup ts) := by rw [upd_ne npt.symm, upd_same]
        have p5 : (upd (upd H3 tp (.tup ts)) p (.ins C_Scales dx (putF "pairs" (.ref tp) []))) p = some (.ins C_Scales dx (putF "pairs" (.ref tp) [])) := upd_same
        have G4 : ∃ H4 : Hp, H4 = upd (upd H3 tp (.tup ts)) p (.ins C_Scales dx (putF "pairs" (.ref tp) [])) := ⟨_, rfl⟩
        obtain ⟨H4, g4⟩ := G4
        rw [← g4] at hd4 tp4 p5 ⊢
        clear g4 p4
        have e4 := hd4 _ _ nDp e3
        have ht4 : TdAll H4 ts (ps.map Datum.toD) := ht3.keep (fun r xs h => hd4 _ _ (ne_of h p3 (by intro z; cases z)) h)
        have hk4 := hd4 _ _ nkp hk3
        -- self.names
        refine ⟨_, rfl, D, rfl, ⟨_, SqL.of e4⟩, fun D2 hD2 => lc_list (xs := ts) (fun i H' => L2.Same H4 H' ∧ H' D2 = some (.lst ((ps.take i).map fun q => V.str q.1))) ⟨Same.new hD2, upd_same⟩ (fun i H' _ z => SqL.of (z.1 _ _ e4)) ?_ ?_⟩
        · rintro i x H' hi ⟨s', e⟩
          obtain ⟨d, hd, tx⟩ := ht4.at hi
          rw [List.getElem?_map] at hd
          cases hq : ps[i]? with
          | none => rw [hq] at hd; cases hd
          | some q =>
            rw [hq] at hd
            obtain ⟨n, kk⟩ := q
            cases hd
            obtain ⟨r, rfl, hr0⟩ := td_pair tx
            have hi2 : i < ps.length := (List.getElem?_eq_some_iff.mp hq).1
            refine ⟨r, _, rfl, SqT.of (s' _ _ hr0), rfl, _, _, rfl, _, _, rfl, rfl, rfl, ?_⟩
            refine ⟨_, rfl, _, e, by rw [List.length_map, List.length_take, sizeLine_eq]; omega, Same.mut s' hD2, ?_⟩
            rw [upd_same, List.take_succ, hq, List.map_append]
            rfl
        · rintro H5 ⟨s5, e5⟩
          rw [tl, List.take_length] at e5
          refine ⟨D2, _, rfl, .inl ⟨SqL.of e5, fun tn htn => ?_⟩⟩
          have p6 := upd_old (u := .tup (ps.map fun q => V.str q.1)) htn (s5 _ _ p5)
          have nnp : p ≠ tn := ne_of_none (s5 _ _ p5) htn
          refine ⟨_, rfl, p, C_Scales, dx, _, rfl, p6, T.c_Scales, T.n2, by show 1 < 1000; decide, ?_⟩
          refine ⟨_, rfl, _, rfl, p, C_Scales, dx, _, rfl, upd_same, T.c_Scales, T.n3, by show 2 < 1000; decide, ?_⟩
          have fin : ∀ b o, b ≠ p → H4 b = some o → (upd (upd (upd H5 tn (.tup (ps.map fun q => V.str q.1))) p (.ins C_Scales dx (putF "names" (.ref tn) (putF "pairs" (.ref tp) [])))) p (.ins C_Scales dx (putF "kinds_told" (.ref kd) (putF "names" (.ref tn) (putF "pairs" (.ref tp) []))))) b = some o := fun b o n h => by
            rw [upd_ne n, upd_ne n]
            exact upd_old htn (s5 _ _ h)
          refine k kd _ (fun b o hb n => fin b o n (hd4 b o n (s3 b o hb n))) hkd0 ⟨dx, tp, tn, upd_same, .tup (fin _ _ npt.symm tp4) (ht4.keep fun r xs h => fin _ _ (ne_of h p5 (by intro z; cases z)) h), ?_, fin _ _ nkp hk4⟩
          rw [upd_ne nnp.symm, upd_ne nnp.symm, upd_same]
/-- v in scales of these pairs -/
inductive HasV (K : Frg) (H : Hp) (ps : PL) : V → Bool → Prop
  | str (x : Str) : HasV K H ps (.str x) (decide (x ∈ ps.map (·.1)))
  | no {v : V} {n : String} : TyX K H v (.type n) → kitB n "str" = some false → HasV K H ps v false
def spScHas (K : Frg) (C : Addr) : Sp := fun vs H Q _ => ∃ (p td : Addr) (v : V) (ps : PL) (b : Bool), vs = [.ref p, v] ∧ ScalesAt C H p td ps ∧ HasV K H ps v b ∧ Q (.bl b) H
def spScEq (C : Addr) : Sp := fun vs H Q _ => ∃ (p td q te : Addr) (ps qs : PL), vs = [.ref p, .ref q] ∧ ScalesAt C H p td ps ∧ ScalesAt C H q te qs ∧ Q (.bl (decide (ps = qs))) H
abbrev s_Scales___contains__ : Stmt := inClass (top 32) 5
theorem sc_Scales___contains__ : FnScope ["self", "name"] ["self", "name"] (defScope s_Scales___contains__) := ⟨rfl, rfl, rfl, by decide +kernel, rfl, by decide +kernel, by decide +kernel⟩
theorem ok_Scales_has {f : Addr} {fd : FuncData} (F : FnP K "__contains__" "Scales.__contains__" s_Scales___contains__ f fd) (T : TSc K mg C_Scales a_KINDS) : FnOk P w K mg base CX0 1 f fd ["self", "name"] (spScHas K C_Scales) := by
  refine F.ok sc_Scales___contains__ (fun vs H Q E h => ?_) (fun cdv A outer s H vs Q E hr h => ?_)
  · obtain ⟨p, td, v, ps, b, rfl, _⟩ := h
    rfl
  · obtain ⟨p, td, v, ps, b, rfl, S, W, k⟩ := h
    obtain ⟨dx, tp, tn, h1, h2, h3, h4⟩ := S.ex
    have hu := hu_of hr
    refine ⟨_, PSs.nox (pss_one (ps_ret (pe_and (pe_callB call_isi (by rfl) T.b_isinstance (by decide +kernel) (pa_cons (pv 1) (pa_cons (pe_bltn (v := .ty "str") (u := .type "str") (by rfl) T.b_str (by decide +kernel) rfl) pa_nil))) (pe_one (pe_cmp (pc_din hu (pv 1) (pe_fld (pv 0) rfl)) rfl))))), ?_⟩
    cases W with
    | no ty kk => exact ⟨_, rfl, _, _, _, _, false, rfl, .ty _, ty, kit_ty kk, _, rfl, k⟩
    | str x =>
      refine ⟨_, rfl, _, _, _, _, true, rfl, .ty _, .base (.str _), kit_ty (show kitB "str" "str" = some true by decide +kernel), _, rfl, iteT ⟨_, rfl, _, rfl, p, C_Scales, dx, _, _, rfl, h1, T.c_Scales, T.n3, fl_kinds _ _ _, td, _, rfl, DGet.k (k := Sum.inr x) h4, ?_⟩⟩
      rw [valV_kvs]
      exact k
abbrev s_Scales___eq__ : Stmt := inClass (top 32) 7
theorem sc_Scales___eq__ : FnScope ["self", "other"] ["self", "other"] (defScope s_Scales___eq__) := ⟨rfl, rfl, rfl, by decide +kernel, rfl, by decide +kernel, by decide +kernel⟩
theorem ok_Scales_eq {f : Addr} {fd : FuncData} (F : FnP K "__eq__" "Scales.__eq__" s_Scales___eq__ f fd) (T : TSc K mg C_Scales a_KINDS) : FnOk P w K mg base CX0 1 f fd ["self", "other"] (spScEq C_Scales) := by
  refine F.ok sc_Scales___eq__ (fun vs H Q E h => ?_) (fun cdv A outer s H vs Q E hr h => ?_)
  · obtain ⟨p, td, q, te, ps, qs, rfl, _⟩ := h
    rfl
  · obtain ⟨p, td, q, te, ps, qs, rfl, S, R, k⟩ := h
    obtain ⟨dx, tp, tn, h1, h2, h3, h4⟩ := S.ex
    obtain ⟨ex, up, un, g1, g2, g3, g4⟩ := R.ex
    refine ⟨_, PSs.nox (pss_one (ps_ret (pe_and (pe_callB call_isi (by rfl) T.b_isinstance (by decide +kernel) (pa_cons (pv 1) (pa_cons (pe_glob (v := .ref C_Scales) rfl T.g_Scales rfl) pa_nil))) (pe_one (pe_cmpR (op_eqT (Tup (Str × Str)) hr.units) (pe_fld (pv 0) rfl) (pe_fld (pv 1) rfl) (nomark _)))))), ?_⟩
    refine ⟨_, rfl, _, _, _, _, true, rfl, .own C_Scales, T.i_Scales.ty g1, T.k_self, _, rfl, iteT ?_⟩
    refine ⟨_, rfl, p, C_Scales, dx, _, _, rfl, h1, T.c_Scales, T.n1, fl_pairs _ _ _, _, rfl, q, C_Scales, ex, _, _, rfl, g1, T.c_Scales, T.n1, fl_pairs _ _ _, Tup.mk ps, Tup.mk qs, h2.dp, g2.dp, ?_⟩
    rw [show decide (Tup.mk ps = Tup.mk qs) = decide (ps = qs) from decide_eq_decide.mpr ⟨fun z => (Tup.mk.inj z), fun z => by rw [z]⟩]
    exact k
/-! ### identifiers and kinds of a law -/
/-- the identifier that the law makes at place k -/
structure IdentP (k : Nat) (x : Str) : Prop where
  ex : ∃ l : List Nat, x = ⟨(l ++ [48 + k]).toArray⟩ ∧ 1 ≤ l.length ∧ l.length ≤ 11 ∧ ∀ c ∈ l, c ∈ LT.cps.toList
theorem dg_ok : ∀ k : Nat, k < 10 → decide (48 + k ∈ DG.cps.toList) = true := by decide +kernel
theorem IdentP.good {k : Nat} {x : Str} (h : IdentP k x) (hk : k < 10) : nameB x = true := by
  obtain ⟨l, rfl, h1, h2, h3⟩ := h.ex
  cases l with
  | nil => simp at h1
  | cons c l =>
    have hc := h3 c (List.mem_cons_self ..)
    have hl : (⟨((c :: l) ++ [48 + k]).toArray⟩ : Str).length = l.length + 2 := by
      show ((c :: l) ++ [48 + k]).toArray.size = _
      simp
    have e2 : l.length + 2 ≤ 12 := by simp at h2; omega
    unfold nameB headB
    rw [hl, decide_eq_true (show 1 ≤ l.length + 2 by omega), decide_eq_true e2]
    show (true && true && (decide (c ∈ LT.cps.toList) && ((c :: l) ++ [48 + k]).all okS)) = true
    rw [decide_eq_true hc, List.all_append]
    have a1 : (c :: l).all okS = true := List.all_eq_true.mpr fun y hy => by
      unfold okS
      rw [decide_eq_true (h3 y hy), Bool.true_or]
    have a2 : [48 + k].all okS = true := by
      rw [List.all_cons, List.all_nil, Bool.and_true]
      unfold okS
      rw [dg_ok k hk, Bool.or_true]
    rw [a1, a2]
    rfl
theorem IdentP.inj {j k : Nat} {x : Str} (h : IdentP j x) (h' : IdentP k x) : j = k := by
  obtain ⟨l, rfl, _⟩ := h.ex
  obtain ⟨m, e, _⟩ := h'.ex
  have e2 : (l ++ [48 + j]).toArray = (m ++ [48 + k]).toArray := congrArg Str.cps e
  have e3 : l ++ [48 + j] = m ++ [48 + k] := by simpa using congrArg Array.toList e2
  have e4 := (List.append_inj' e3 rfl).2
  simp at e4
  exact e4
theorem str_k : ∀ k : Nat, k < 10 → ((toString (k : Int) : String) : Str) = ⟨#[48 + k]⟩ := by decide +kernel
def spIdent : Sp := fun vs H Q _ => ∃ (p c : Addr) (b k : Nat), vs = [.ref p, .int k] ∧ Pen H p c (b + 4) ∧ k < 10 ∧ ∀ x H', IdentP k x → Pen H' p c b → Sav p H H' → Q (.str x) H'
theorem lt_at {d : Int} (h0 : 0 ≤ d) (h1 : d < 26) : ∃ c, atI LT.cps.toList d = some c ∧ c ∈ LT.cps.toList := by
  obtain ⟨n, rfl⟩ : ∃ n : Nat, d = (n : Int) := ⟨d.toNat, by omega⟩
  have hl : LT.cps.toList.length = 26 := by decide +kernel
  have hn : n < LT.cps.toList.length := by omega
  exact ⟨LT.cps.toList[n], atI_nat (List.getElem?_eq_getElem hn), List.getElem_mem hn⟩
abbrev s__law_ident : Stmt := top 36
theorem sc__law_ident : FnScope ["_law_bag_here", "_law_k", "_law_letters", "_law_text"] ["_law_bag_here", "_law_k"] (defScope s__law_ident) := ⟨rfl, rfl, rfl, by decide +kernel, rfl, by decide +kernel, by decide +kernel⟩
theorem ok_ident {f : Addr} {fd : FuncData} (F : FnP K "_law_ident" "_law_ident" s__law_ident f fd) (T : TSc K mg C_Scales a_KINDS) (M__law_draw : Cal P w K mg base CX0 1 "_law_draw" ["_law_bag_here", "_law_limit"] [] spDraw) : FnOk P w K mg base CX0 2 f fd ["_law_bag_here", "_law_k"] spIdent := by
  refine F.ok sc__law_ident (fun vs H Q E h => ?_) (fun cdv A outer s H vs Q E hr h => ?_)
  · obtain ⟨p, c, b, k, rfl, _⟩ := h
    rfl
  · obtain ⟨p, c, b, kk, rfl, P0, hk, k⟩ := h
    refine ⟨_, PSs.nox (pss_cons (ps_set (i := 2) sc__law_ident.nd rfl (by first | exact Or.inl rfl | exact Or.inr rfl) pe_str)
      (pss_cons (ps_set (i := 3) sc__law_ident.nd rfl (by first | exact Or.inl rfl | exact Or.inr rfl) (pe_ix ix_str (pv 2) (pe_fn M__law_draw (hr.mono (by decide)) pass0 (pa_cons (pv 0) (pa_cons pe_int pa_nil))) (fun _ _ => rfl)))
      (Evl.pss_cut (ps_if (pt_cmpR op_eq (pe_fn M__law_draw (hr.mono (by decide)) pass0 (pa_cons (pv 0) (pa_cons pe_int pa_nil))) pe_int (nomark _)) (pss_one (ps_set (i := 3) sc__law_ident.nd rfl (by first | exact Or.inl rfl | exact Or.inr rfl) (pe_op op_add_str (pv 3) (pe_op op_mulS (pe_ix ix_str (pv 2) (pe_fn M__law_draw (hr.mono (by decide)) pass0 (pa_cons (pv 0) (pa_cons pe_int pa_nil))) (fun _ _ => rfl)) (pe_op op_add pe_int (pe_fn M__law_draw (hr.mono (by decide)) pass0 (pa_cons (pv 0) (pa_cons pe_int pa_nil)))))))) pss_nil)
      (pss_one (ps_ret (pe_op op_add_str (pv 3) (pe_callTy call_str_int (by rfl) T.b_str (by decide +kernel) (pa_cons (pv 1) pa_nil)))))))), ?_⟩
    have hLT : (LT : Str).length ≤ sizeLine := by rw [sizeLine_eq]; decide +kernel
    refine ⟨_, rfl, _, rfl, p, c, 26, b + 3, rfl, by decide, by decide +kernel, P0, fun d1 H1 a1 b1 P1 s1 => ?_⟩
    obtain ⟨c1, hc1, hm1⟩ := lt_at a1 b1
    refine ⟨LT, d1, c1, rfl, rfl, hLT, hc1, ?_⟩
    refine ⟨fun σ' H' => ∃ l : List Nat, σ' = [some (.ref p), some (.int kk), some (.str LT), some (.str ⟨l.toArray⟩)] ∧ 1 ≤ l.length ∧ l.length ≤ 10 ∧ (∀ c ∈ l, c ∈ LT.cps.toList) ∧ Pen H' p c b ∧ Sav p H H', ?_, ?_⟩
    · refine ⟨_, rfl, p, c, 3, b + 2, rfl, by decide, by decide +kernel, P1, fun d2 H2 a2 b2 P2 s2 => ⟨rfl, _, rfl, ?_⟩⟩
      refine ite2 (fun _ => ?_) (fun _ => ⟨[c1], rfl, by simp, by simp, fun c hc => by obtain rfl := List.mem_singleton.mp hc; exact hm1, P2.mono (by omega), s1.trans s2⟩)
      refine ⟨_, rfl, _, rfl, _, rfl, p, c, 26, b + 1, rfl, by decide, by decide +kernel, P2, fun d3 H3 a3 b3 P3 s3 => ?_⟩
      obtain ⟨c3, hc3, hm3⟩ := lt_at a3 b3
      refine ⟨LT, d3, c3, rfl, rfl, hLT, hc3, _, rfl, p, c, 9, b, rfl, by decide, by decide +kernel, P3, fun d4 H4 a4 b4 P4 s4 => ⟨_, _, rfl, rfl, ?_⟩⟩
      refine ⟨c3, 1 + d4, rfl, rfl, by omega, by omega, _, _, rfl, rfl, ?_, ?_⟩
      · show 1 + (List.replicate (1 + d4).toNat c3).toArray.size ≤ sizeLine
        rw [sizeLine_eq]
        simp
        omega
      · refine ⟨c1 :: List.replicate (1 + d4).toNat c3, ?_, by simp, by simp; omega, fun c hc => ?_, P4, s1.trans (s2.trans (s3.trans s4))⟩
        · have e : (⟨#[c1]⟩ : Str) ++ ⟨(List.replicate (1 + d4).toNat c3).toArray⟩ = ⟨(c1 :: List.replicate (1 + d4).toNat c3).toArray⟩ := by
            show Str.mk _ = Str.mk _
            congr 1
            apply Array.ext'
            simp
          show _ = [_, _, _, some (V.str _)]
          rw [← e]
          rfl
        · rcases List.mem_cons.mp hc with rfl | hc
          · exact hm1
          · rw [(List.mem_replicate.mp hc).2]
            exact hm3
    · rintro σ' H' ⟨l, rfl, l1, l2, hm, P2, s2⟩
      refine ⟨_, rfl, _, rfl, _, rfl, ?_, ?_⟩
      · have : (kk : Int).natAbs = kk := by omega
        rw [this]
        exact Nat.lt_of_le_of_lt (Nat.log2_le_self kk) (by omega)
      · refine ⟨_, _, rfl, rfl, ?_, ?_⟩
        · rw [str_k kk hk]
          show l.toArray.size + 1 ≤ sizeLine
          rw [sizeLine_eq]
          simp
          omega
        · refine k _ _ ⟨l, ?_, l1, by omega, hm⟩ P2 s2
          rw [str_k kk hk]
          show Str.mk _ = Str.mk _
          congr 1
          apply Array.ext'
          simp
theorem Sav.mut {p l : Addr} {H H' : Hp} {o : HO} (s : Sav p H H') (h : H l = none) : Sav p H (upd H' l o) := fun b u n e => by
  rw [upd_ne (ne_of_none e h)]
  exact s b u n e
/-- the pairs that the law makes -/
structure KdP (ps : PL) : Prop where
  at_ : ∀ (i : Nat) (q : Str × Str), ps[i]? = some q → IdentP i q.1 ∧ kdS q.2 = true
  pos : 1 ≤ ps.length
  few : ps.length ≤ 9
theorem KdP.good {ps : PL} (h : KdP ps) : GoodP ps := by
  refine ⟨fun z => ?_, by have := h.few; omega, fun q hq => ?_, fun q hq => ?_, ?_⟩
  · have := h.pos
    rw [z] at this
    simp at this
  · obtain ⟨i, hi⟩ := List.mem_iff_getElem?.mp hq
    have := (List.getElem?_eq_some_iff.mp hi).1
    exact (h.at_ i q hi).1.good (by have := h.few; omega)
  · obtain ⟨i, hi⟩ := List.mem_iff_getElem?.mp hq
    exact (h.at_ i q hi).2
  · refine List.pairwise_iff_getElem.mpr fun i j hi hj hij => ?_
    rw [List.length_map] at hi hj
    rw [List.getElem_map, List.getElem_map]
    intro e2
    have h1 := (h.at_ i _ (List.getElem?_eq_getElem hi)).1
    have h2 := (h.at_ j _ (List.getElem?_eq_getElem hj)).1
    rw [e2] at h1
    have := h1.inj h2
    omega
def spKinds : Sp := fun vs H Q _ => ∃ (p c : Addr) (b most : Nat), vs = [.ref p, .int most] ∧ 1 ≤ most ∧ most ≤ 9 ∧ Pen H p c (b + 64) ∧ ∀ L ps H', KdP ps → Kds H' L ps → H L = none → Pen H' p c b → Sav p H H' → Q (.ref L) H'
theorem kd_at {d : Int} (h0 : 0 ≤ d) (h1 : d < 4) : ∃ k : Str, atI [V.str "free", V.str "free", V.str "rising", V.str "falling"] d = some (.str k) ∧ kdS k = true := by
  have : d = 0 ∨ d = 1 ∨ d = 2 ∨ d = 3 := by omega
  rcases this with rfl | rfl | rfl | rfl
  · exact ⟨"free", rfl, by decide +kernel⟩
  · exact ⟨"free", rfl, by decide +kernel⟩
  · exact ⟨"rising", rfl, by decide +kernel⟩
  · exact ⟨"falling", rfl, by decide +kernel⟩
abbrev s__law_kinds : Stmt := top 37
theorem sc__law_kinds : FnScope ["_law_bag_here", "_law_most", "_law_found", "_law_k"] ["_law_bag_here", "_law_most"] (defScope s__law_kinds) := ⟨rfl, rfl, rfl, by decide +kernel, rfl, by decide +kernel, by decide +kernel⟩
theorem ok_kinds {f : Addr} {fd : FuncData} (F : FnP K "_law_kinds" "_law_kinds" s__law_kinds f fd) (T : TSc K mg C_Scales a_KINDS) (br : mg "range" = none) (M__law_draw : Cal P w K mg base CX0 1 "_law_draw" ["_law_bag_here", "_law_limit"] [] spDraw)
    (M__law_ident : Cal P w K mg base CX0 2 "_law_ident" ["_law_bag_here", "_law_k"] [] spIdent) : FnOk P w K mg base CX0 3 f fd ["_law_bag_here", "_law_most"] spKinds := by
  refine F.ok sc__law_kinds (fun vs H Q E h => ?_) (fun cdv A outer s H vs Q E hr h => ?_)
  · obtain ⟨p, c, b, k, rfl, _⟩ := h
    rfl
  · obtain ⟨p, c, b, most, rfl, m1, m2, P0, k⟩ := h
    refine ⟨_, PSs.nox (pss_cons (ps_set (i := 2) sc__law_kinds.nd rfl (by first | exact Or.inl rfl | exact Or.inr rfl) (pe_lst pa_nil))
      (pss_cons (ps_for PassesOwn.never rfl (pi_range1 (by rfl) br (pa_cons (pe_op op_add pe_int (pe_fn M__law_draw (hr.mono (by decide)) pass0 (pa_cons (pv 0) (pa_cons (pv 1) pa_nil)))) pa_nil)) (pg_name (i := 3) sc__law_kinds.nd rfl (by first | exact Or.inl rfl | exact Or.inr rfl)) (pss_one (ps_expr (pe_bm PySem.F.plainAttrs_list PySem.F.slot_list_append PySem.F.type_list_append mt_append (pv 2) (pa_cons (pe_tup (pa_cons (pe_fn M__law_ident (hr.mono (by decide)) pass0 (pa_cons (pv 0) (pa_cons (pv 3) pa_nil))) (pa_cons (pe_ix ix_list (pe_lst (pa_cons pe_str (pa_cons pe_str (pa_cons pe_str (pa_cons pe_str pa_nil))))) (pe_fn M__law_draw (hr.mono (by decide)) pass0 (pa_cons (pv 0) (pa_cons pe_int pa_nil))) (fun _ _ => rfl)) pa_nil))) pa_nil)))))
      (pss_one (ps_ret (pv 2))))), ?_⟩
    refine ⟨by show 0 ≤ sizeLine; omega, fun L hL => ?_⟩
    have P1 := P0.new (o := .lst []) hL
    have nLp := P0.fresh_ne hL
    have nLc := P0.fresh_ne2 hL
    have s1 : Sav p H (upd H L (.lst [])) := Sav.new hL
    have e1 : (upd H L (.lst [])) L = some (.lst []) := upd_same
    refine ⟨_, rfl, _, rfl, p, c, most, b + 63, rfl, by omega, ?_, P1, fun d H2 a2 b2 P2 s2 => ⟨_, _, rfl, rfl, ?_⟩⟩
    · exact Nat.lt_of_le_of_lt (Nat.log2_le_self _) (by omega)
    have hn9 : (1 + d).toNat ≤ 9 := by omega
    have hn1 : 1 ≤ (1 + d).toNat := by omega
    have e2 := s2.at nLp e1
    refine ⟨_, rfl, by omega, by omega, for_range (lo := 0) (n := (1 + d).toNat) (fun i σ H' => (∃ z, σ = [some (.ref p), some (.int most), some (.ref L), z]) ∧ ∃ (rs : List V) (ps : PL), H' L = some (.lst rs) ∧ TdAll H' rs (ps.map Datum.toD) ∧ ps.length = i ∧ (∀ (j : Nat) (q : Str × Str), ps[j]? = some q → IdentP j q.1 ∧ kdS q.2 = true) ∧ Pen H' p c (b + 5 * ((1 + d).toNat - i)) ∧ Sav p H H')
      ⟨⟨_, rfl⟩, [], [], e2, .nil, rfl, fun j q h => by simp at h, P2.mono (by omega), s1.trans s2⟩ ?_ ?_⟩
    · rintro i σ H3 hi ⟨⟨z, rfl⟩, rs, ps, e3, ht, hl, hp, P3, s3⟩
      have hrl : rs.length = i := by rw [ht.len, List.length_map, hl]
      have eb : b + 5 * ((1 + d).toNat - i) = b + 5 * ((1 + d).toNat - (i + 1)) + 1 + 4 := by omega
      rw [eb] at P3
      refine ⟨_, rfl, .inl ⟨rfl, rs, SqL.of e3⟩, ?_⟩
      refine ⟨_, rfl, _, rfl, p, c, b + 5 * ((1 + d).toNat - (i + 1)) + 1, i, by rw [Int.zero_add]; rfl, P3, by omega, fun x H4 ix P4 s4 => ?_⟩
      refine ⟨by show 4 ≤ sizeLine; rw [sizeLine_eq]; decide, fun l hl2 => ⟨_, rfl, p, c, 4, b + 5 * ((1 + d).toNat - (i + 1)), rfl, by decide, by decide +kernel, P4.new hl2, fun d5 H5 a5 b5 P5 s5 => ?_⟩⟩
      obtain ⟨kk, hk, kk2⟩ := kd_at a5 b5
      have e4 := s4.at nLp e3
      have e5 := s5.at nLp (upd_old (u := .lst [.str "free", .str "free", .str "rising", .str "falling"]) hl2 e4)
      refine ⟨l, _, _, _, rfl, rfl, SqL.of (s5.at (P4.fresh_ne hl2) upd_same), hk, by show 2 ≤ sizeLine; rw [sizeLine_eq]; decide, fun t ht2 => ?_⟩
      refine ⟨L, rs, .ref t, rfl, rfl, upd_old ht2 e5, by rw [hrl, sizeLine_eq]; omega, ?_⟩
      have ntL : t ≠ L := (ne_of_none e5 ht2).symm
      have kt : TK H3 (upd (upd H5 t (.tup [.str x, .str kk])) L (.lst (rs ++ [.ref t]))) := fun r xs h => by
        have n1 : r ≠ L := ne_of h e3 (by intro z; cases z)
        have n2 : r ≠ p := P3.ne h (fun _ z => by cases z)
        rw [upd_ne n1]
        exact upd_old ht2 (s5.at n2 (upd_old hl2 (s4.at n2 h)))
      refine ⟨⟨_, rfl⟩, rs ++ [.ref t], ps ++ [(x, kk)], upd_same, ?_, by rw [List.length_append, hl]; rfl, fun j q hq => ?_, ?_, ?_⟩
      · rw [List.map_append]
        exact (ht.keep kt).snoc (pair_td (by rw [upd_ne ntL, upd_same]))
      · by_cases hj : j < ps.length
        · rw [List.getElem?_append_left hj] at hq
          exact hp j q hq
        · rw [List.getElem?_append_right (by omega)] at hq
          have : j - ps.length < 1 := (List.getElem?_eq_some_iff.mp hq).1
          obtain rfl : j = i := by omega
          rw [show j - ps.length = 0 by omega] at hq
          cases hq
          exact ⟨ix, kk2⟩
      · exact (P5.new ht2).mut nLp nLc
      · exact Sav.mut ((s3.trans (s4.trans ((Sav.new hl2).trans s5))).trans (Sav.new ht2)) hL
    · rintro σ H3 ⟨⟨z, rfl⟩, rs, ps, e3, ht, hl, hp, P3, s3⟩
      exact ⟨_, rfl, k L ps H3 ⟨hp, by omega, by omega⟩ ⟨rs, e3, ht⟩ hL (P3.mono (by omega)) s3⟩
end
end RS

set_option maxRecDepth 100000
set_option maxHeartbeats 4000000
namespace RS
open PySem PySem.Spec PyProof.Rows L2 NdefX He PySem.W
/-! ### steps in normal form -/
abbrev SL := List (Str × Int)
def nStep (r : SL) (q : Str × Int) : SL := match r.getLast? with
  | some l => if l.1 = q.1 then (if q.2 + l.2 = 0 then r.dropLast else r.dropLast ++ [(q.1, q.2 + l.2)]) else (if q.2 = 0 then r else r ++ [q])
  | none => if q.2 = 0 then r else r ++ [q]
def nrm (qs : SL) : SL := qs.foldl nStep []
theorem nStep_len (r : SL) (q : Str × Int) : (nStep r q).length ≤ r.length + 1 := by
  unfold nStep
  split
  · split
    · split
      · rw [List.length_dropLast]; omega
      · rw [List.length_append, List.length_dropLast]; show r.length - 1 + 1 ≤ _; omega
    · split
      · omega
      · rw [List.length_append]; exact Nat.le_refl _
  · split
    · omega
    · rw [List.length_append]; exact Nat.le_refl _
theorem nrm_take {qs : SL} {i : Nat} {q : Str × Int} (h : qs[i]? = some q) : nrm (qs.take (i + 1)) = nStep (nrm (qs.take i)) q := by
  unfold nrm
  rw [List.take_succ, h, List.foldl_append]
  rfl
theorem nrm_len : ∀ (qs : SL) (i : Nat), (nrm (qs.take i)).length ≤ i
  | qs, 0 => by rw [List.take_zero]; exact Nat.zero_le _
  | qs, i + 1 => by
    cases h : qs[i]? with
    | none =>
      rw [List.take_succ, h]
      have := nrm_len qs i
      simp
      omega
    | some q =>
      rw [nrm_take h]
      have := nrm_len qs i
      have := nStep_len (nrm (qs.take i)) q
      omega
theorem td_step {H : Hp} {v : V} {n : Str} {e : Int} (h : Td H v (Datum.toD ((n, e) : Str × Int))) : ∃ r, v = .ref r ∧ H r = some (.tup [.str n, .int e]) := by
  have h' : Td H v (.tuple [.str n, .int e]) := h
  cases h' with
  | tup e a =>
    cases a with
    | cons x y =>
      cases y with
      | cons y z =>
        cases z
        cases x
        cases y
        exact ⟨_, rfl, e⟩
theorem step_td {H : Hp} {r : Addr} {n : Str} {e : Int} (h : H r = some (.tup [.str n, .int e])) : Td H (.ref r) (Datum.toD ((n, e) : Str × Int)) := .tup h (.cons (.str n) (.cons (.int e) .nil))
theorem TdAll.dropLast {H : Hp} : ∀ {vs : List V} {ds : List PyData}, TdAll H vs ds → TdAll H vs.dropLast ds.dropLast
  | _, _, .nil => .nil
  | _, _, .cons x .nil => .nil
  | _, _, .cons x (.cons y z) => .cons x (TdAll.dropLast (.cons y z))
/-- a list of steps -/
structure Stp (H : Hp) (L : Addr) (qs : SL) : Prop where
  ex : ∃ rs : List V, H L = some (.lst rs) ∧ TdAll H rs (qs.map Datum.toD)
structure TRw (mg : Str → Option Value) : Prop where
  b_len : mg "len" = none
  b_tuple : mg "tuple" = none
section
variable {P : Program} {w : World} {K : PySem.W.Frag} {mg : Str → Option Value} {base : Heap} {C_Scales C_Row C_Pattern : Addr}
def spNorm : Sp := fun vs H Q _ => ∃ (L : Addr) (qs : SL), vs = [.ref L] ∧ Stp H L qs ∧ qs.length ≤ 1000 ∧ ∀ t H', L2.Same H H' → Td H' (.ref t) (Datum.toD (Tup.mk (nrm qs))) → H t = none → Q (.ref t) H'
theorem last_of {H : Hp} {ts : List V} {ks : SL} (ht : TdAll H ts (ks.map Datum.toD)) (hne : ks ≠ []) : ∃ n' e' r, ks.getLast? = some (n', e') ∧ atI ts (-1) = some (.ref r) ∧ ts[ts.length - 1]? = some (.ref r) ∧ H r = some (.tup [.str n', .int e']) := by
  have tl : ts.length = ks.length := by rw [ht.len, List.length_map]
  have pos : 0 < ks.length := List.length_pos_iff.mpr hne
  have hv : ts[ts.length - 1]? = some (ts[ts.length - 1]'(by omega)) := List.getElem?_eq_getElem (by omega)
  obtain ⟨d, hd, tx⟩ := ht.at hv
  rw [List.getElem?_map, tl, List.getElem?_eq_getElem (by omega)] at hd
  rcases hk : ks[ks.length - 1]'(by omega) with ⟨n', e'⟩
  rw [hk] at hd
  cases hd
  obtain ⟨r, hr, h4⟩ := td_step tx
  rw [hr] at hv
  refine ⟨n', e', r, ?_, ?_, hv, h4⟩
  · rw [List.getLast?_eq_getElem?, List.getElem?_eq_getElem (by omega), hk]
  · have e : ixN ts.length (-1) = some (ts.length - 1) := by
      unfold ixN
      rw [if_neg (by omega), if_pos (by omega)]
      congr 1
      omega
    unfold atI
    rw [e]
    exact hv
abbrev s_normal_steps : Stmt := top 10
theorem sc_normal_steps : FnScope ["steps", "kept", "name", "exponent"] ["steps"] (defScope s_normal_steps) := ⟨rfl, rfl, rfl, by decide +kernel, rfl, by decide +kernel, by decide +kernel⟩
theorem ok_norm {f : Addr} {fd : FuncData} (F : FnP K "normal_steps" "normal_steps" s_normal_steps f fd) (T : TRw mg) : FnOk P w K mg base CX0 1 f fd ["steps"] spNorm := by
  refine F.ok sc_normal_steps (fun vs H Q E h => ?_) (fun cdv A outer s H vs Q E hr h => ?_)
  · obtain ⟨L, qs, rfl, _⟩ := h
    rfl
  · obtain ⟨L, qs, rfl, SLq, few, k⟩ := h
    obtain ⟨rs, hL, hrs⟩ := SLq.ex
    refine ⟨_, PSs.nox (pss_cons (ps_set (i := 1) sc_normal_steps.nd rfl (by first | exact Or.inl rfl | exact Or.inr rfl) (pe_lst pa_nil))
      (pss_cons (ps_for PassesOwn.never rfl (pi_list (pv 0)) (pg_tup (by rfl) (pgs_cons (pg_name (i := 2) sc_normal_steps.nd rfl (by first | exact Or.inl rfl | exact Or.inr rfl)) (pgs_cons (pg_name (i := 3) sc_normal_steps.nd rfl (by first | exact Or.inl rfl | exact Or.inr rfl)) pgs_nil))) (Evl.pss_cut (ps_if (PW.pt (pw_and (pt_cmpR op_gt (pe_callB call_len (by rfl) T.b_len PySem.boot_len (pa_cons (pv 1) pa_nil)) pe_int (nomark _)) (pw_and1 (pt_cmpR op_eq (pe_ix ix_tup (pe_ix ix_list (pv 1) (pe_un un_neg pe_int) (fun _ _ => rfl)) pe_int (fun _ _ => rfl)) (pv 2) (nomark _))))) (pss_one (ps_set (i := 3) sc_normal_steps.nd rfl (by first | exact Or.inl rfl | exact Or.inr rfl) (pe_op op_add (pv 3) (pe_ix ix_tup (pe_bm0 PySem.F.plainAttrs_list PySem.F.slot_list_pop PySem.F.type_list_pop mt_pop (pv 1)) pe_int (fun _ _ => rfl))))) pss_nil)
      (pss_one (ps_if (pt_cmpR op_ne (pv 3) pe_int (nomark _)) (pss_one (ps_expr (pe_bm PySem.F.plainAttrs_list PySem.F.slot_list_append PySem.F.type_list_append mt_append (pv 1) (pa_cons (pe_tup (pa_cons (pv 2) (pa_cons (pv 3) pa_nil))) pa_nil)))) pss_nil))))
      (pss_one (ps_ret (pe_callTy call_tuple_of (by rfl) T.b_tuple (by decide +kernel) (pa_cons (pv 1) pa_nil)))))), ?_⟩
    refine ⟨by show 0 ≤ sizeLine; omega, fun D hD => ?_⟩
    have hlen : rs.length = qs.length := by rw [hrs.len, List.length_map]
    refine ⟨_, rfl, L, rfl, ⟨_, SqL.of (upd_old hD hL)⟩, for_list (K := K) (a := L) (xs := rs) (fun i σ H' => (∃ z2 z3 : Option V, σ = [some (.ref L), some (.ref D), z2, z3]) ∧ L2.Same H H' ∧ ∃ ts, H' D = some (.lst ts) ∧ TdAll H' ts ((nrm (qs.take i)).map Datum.toD))
      ⟨⟨_, _, rfl⟩, Same.new hD, [], upd_same, .nil⟩ (fun i σ H' _ z => SqL.of (z.2.1 _ _ hL)) ?_ ?_⟩
    · rintro i x σ H' hi ⟨⟨z2, z3, rfl⟩, s1, ts, hd, ht⟩
      obtain ⟨d, hdd, tx⟩ := hrs.at hi
      rw [List.getElem?_map] at hdd
      cases hq : qs[i]? with
      | none => rw [hq] at hdd; cases hdd
      | some q =>
        rw [hq] at hdd
        obtain ⟨n, e⟩ := q
        cases hdd
        obtain ⟨r, rfl, hr0⟩ := td_step tx
        have hi2 : i < qs.length := (List.getElem?_eq_some_iff.mp hq).1
        have hr1 := s1 _ _ hr0
        rw [nrm_take hq]
        have nl := nrm_len qs i
        generalize nrm (qs.take i) = ks at ht nl
        have tl : ts.length = ks.length := by rw [ht.len, List.length_map]
        refine ⟨r, _, rfl, SqT.of hr1, rfl, _, _, rfl, _, _, rfl, rfl, ?_⟩
        have tl1 : ts.length ≤ 1000 := by omega
        refine ⟨fun σ' H2 => ∃ (us : List V) (ls : SL) (e2 : Int), σ' = [some (.ref L), some (.ref D), some (.str n), some (.int e2)] ∧ L2.Same H H2 ∧ H2 D = some (.lst us) ∧ TdAll H2 us (ls.map Datum.toD) ∧ us.length ≤ 1000 ∧ nStep ks (n, e) = (if e2 = 0 then ls else ls ++ [(n, e2)]), ?_, ?_⟩
        · refine ⟨_, rfl, _, ts.length, rfl, .inl ⟨ts, SqL.of hd, rfl⟩, _, _, rfl, rfl, _, rfl, ?_⟩
          by_cases hk : ks = []
          · rw [decide_eq_false (show ¬ ((ts.length : Int) > 0) by rw [tl, hk]; decide)]
            exact iteF ⟨ts, ks, e, rfl, s1, hd, ht, tl1, by rw [hk]; rfl⟩
          · obtain ⟨n', e', r', h1, h2, h3, h4⟩ := last_of ht hk
            rw [decide_eq_true (show ((ts.length : Int) > 0) by have := List.length_pos_iff.mpr hk; omega)]
            refine iteT ⟨_, rfl, _, rfl, D, _, _, _, rfl, rfl, SqL.of hd, h2, r', _, _, _, rfl, rfl, SqT.of h4, rfl, _, rfl, rfl, _, rfl, ?_⟩
            by_cases hn : n' = n
            · subst hn
              rw [decide_eq_true rfl]
              refine iteT ⟨_, rfl, _, rfl, .inl ⟨rfl, ts, SqL.of hd⟩, D, ts, .ref r', rfl, rfl, hd, h3, ?_⟩
              have n4 : r' ≠ D := ne_of h4 hd (by intro z; cases z)
              refine ⟨r', _, _, _, rfl, rfl, SqT.of (by rw [upd_ne n4]; exact h4), rfl, _, _, rfl, rfl, ts.dropLast, ks.dropLast, e + e', rfl, Same.mut s1 hD, upd_same, ?_, by rw [List.length_dropLast]; omega, ?_⟩
              · rw [List.map_dropLast]
                exact (ht).dropLast.keep (fun b xs hb => by
                  rw [upd_ne (ne_of hb hd (by intro z; cases z))]
                  exact hb)
              · unfold nStep
                rw [h1]
                dsimp only
                rw [if_pos rfl]
            · rw [decide_eq_false fun z => hn (V.str.inj z)]
              refine iteF ⟨ts, ks, e, rfl, s1, hd, ht, tl1, ?_⟩
              unfold nStep
              rw [h1]
              dsimp only
              rw [if_neg hn]
        · rintro σ' H2 ⟨us, ls, e2, rfl, s2, h2, t2, ul, en⟩
          rw [en]
          refine ⟨_, rfl, rfl, _, rfl, ?_⟩
          by_cases h0 : e2 = 0
          · subst h0
            rw [decide_eq_true rfl, if_pos rfl]
            exact iteF ⟨⟨_, _, rfl⟩, s2, us, h2, t2⟩
          · rw [decide_eq_false fun z => h0 (V.int.inj z), if_neg h0]
            refine iteT ⟨_, rfl, .inl ⟨rfl, us, SqL.of h2⟩, _, rfl, _, rfl, by show 2 ≤ sizeLine; rw [sizeLine_eq]; decide, fun t ht2 => ⟨D, us, .ref t, rfl, rfl, upd_old ht2 h2, by rw [sizeLine_eq]; omega, ⟨_, _, rfl⟩, Same.mut (L2.Same.trans s2 (Same.new ht2)) hD, us ++ [.ref t], upd_same, ?_⟩⟩
            have nt : t ≠ D := (ne_of_none h2 ht2).symm
            rw [List.map_append]
            exact (t2.keep (fun b xs hb => by
              rw [upd_ne (ne_of hb h2 (by intro z; cases z))]
              exact upd_old ht2 hb)).snoc (step_td (by rw [upd_ne nt, upd_same]))
    · rintro σ H' ⟨⟨z2, z3, rfl⟩, s1, ts, hd, ht⟩
      rw [hlen, List.take_length] at ht
      refine ⟨_, rfl, D, _, rfl, .inl ⟨SqL.of hd, fun t ht2 => ?_⟩⟩
      have ht0 : H t = none := by
        cases z : H t with
        | none => rfl
        | some o => rw [s1 _ _ z] at ht2; cases ht2
      exact k t _ (L2.Same.trans s1 (Same.new ht2)) (.tup upd_same (ht.keep (Same.tk (Same.new ht2)))) ht0
def spLNorm : Sp := fun vs H Q _ => ∃ (L : Addr) (qs : SL), vs = [.ref L] ∧ Stp H L qs ∧ qs.length ≤ 1000 ∧ ∀ D H', L2.Same H H' → Stp H' D (nrm qs) → H D = none → Q (.ref D) H'
abbrev s__law_normal : Stmt := top 38
theorem sc__law_normal : FnScope ["_law_steps", "_law_found", "_law_name", "_law_exponent"] ["_law_steps"] (defScope s__law_normal) := ⟨rfl, rfl, rfl, by decide +kernel, rfl, by decide +kernel, by decide +kernel⟩
theorem ok_lnorm {f : Addr} {fd : FuncData} (F : FnP K "_law_normal" "_law_normal" s__law_normal f fd) (T : TRw mg) : FnOk P w K mg base CX0 1 f fd ["_law_steps"] spLNorm := by
  refine F.ok sc__law_normal (fun vs H Q E h => ?_) (fun cdv A outer s H vs Q E hr h => ?_)
  · obtain ⟨L, qs, rfl, _⟩ := h
    rfl
  · obtain ⟨L, qs, rfl, SLq, few, k⟩ := h
    obtain ⟨rs, hL, hrs⟩ := SLq.ex
    refine ⟨_, PSs.nox (pss_cons (ps_set (i := 1) sc__law_normal.nd rfl (by first | exact Or.inl rfl | exact Or.inr rfl) (pe_lst pa_nil))
      (pss_cons (ps_for PassesOwn.never rfl (pi_list (pv 0)) (pg_tup (by rfl) (pgs_cons (pg_name (i := 2) sc__law_normal.nd rfl (by first | exact Or.inl rfl | exact Or.inr rfl)) (pgs_cons (pg_name (i := 3) sc__law_normal.nd rfl (by first | exact Or.inl rfl | exact Or.inr rfl)) pgs_nil))) (Evl.pss_cut (ps_if (PW.pt (pw_and (pt_cmpR (op_neT (List (Str × Int)) hr.units) (pv 1) (pe_lst pa_nil) (nomark _)) (pw_and1 (pt_cmpR op_eq (pe_ix ix_tup (pe_ix ix_list (pv 1) (pe_un un_neg pe_int) (fun _ _ => rfl)) pe_int (fun _ _ => rfl)) (pv 2) (nomark _))))) (pss_one (ps_set (i := 3) sc__law_normal.nd rfl (by first | exact Or.inl rfl | exact Or.inr rfl) (pe_op op_add (pv 3) (pe_ix ix_tup (pe_bm0 PySem.F.plainAttrs_list PySem.F.slot_list_pop PySem.F.type_list_pop mt_pop (pv 1)) pe_int (fun _ _ => rfl))))) pss_nil)
      (pss_one (ps_if (pt_cmpR op_ne (pv 3) pe_int (nomark _)) (pss_one (ps_expr (pe_bm PySem.F.plainAttrs_list PySem.F.slot_list_append PySem.F.type_list_append mt_append (pv 1) (pa_cons (pe_tup (pa_cons (pv 2) (pa_cons (pv 3) pa_nil))) pa_nil)))) pss_nil))))
      (pss_one (ps_ret (pv 1))))), ?_⟩
    refine ⟨by show 0 ≤ sizeLine; omega, fun D hD => ?_⟩
    have hlen : rs.length = qs.length := by rw [hrs.len, List.length_map]
    refine ⟨_, rfl, L, rfl, ⟨_, SqL.of (upd_old hD hL)⟩, for_list (K := K) (a := L) (xs := rs) (fun i σ H' => (∃ z2 z3 : Option V, σ = [some (.ref L), some (.ref D), z2, z3]) ∧ L2.Same H H' ∧ ∃ ts, H' D = some (.lst ts) ∧ TdAll H' ts ((nrm (qs.take i)).map Datum.toD))
      ⟨⟨_, _, rfl⟩, Same.new hD, [], upd_same, .nil⟩ (fun i σ H' _ z => SqL.of (z.2.1 _ _ hL)) ?_ ?_⟩
    · rintro i x σ H' hi ⟨⟨z2, z3, rfl⟩, s1, ts, hd, ht⟩
      obtain ⟨d, hdd, tx⟩ := hrs.at hi
      rw [List.getElem?_map] at hdd
      cases hq : qs[i]? with
      | none => rw [hq] at hdd; cases hdd
      | some q =>
        rw [hq] at hdd
        obtain ⟨n, e⟩ := q
        cases hdd
        obtain ⟨r, rfl, hr0⟩ := td_step tx
        have hi2 : i < qs.length := (List.getElem?_eq_some_iff.mp hq).1
        have hr1 := s1 _ _ hr0
        rw [nrm_take hq]
        have nl := nrm_len qs i
        generalize nrm (qs.take i) = ks at ht nl
        have tl : ts.length = ks.length := by rw [ht.len, List.length_map]
        refine ⟨r, _, rfl, SqT.of hr1, rfl, _, _, rfl, _, _, rfl, rfl, ?_⟩
        have tl1 : ts.length ≤ 1000 := by omega
        refine ⟨fun σ' H2 => ∃ (us : List V) (ls : SL) (e2 : Int), σ' = [some (.ref L), some (.ref D), some (.str n), some (.int e2)] ∧ L2.Same H H2 ∧ H2 D = some (.lst us) ∧ TdAll H2 us (ls.map Datum.toD) ∧ us.length ≤ 1000 ∧ nStep ks (n, e) = (if e2 = 0 then ls else ls ++ [(n, e2)]), ?_, ?_⟩
        · refine ⟨_, rfl, by show 0 ≤ sizeLine; omega, fun q0 hq0 => ⟨ks, [], .lst (SqL.of (upd_old hq0 hd)) (ht.keep (Same.tk (Same.new (o := .lst []) hq0))).dp, .lst (SqL.of upd_same) .nil, _, rfl, ?_⟩⟩
          by_cases hk : ks = []
          · rw [decide_eq_true hk]
            exact iteF ⟨ts, ks, e, rfl, (L2.Same.trans s1 (Same.new (o := .lst []) hq0)), upd_old hq0 hd, (ht.keep (Same.tk (Same.new (o := .lst []) hq0))), tl1, by rw [hk]; rfl⟩
          · obtain ⟨n', e', r', h1, h2, h3, h4⟩ := last_of ht hk
            rw [decide_eq_false hk]
            refine iteT ⟨_, rfl, _, rfl, D, _, _, _, rfl, rfl, SqL.of (upd_old hq0 hd), h2, r', _, _, _, rfl, rfl, SqT.of (upd_old hq0 h4), rfl, _, rfl, rfl, _, rfl, ?_⟩
            by_cases hn : n' = n
            · subst hn
              rw [decide_eq_true rfl]
              refine iteT ⟨_, rfl, _, rfl, .inl ⟨rfl, ts, SqL.of (upd_old hq0 hd)⟩, D, ts, .ref r', rfl, rfl, (upd_old hq0 hd), h3, ?_⟩
              have n4 : r' ≠ D := ne_of h4 hd (by intro z; cases z)
              refine ⟨r', _, _, _, rfl, rfl, SqT.of (by rw [upd_ne n4]; exact (upd_old hq0 h4)), rfl, _, _, rfl, rfl, ts.dropLast, ks.dropLast, e + e', rfl, Same.mut (L2.Same.trans s1 (Same.new (o := .lst []) hq0)) hD, upd_same, ?_, by rw [List.length_dropLast]; omega, ?_⟩
              · rw [List.map_dropLast]
                exact ((ht.keep (Same.tk (Same.new (o := .lst []) hq0)))).dropLast.keep (fun b xs hb => by
                  rw [upd_ne (ne_of hb (upd_old hq0 hd) (by intro z; cases z))]
                  exact hb)
              · unfold nStep
                rw [h1]
                dsimp only
                rw [if_pos rfl]
            · rw [decide_eq_false fun z => hn (V.str.inj z)]
              refine iteF ⟨ts, ks, e, rfl, (L2.Same.trans s1 (Same.new (o := .lst []) hq0)), upd_old hq0 hd, (ht.keep (Same.tk (Same.new (o := .lst []) hq0))), tl1, ?_⟩
              unfold nStep
              rw [h1]
              dsimp only
              rw [if_neg hn]
        · rintro σ' H2 ⟨us, ls, e2, rfl, s2, h2, t2, ul, en⟩
          rw [en]
          refine ⟨_, rfl, rfl, _, rfl, ?_⟩
          by_cases h0 : e2 = 0
          · subst h0
            rw [decide_eq_true rfl, if_pos rfl]
            exact iteF ⟨⟨_, _, rfl⟩, s2, us, h2, t2⟩
          · rw [decide_eq_false fun z => h0 (V.int.inj z), if_neg h0]
            refine iteT ⟨_, rfl, .inl ⟨rfl, us, SqL.of h2⟩, _, rfl, _, rfl, by show 2 ≤ sizeLine; rw [sizeLine_eq]; decide, fun t ht2 => ⟨D, us, .ref t, rfl, rfl, upd_old ht2 h2, by rw [sizeLine_eq]; omega, ⟨_, _, rfl⟩, Same.mut (L2.Same.trans s2 (Same.new ht2)) hD, us ++ [.ref t], upd_same, ?_⟩⟩
            have nt : t ≠ D := (ne_of_none h2 ht2).symm
            rw [List.map_append]
            exact (t2.keep (fun b xs hb => by
              rw [upd_ne (ne_of hb h2 (by intro z; cases z))]
              exact upd_old ht2 hb)).snoc (step_td (by rw [upd_ne nt, upd_same]))
    · rintro σ H' ⟨⟨z2, z3, rfl⟩, s1, ts, hd, ht⟩
      rw [hlen, List.take_length] at ht
      exact ⟨_, rfl, k D H' s1 ⟨ts, hd, ht⟩ hD⟩
/-! ### rows -/
theorem flR1 : ¬ (("scales" : Str) = "steps") := by decide +kernel
def flR (q t : Addr) : List (Str × V) := putF "steps" (.ref t) (putF "scales" (.ref q) [])
theorem fl_scales (q t : Addr) : (flR q t).lookup ("scales" : Str) = some (.ref q) := by unfold flR; rw [lookup_putF, if_neg flR1, lookup_putF, if_pos rfl]
theorem fl_steps (q t : Addr) : (flR q t).lookup ("steps" : Str) = some (.ref t) := by unfold flR; rw [lookup_putF, if_pos rfl]
structure TRow (K : Frg) (mg : Str → Option Value) (C : Addr) : Prop where
  c_Row : Cls K C
  n1 : NoAttr K C "scales"
  n2 : NoAttr K C "steps"
theorem none_back {H H' : Hp} {a : Addr} (s : L2.Same H H') (h : H' a = none) : H a = none := by
  cases z : H a with
  | none => rfl
  | some o => rw [s _ _ z] at h; cases h
def spRowInit (Cs C : Addr) : Sp := fun vs H Q _ => ∃ (p dx q td L : Addr) (ps : PL) (qs : SL), vs = [.ref p, .ref q, .ref L] ∧ H p = some (.ins C dx []) ∧ ScalesAt Cs H q td ps ∧ Stp H L qs ∧ qs.length ≤ 1000 ∧ (∀ x ∈ qs, x.1 ∈ ps.map (·.1)) ∧
  ∀ t H', (∀ b o, H b = some o → b ≠ p → H' b = some o) → H' p = some (.ins C dx (flR q t)) → Td H' (.ref t) (Datum.toD (Tup.mk (nrm qs))) → Q .non H'
abbrev s_Row___init__ : Stmt := inClass (top 11) 1
theorem sc_Row___init__ : FnScope ["self", "scales", "steps", "name", "exponent"] ["self", "scales", "steps"] (defScope s_Row___init__) := ⟨rfl, rfl, rfl, by decide +kernel, rfl, by decide +kernel, by decide +kernel⟩
theorem ok_Row_init {f : Addr} {fd : FuncData} {dvs : List V} (F : FunD K "__init__" "Row.__init__" (defArgs s_Row___init__) (defBody s_Row___init__) (defScope s_Row___init__) dvs [] f fd) (T : TRow K mg C_Row) (M_Scales_contains : Mtd P w K mg base CX0 1 C_Scales "__contains__" ["self", "name"] [] (spScHas K C_Scales))
    (M_normal_steps : Cal P w K mg base CX0 1 "normal_steps" ["steps"] [] spNorm) : FnOk P w K mg base CX0 2 f fd ["self", "scales", "steps"] (spRowInit C_Scales C_Row) := by
  refine F.ok sc_Row___init__ (fun vs H Q E h => ?_) (fun cdv A outer s H vs Q E hr h => ?_)
  · obtain ⟨p, dx, q, td, L, ps, qs, rfl, _⟩ := h
    rfl
  · obtain ⟨p, dx, q, td, L, ps, qs, rfl, hp, S, SLq, few, hn, k⟩ := h
    obtain ⟨rs, hL, hrs⟩ := SLq.ex
    obtain ⟨dx2, tp, tn, g1, _⟩ := id S.ex
    refine ⟨_, PSs.nox (pss_cons (ps_for PassesOwn.never rfl (pi_list (pv 2)) (pg_tup (by rfl) (pgs_cons (pg_name (i := 3) sc_Row___init__.nd rfl (by first | exact Or.inl rfl | exact Or.inr rfl)) (pgs_cons (pg_name (i := 4) sc_Row___init__.nd rfl (by first | exact Or.inl rfl | exact Or.inr rfl)) pgs_nil))) (pss_one (ps_if (pt_cmpR (op_notInOwn M_Scales_contains (hr.mono (by decide)) pass0) (pv 3) (pv 1) rfl) (pss_one ps_never) pss_nil)))
      (pss_cons (ps_fld (pv 0) (pv 1) rfl)
      (pss_one (ps_fld (pv 0) (pe_fn M_normal_steps (hr.mono (by decide)) pass0 (pa_cons (pv 2) pa_nil)) rfl)))), ?_⟩
    refine ⟨_, rfl, L, rfl, ⟨_, SqL.of hL⟩, for_list (K := K) (a := L) (xs := rs) (fun i σ H' => (∃ z3 z4 : Option V, σ = [some (.ref p), some (.ref q), some (.ref L), z3, z4]) ∧ H' = H) ⟨⟨_, _, rfl⟩, rfl⟩ (fun i σ H' _ z => z.2 ▸ SqL.of hL) ?_ ?_⟩
    · rintro i x σ H' hi ⟨⟨z3, z4, rfl⟩, rfl⟩
      obtain ⟨d, hdd, tx⟩ := hrs.at hi
      rw [List.getElem?_map] at hdd
      cases hq : qs[i]? with
      | none => rw [hq] at hdd; cases hdd
      | some y =>
        rw [hq] at hdd
        have hm := hn y (List.mem_of_getElem? hq)
        obtain ⟨n, e⟩ := y
        cases hdd
        obtain ⟨r, rfl, hr0⟩ := td_step tx
        refine ⟨r, _, rfl, SqT.of hr0, rfl, _, _, rfl, _, _, rfl, rfl, ?_⟩
        refine ⟨_, rfl, _, rfl, q, dx2, _, rfl, g1, q, td, .str n, ps, _, rfl, S, .str n, _, rfl, _, rfl, ?_⟩
        rw [decide_eq_true hm]
        exact iteF ⟨⟨_, _, rfl⟩, rfl⟩
    · rintro σ H' ⟨⟨z3, z4, rfl⟩, rfl⟩
      refine ⟨_, rfl, _, rfl, p, C_Row, dx, _, rfl, hp, T.c_Row, T.n1, by decide, ?_⟩
      have hLp : L ≠ p := ne_of hL hp (by intro z; cases z)
      have kp : ∀ b o, H' b = some o → b ≠ p → (upd H' p (.ins C_Row dx (putF "scales" (.ref q) []))) b = some o := fun b o h n => by rw [upd_ne n]; exact h
      have h2 : Stp (upd H' p (.ins C_Row dx (putF "scales" (.ref q) []))) L qs := ⟨rs, kp _ _ hL hLp, hrs.keep fun r xs h => kp _ _ h (ne_of h hp (by intro z; cases z))⟩
      refine ⟨_, rfl, L, qs, rfl, h2, few, fun t H2 s2 ht _ => ?_⟩
      have p2 := s2 _ _ (upd_same (H := H') (a := p) (o := .ins C_Row dx (putF "scales" (.ref q) [])))
      refine ⟨_, rfl, p, C_Row, dx, _, rfl, p2, T.c_Row, T.n2, by show 1 < 1000; decide, ?_⟩
      exact k t _ (fun b o h n => by rw [upd_ne n]; exact s2 _ _ (kp b o h n)) upd_same (ht.keep fun r xs h => by rw [upd_ne (ne_of h p2 (by intro z; cases z))]; exact h)
end
end RS

set_option maxRecDepth 100000
set_option maxHeartbeats 4000000
namespace RS
open PySem PySem.Spec PyProof.Rows L2 NdefX He PySem.W
/-! ### patterns -/
structure Q4 where
  n : Str
  a : Int
  b : Int
  c : Int
  deriving DecidableEq
def Q4.ds (q : Q4) : List PyData := [.str q.n, .int q.a, .int q.b, .int q.c]
def Q4.vs (q : Q4) : List V := [.str q.n, .int q.a, .int q.b, .int q.c]
instance : Datum Q4 where
  toD q := .tuple q.ds
  plain q := rfl
  eqv p q := by
    obtain ⟨n, a, b, c⟩ := p
    obtain ⟨n', a', b', c'⟩ := q
    unfold Q4.ds
    rw [Bool.eq_iff_iff]
    simp [PyData.eqv, PyData.eqvAll]
  depth := 1
  depth_le q := by
    obtain ⟨n, a, b, c⟩ := q
    unfold Q4.ds
    simp [PyData.depth, PyData.depthAll]
abbrev X4 := V × Int × Int × Int
def x4v (x : X4) : List V := [x.1, .int x.2.1, .int x.2.2.1, .int x.2.2.2]
def q4x (q : Q4) : X4 := (.str q.n, q.a, q.b, q.c)
/-- at r: a tuple or a list of these -/
def Itm4 (H : Hp) (r : Addr) (ys : List V) : Prop := H r = some (.tup ys) ∨ H r = some (.lst ys)
theorem Itm4.old {H H' : Hp} {r : Addr} {ys : List V} (x : Itm4 H r ys) (k : L2.Same H H') : Itm4 H' r ys := x.imp (k _ _) (k _ _)
theorem Itm4.sq {K : Frg} {H : Hp} {r : Addr} {ys : List V} (x : Itm4 H r ys) : SqT K H r ys ∨ SqL K H r ys := x.imp SqT.of SqL.of
/-- a list of such items -/
structure Lst4 (H : Hp) (L : Addr) (xs : List X4) : Prop where
  ex : ∃ rs : List V, H L = some (.lst rs) ∧ rs.length = xs.length ∧ ∀ (i : Nat) (v : V), rs[i]? = some v → ∃ r x, v = .ref r ∧ xs[i]? = some x ∧ Itm4 H r (x4v x)
/-- a tuple or list's items, all tuples -/
def Tps (H : Hp) (ts : List V) (xs : List X4) : Prop := ts.length = xs.length ∧ ∀ (i : Nat) (v : V), ts[i]? = some v → ∃ r x, v = .ref r ∧ xs[i]? = some x ∧ H r = some (.tup (x4v x))
theorem Tps.keep {H H' : Hp} {ts : List V} {xs : List X4} (x : Tps H ts xs) (k : TK H H') : Tps H' ts xs := ⟨x.1, fun i v h => by
  obtain ⟨r, y, h1, h2, h3⟩ := x.2 i v h
  exact ⟨r, y, h1, h2, k _ _ h3⟩⟩
theorem Tps.snoc {H : Hp} {ts : List V} {xs : List X4} {r : Addr} {y : X4} (x : Tps H ts xs) (h : H r = some (.tup (x4v y))) : Tps H (ts ++ [.ref r]) (xs ++ [y]) := ⟨by rw [List.length_append, List.length_append, x.1]; rfl, fun i v hv => by
  have hl := x.1
  by_cases hi : i < ts.length
  · rw [List.getElem?_append_left hi] at hv
    obtain ⟨r', y', h1, h2, h3⟩ := x.2 i v hv
    exact ⟨r', y', h1, by rw [List.getElem?_append_left (by omega)]; exact h2, h3⟩
  · rw [List.getElem?_append_right (by omega)] at hv
    have h1 : i - ts.length < 1 := (List.getElem?_eq_some_iff.mp hv).1
    have e : i = ts.length := by omega
    subst e
    rw [Nat.sub_self] at hv
    cases hv
    exact ⟨r, y, rfl, by rw [hl, List.getElem?_append_right (by omega), Nat.sub_self]; rfl, h⟩⟩
theorem Tps.td {H : Hp} : ∀ {ts : List V} {qs : List Q4}, Tps H ts (qs.map q4x) → TdAll H ts (qs.map Datum.toD)
  | [], [], _ => .nil
  | [], _ :: _, h => by simp [Tps] at h
  | _ :: _, [], h => by simp [Tps] at h
  | t :: ts, q :: qs, h => by
    obtain ⟨r, x, h1, h2, h3⟩ := h.2 0 t rfl
    cases h2
    subst h1
    refine .cons (.tup h3 (.cons (.str _) (.cons (.int _) (.cons (.int _) (.cons (.int _) .nil))))) (Tps.td ⟨by have := h.1; simp at this; simpa using this, fun i v hv => ?_⟩)
    obtain ⟨r', x', g1, g2, g3⟩ := h.2 (i + 1) v (by simpa using hv)
    exact ⟨r', x', g1, by simpa using g2, g3⟩
structure TPat (K : Frg) (mg : Str → Option Value) (C : Addr) : Prop where
  b_tuple : mg "tuple" = none
  c_Pattern : Cls K C
  n1 : NoAttr K C "scales"
  n2 : NoAttr K C "steps"
section
variable {P : Program} {w : World} {K : PySem.W.Frag} {mg : Str → Option Value} {base : Heap} {C_Scales C_Row C_Pattern C_NoScale : Addr}
/-- Pattern(scales, steps): made, or refused at the first name that is not declared -/
def spPatInit (K : Frg) (Cs CN C : Addr) : Sp := fun vs H Q E => ∃ (p dx q td L : Addr) (ps : PL) (xs : List X4), vs = [.ref p, .ref q, .ref L] ∧ H p = some (.ins C dx []) ∧ ScalesAt Cs H q td ps ∧ Lst4 H L xs ∧ xs.length ≤ 1000 ∧
  ((∃ qs : List Q4, xs = qs.map q4x ∧ (∀ y ∈ qs, y.n ∈ ps.map (·.1)) ∧ ∀ t H', (∀ b o, H b = some o → b ≠ p → H' b = some o) → H' p = some (.ins C dx (flR q t)) → H t = none → Td H' (.ref t) (Datum.toD (Tup.mk qs)) → Q .non H') ∨
   (∃ (j : Nat) (x : X4), xs[j]? = some x ∧ (∀ (i : Nat) (y : X4), i < j → xs[i]? = some y → ∃ n : Str, y.1 = .str n ∧ n ∈ ps.map (·.1)) ∧ (∀ H', L2.Same H H' → HasV K H' ps x.1 false) ∧ ∀ H' d, L2.Same H H' → H' d = none → E (.ref CN) (some d) (upd H' d (.xd [("name", x.1)]))))
abbrev s_Pattern___init__ : Stmt := inClass (top 24) 0
theorem sc_Pattern___init__ : FnScope ["self", "scales", "steps", "told", "name", "a", "b", "c"] ["self", "scales", "steps"] (defScope s_Pattern___init__) := ⟨rfl, rfl, rfl, by decide +kernel, rfl, by decide +kernel, by decide +kernel⟩
theorem ok_Pattern_init {f : Addr} {fd : FuncData} (F : FnP K "__init__" "Pattern.__init__" s_Pattern___init__ f fd) (T : TPat K mg C_Pattern) (M_Scales_contains : Mtd P w K mg base CX0 1 C_Scales "__contains__" ["self", "name"] [] (spScHas K C_Scales))
    (M_NoScale : Exk P w K mg base "NoScale" C_NoScale ["name"]) : FnOk P w K mg base (L2.CX P w) 3 f fd ["self", "scales", "steps"] (spPatInit K C_Scales C_NoScale C_Pattern) := by
  refine F.ok sc_Pattern___init__ (fun vs H Q E h => ?_) (fun cdv A outer s H vs Q E hr h => ?_)
  · obtain ⟨p, dx, q, td, L, ps, xs, rfl, _⟩ := h
    rfl
  · obtain ⟨p, dx, q, td, L, ps, xs, rfl, hp, S, L4, few, kk⟩ := h
    obtain ⟨rs, hL, hlen, hrs⟩ := L4.ex
    obtain ⟨dx2, tp, tn, g1, _⟩ := id S.ex
    refine ⟨_, (pss_cons (ps_setLc (i := 3) (own := [("name", 4), ("a", 5), ("b", 6), ("c", 7)]) (by rfl) sc_Pattern___init__.nd rfl rfl (sw_true rfl rfl rfl (by decide +kernel)) (pi_list (pv 2)) (blkOk_by (own := [("name", 4), ("a", 5), ("b", 6), ("c", 7)]) (N := ["self", "scales", "steps", "told", "name", "a", "b", "c"]) (sc := defScope s_Pattern___init__) (by decide +kernel)) (fun _ _ _ _ _ => (pg_unp (K := K) (n := 4) rfl (by rfl) (pgs_cons (pg_name (i := 4) sc_Pattern___init__.nd rfl (by first | exact Or.inl rfl | exact Or.inr rfl)) (pgs_cons (pg_name (i := 5) sc_Pattern___init__.nd rfl (by first | exact Or.inl rfl | exact Or.inr rfl)) (pgs_cons (pg_name (i := 6) sc_Pattern___init__.nd rfl (by first | exact Or.inl rfl | exact Or.inr rfl)) (pgs_cons (pg_name (i := 7) sc_Pattern___init__.nd rfl (by first | exact Or.inl rfl | exact Or.inr rfl)) pgs_nil)))))) (fun _ _ _ _ _ => pts_nil) (fun _ _ _ _ _ => (pe_tup (pa_cons (pv 4) (pa_cons (pv 5) (pa_cons (pv 6) (pa_cons (pv 7) pa_nil)))))))
      (pss_cons (ps_for (passes_of rfl) rfl (pi_list (pv 3)) (pg_unp (K := K) (n := 4) rfl (by rfl) (pgs_cons (pg_name (i := 4) sc_Pattern___init__.nd rfl (by first | exact Or.inl rfl | exact Or.inr rfl)) (pgs_cons (pg_name (i := 5) sc_Pattern___init__.nd rfl (by first | exact Or.inl rfl | exact Or.inr rfl)) (pgs_cons (pg_name (i := 6) sc_Pattern___init__.nd rfl (by first | exact Or.inl rfl | exact Or.inr rfl)) (pgs_cons (pg_name (i := 7) sc_Pattern___init__.nd rfl (by first | exact Or.inl rfl | exact Or.inr rfl)) pgs_nil))))) (pss_one (ps_if (pt_cmpR (op_notInOwn M_Scales_contains (hr.mono (by decide)) pass0) (pv 4) (pv 1) rfl) (pss_one (ps_raise rfl (takes_of rfl rfl rfl rfl) (pmk_ex M_NoScale (hr.mono (by decide)) (pa_cons (pv 4) pa_nil)))) pss_nil)))
      (pss_cons (ps_fld (pv 0) (pv 1) rfl)
      (pss_one (ps_fld (pv 0) (pe_callTy call_tuple_of (by rfl) T.b_tuple (by decide +kernel) (pa_cons (pv 3) pa_nil)) rfl))))), ?_⟩
    -- told
    refine ⟨_, rfl, L, rfl, ⟨_, SqL.of hL⟩, fun D hD => lc_list (xs := rs) (fun i H' => L2.Same H H' ∧ ∃ ts, H' D = some (.lst ts) ∧ Tps H' ts (xs.take i)) ⟨Same.new hD, [], upd_same, rfl, fun i v h => by simp at h⟩ (fun i H' _ z => SqL.of (z.1 _ _ hL)) ?_ ?_⟩
    · rintro i v H' hi ⟨s', ts, e, ht⟩
      obtain ⟨r, x, rfl, hx, it⟩ := hrs i v hi
      have hi2 : i < xs.length := (List.getElem?_eq_some_iff.mp hx).1
      refine ⟨r, _, rfl, (it.old s').sq, rfl, _, _, rfl, _, _, rfl, _, _, rfl, _, _, rfl, rfl, rfl, ?_⟩
      refine ⟨_, rfl, _, rfl, _, rfl, _, rfl, by show 4 ≤ sizeLine; rw [sizeLine_eq]; decide, fun t htn => ⟨ts, upd_old htn e, by rw [ht.1, List.length_take, sizeLine_eq]; omega, Same.mut (L2.Same.trans s' (Same.new htn)) hD, ts ++ [.ref t], upd_same, ?_⟩⟩
      have nt : t ≠ D := (ne_of_none e htn).symm
      rw [List.take_succ, hx]
      exact (ht.keep (fun b ys hb => by
        rw [upd_ne (ne_of hb e (by intro z; cases z))]
        exact upd_old htn hb)).snoc (by rw [upd_ne nt, upd_same]; rfl)
    · rintro H1 ⟨s1, ts, e1, ht1⟩
      rw [hlen, List.take_length] at ht1
      -- the names
      refine ⟨_, rfl, D, rfl, ⟨_, SqL.of e1⟩, for_list (K := K) (a := D) (xs := ts) (fun i σ H' => (∃ z4 z5 z6 z7 : Option V, σ = [some (.ref p), some (.ref q), some (.ref L), some (.ref D), z4, z5, z6, z7]) ∧ H' = H1 ∧ ((∃ qs : List Q4, xs = qs.map q4x ∧ (∀ y ∈ qs, y.n ∈ ps.map (·.1)) ∧ ∀ t H', (∀ b o, H b = some o → b ≠ p → H' b = some o) → H' p = some (.ins C_Pattern dx (flR q t)) → H t = none → Td H' (.ref t) (Datum.toD (Tup.mk qs)) → Q .non H') ∨
          (∃ (j : Nat) (x : X4), i ≤ j ∧ xs[j]? = some x ∧ (∀ (i : Nat) (y : X4), i < j → xs[i]? = some y → ∃ n : Str, y.1 = .str n ∧ n ∈ ps.map (·.1)) ∧ (∀ H', L2.Same H H' → HasV K H' ps x.1 false) ∧ ∀ H' d, L2.Same H H' → H' d = none → E (.ref C_NoScale) (some d) (upd H' d (.xd [("name", x.1)]))))) ?_ (fun i σ H' _ z => z.2.1 ▸ SqL.of e1) ?_ ?_⟩
      · refine ⟨⟨_, _, _, _, rfl⟩, rfl, kk.imp id ?_⟩
        rintro ⟨j, x, h⟩
        exact ⟨j, x, Nat.zero_le _, h⟩
      · rintro i v σ H' hi ⟨⟨z4, z5, z6, z7, rfl⟩, rfl, kk⟩
        obtain ⟨r, x, rfl, hx, it⟩ := ht1.2 i v hi
        refine ⟨r, _, rfl, .inl (SqT.of it), rfl, _, _, rfl, _, _, rfl, _, _, rfl, _, _, rfl, rfl, ?_⟩
        have S1 := S.old s1
        rcases kk with ⟨qs, rfl, hn, k⟩ | ⟨j, y, hij, hy, hb, hv, k⟩
        · rw [List.getElem?_map] at hx
          cases hq : qs[i]? with
          | none => rw [hq] at hx; cases hx
          | some z =>
            rw [hq] at hx
            cases hx
            refine ⟨_, rfl, _, rfl, q, dx2, _, rfl, s1 _ _ g1, q, td, .str z.n, ps, _, rfl, S1, .str z.n, _, rfl, _, rfl, ?_⟩
            rw [decide_eq_true (hn z (List.mem_of_getElem? hq))]
            exact iteF ⟨⟨_, _, _, _, rfl⟩, rfl, .inl ⟨qs, rfl, hn, k⟩⟩
        · by_cases hj : i = j
          · subst hj
            rw [hx] at hy
            cases hy
            exact ⟨_, rfl, _, rfl, q, dx2, _, rfl, s1 _ _ g1, q, td, x.1, ps, false, rfl, S1, hv _ s1, _, rfl, _, rfl, iteT ⟨_, rfl, mkEx rfl (by simp) (by show 1 ≤ 1000; decide) fun d hd => k _ d s1 hd⟩⟩
          · obtain ⟨n, hn1, hn2⟩ := hb i x (by omega) hx
            obtain ⟨x1, xa, xb, xc⟩ := x
            cases hn1
            refine ⟨_, rfl, _, rfl, q, dx2, _, rfl, s1 _ _ g1, q, td, .str n, ps, _, rfl, S1, .str n, _, rfl, _, rfl, ?_⟩
            rw [decide_eq_true hn2]
            exact iteF ⟨⟨_, _, _, _, rfl⟩, rfl, .inr ⟨j, y, by omega, hy, hb, hv, k⟩⟩
      · rintro σ H' ⟨⟨z4, z5, z6, z7, rfl⟩, rfl, kk⟩
        rcases kk with ⟨qs, rfl, hn, k⟩ | ⟨j, y, hij, hy, hb, hv, k⟩
        · have p1 := s1 _ _ hp
          refine ⟨_, rfl, _, rfl, p, C_Pattern, dx, _, rfl, p1, T.c_Pattern, T.n1, by decide, ?_⟩
          have hDp : D ≠ p := ne_of e1 p1 (by intro z; cases z)
          refine ⟨_, rfl, D, _, rfl, .inl ⟨SqL.of (by rw [upd_ne hDp]; exact e1), fun t ht => ?_⟩⟩
          have p2 := upd_old (u := .tup ts) ht (upd_same (H := H') (a := p) (o := .ins C_Pattern dx (putF "scales" (.ref q) [])))
          refine ⟨_, rfl, p, C_Pattern, dx, _, rfl, p2, T.c_Pattern, T.n2, by show 1 < 1000; decide, ?_⟩
          have npt : p ≠ t := ne_of_none (upd_same (H := H') (a := p) (o := .ins C_Pattern dx (putF "scales" (.ref q) []))) ht
          have ht0 : H t = none := none_back s1 (by rw [upd_ne npt.symm] at ht; exact ht)
          refine k t _ (fun b o h n => by rw [upd_ne n]; exact upd_old ht (by rw [upd_ne n]; exact s1 _ _ h)) upd_same ht0 (.tup (by rw [upd_ne npt.symm, upd_same]) ((ht1.td).keep fun r ys h => ?_))
          have n1 : r ≠ p := ne_of h p1 (by intro z; cases z)
          rw [upd_ne n1]
          exact upd_old ht (by rw [upd_ne n1]; exact h)
        · have h1 : j < xs.length := (List.getElem?_eq_some_iff.mp hy).1
          have h2 : ts.length = xs.length := ht1.1
          omega
theorem td_q4 {H : Hp} {v : V} {q : Q4} (h : Td H v (Datum.toD q)) : ∃ r, v = .ref r ∧ H r = some (.tup q.vs) := by
  have h' : Td H v (.tuple [.str q.n, .int q.a, .int q.b, .int q.c]) := h
  cases h' with
  | tup e a =>
    cases a with
    | cons x y =>
      cases y with
      | cons y z =>
        cases z with
        | cons z u =>
          cases u with
          | cons u o =>
            cases o
            cases x
            cases y
            cases z
            cases u
            exact ⟨_, rfl, e⟩
theorem td_tup {H : Hp} {t : Addr} {ds : List PyData} (h : Td H (.ref t) (.tuple ds)) : ∃ ts, H t = some (.tup ts) ∧ TdAll H ts ds := by
  cases h with
  | tup e a => exact ⟨_, e, a⟩
theorem made0 {H : Hp} {x dx : Addr} {o u : HO} (nx : H x = none) (nd : H dx = none) : L2.Same H (upd (upd H dx o) x u) := fun b v e => by
  rw [upd_ne (ne_of_none e nx), upd_ne (ne_of_none e nd)]
  exact e
def at4 (qs : List Q4) (m n : Int) : SL := qs.map fun q => (q.n, q.a * m + q.b * n + q.c)
/-- a pattern stands at p -/
structure PatAt (Cs C : Addr) (H : Hp) (p q td : Addr) (ps : PL) (qs : List Q4) : Prop where
  ex : ∃ dx t, H p = some (.ins C dx (flR q t)) ∧ Td H (.ref t) (Datum.toD (Tup.mk qs))
  sc : ScalesAt Cs H q td ps
  nm : ∀ y ∈ qs, y.n ∈ ps.map (·.1)
  few : qs.length ≤ 1000
  bd : ∀ y ∈ qs, y.a.natAbs < 2 ^ 200 ∧ y.b.natAbs < 2 ^ 200 ∧ y.c.natAbs < 2 ^ 200
theorem fl_at (q t : Addr) : (flR q t).lookup ("at" : Str) = none := by unfold flR; rw [lookup_putF, if_neg (by decide +kernel), lookup_putF, if_neg (by decide +kernel)]; rfl
/-- a row stands at x -/
structure RowAt (C : Addr) (H : Hp) (x q : Addr) (qs : SL) : Prop where
  ex : ∃ dx t, H x = some (.ins C dx (flR q t)) ∧ Td H (.ref t) (Datum.toD (Tup.mk qs))
def spAt (Cs CR C : Addr) : Sp := fun vs H Q _ => ∃ (p q td : Addr) (ps : PL) (qs : List Q4) (m n : Int), vs = [.ref p, .int m, .int n] ∧ PatAt Cs C H p q td ps qs ∧ m.natAbs < 2 ^ 200 ∧ n.natAbs < 2 ^ 200 ∧
  ∀ x H', L2.Same H H' → H x = none → RowAt CR H' x q (nrm (at4 qs m n)) → Q (.ref x) H'
abbrev s_Pattern_at : Stmt := inClass (top 24) 1
theorem sc_Pattern_at : FnScope ["self", "m", "n", "name", "a", "b", "c"] ["self", "m", "n"] (defScope s_Pattern_at) := ⟨rfl, rfl, rfl, by decide +kernel, rfl, by decide +kernel, by decide +kernel⟩
theorem ok_Pattern_at {f : Addr} {fd : FuncData} {dvs : List V} (F : FunD K "at" "Pattern.at" (defArgs s_Pattern_at) (defBody s_Pattern_at) (defScope s_Pattern_at) dvs [] f fd) (T : TPat K mg C_Pattern) (M_Row_init : Mkr P w K mg base CX0 2 "Row" C_Row ["self", "scales", "steps"] [] (spRowInit C_Scales C_Row)) : FnOk P w K mg base CX0 4 f fd ["self", "m", "n"] (spAt C_Scales C_Row C_Pattern) := by
  refine F.ok sc_Pattern_at (fun vs H Q E h => ?_) (fun cdv A outer s H vs Q E hr h => ?_)
  · obtain ⟨p, q, td, ps, qs, m, n, rfl, _⟩ := h
    rfl
  · obtain ⟨p, q, td, ps, qs, m, n, rfl, PA, bm, bn, k⟩ := h
    obtain ⟨dx, t, hp, ht⟩ := PA.ex
    obtain ⟨ts, h1, h2⟩ := td_tup ht
    have tl : ts.length = qs.length := by rw [h2.len]; exact List.length_map ..
    have few := PA.few
    refine ⟨_, PSs.nox (pss_one (ps_ret (pe_mk M_Row_init (hr.mono (by decide)) pass0 (pa_cons (pe_fld (pv 0) rfl) (pa_cons (pe_lc (own := [("name", 3), ("a", 4), ("b", 5), ("c", 6)]) (by rfl) sc_Pattern_at.nd (pi_tup (pe_fld (pv 0) rfl)) (blkOk_by (own := [("name", 3), ("a", 4), ("b", 5), ("c", 6)]) (N := ["self", "m", "n", "name", "a", "b", "c"]) (sc := defScope s_Pattern_at) (by decide +kernel)) (fun _ _ _ _ _ => (pg_tupK (K := K) (n := 4) rfl (by rfl) (pgs_cons (pg_name (i := 3) sc_Pattern_at.nd rfl (by first | exact Or.inl rfl | exact Or.inr rfl)) (pgs_cons (pg_name (i := 4) sc_Pattern_at.nd rfl (by first | exact Or.inl rfl | exact Or.inr rfl)) (pgs_cons (pg_name (i := 5) sc_Pattern_at.nd rfl (by first | exact Or.inl rfl | exact Or.inr rfl)) (pgs_cons (pg_name (i := 6) sc_Pattern_at.nd rfl (by first | exact Or.inl rfl | exact Or.inr rfl)) pgs_nil)))))) (fun _ _ _ _ _ => pts_nil) (fun _ _ _ _ _ => (pe_tup (pa_cons (pv 3) (pa_cons (pe_op op_add (pe_op op_add (pe_op op_mulW (pv 4) (pv 1)) (pe_op op_mulW (pv 5) (pv 2))) (pv 6)) pa_nil))))) pa_nil))))), ?_⟩
    refine ⟨_, rfl, p, C_Pattern, dx, _, _, rfl, hp, T.c_Pattern, T.n1, fl_scales _ _, ?_⟩
    refine ⟨_, rfl, p, C_Pattern, dx, _, _, rfl, hp, T.c_Pattern, T.n2, fl_steps _ _, t, rfl, ⟨_, SqT.of h1⟩, fun D hD => lc_tup (xs := ts) (fun i H' => L2.Same H H' ∧ ∃ us, H' D = some (.lst us) ∧ TdAll H' us ((at4 (qs.take i) m n).map Datum.toD)) ⟨Same.new hD, [], upd_same, .nil⟩ (fun i H' _ z => SqT.of (z.1 _ _ h1)) ?_ ?_⟩
    · rintro i v H' hi ⟨s', us, e, hu⟩
      obtain ⟨d, hd, tx⟩ := h2.at hi
      rw [List.getElem?_map] at hd
      cases hq : qs[i]? with
      | none => rw [hq] at hd; cases hd
      | some y =>
        rw [hq] at hd
        cases hd
        obtain ⟨r, rfl, hr0⟩ := td_q4 tx
        obtain ⟨ba, bb, bc⟩ := PA.bd y (List.mem_of_getElem? hq)
        have hi2 : i < qs.length := (List.getElem?_eq_some_iff.mp hq).1
        have ul : us.length ≤ i := by rw [hu.len, List.length_map]; unfold at4; rw [List.length_map, List.length_take]; omega
        refine ⟨r, _, rfl, SqT.of (s' _ _ hr0), rfl, _, _, rfl, _, _, rfl, _, _, rfl, _, _, rfl, rfl, rfl, ?_⟩
        refine ⟨_, rfl, _, rfl, _, rfl, _, _, rfl, rfl, wide_mul ba bm (by decide) (by decide) (by decide), _, rfl, _, rfl, _, _, rfl, rfl, wide_mul bb bn (by decide) (by decide) (by decide), _, _, rfl, rfl, _, rfl, _, _, rfl, rfl, by show 2 ≤ sizeLine; rw [sizeLine_eq]; decide, fun g hg => ⟨us, upd_old hg e, by rw [sizeLine_eq]; omega, Same.mut (L2.Same.trans s' (Same.new hg)) hD, us ++ [.ref g], upd_same, ?_⟩⟩
        have ng : g ≠ D := (ne_of_none e hg).symm
        have e3 : at4 (qs.take (i + 1)) m n = at4 (qs.take i) m n ++ [(y.n, y.a * m + y.b * n + y.c)] := by
          unfold at4
          rw [List.take_succ, hq, List.map_append]
          rfl
        rw [e3, List.map_append]
        exact (hu.keep (fun b xs hb => by
          rw [upd_ne (ne_of hb e (by intro z; cases z))]
          exact upd_old hg hb)).snoc (step_td (by rw [upd_ne ng, upd_same]))
    · rintro H1 ⟨s1, us, e, hu⟩
      rw [tl, List.take_length] at hu
      intro x dx2 nx nd ne
      refine ⟨x, dx2, q, td, D, ps, at4 qs m n, rfl, upd_same, (PA.sc.old s1).old (made0 nx nd), ⟨us, made0 nx nd _ _ e, hu.keep (Same.tk (made0 nx nd))⟩, by unfold at4; rw [List.length_map]; omega, fun y hy => ?_, fun t2 H' kp hx ht2 => ⟨rfl, ?_⟩⟩
      · unfold at4 at hy
        obtain ⟨z, hz, rfl⟩ := List.mem_map.mp hy
        exact PA.nm z hz
      · exact k x H' (s1.trans (Same.made nx nd kp)) (none_back s1 nx) ⟨dx2, t2, hx, ht2⟩
abbrev s_Pattern___call__ : Stmt := inClass (top 24) 2
theorem sc_Pattern___call__ : FnScope ["self", "m", "n"] ["self", "m", "n"] (defScope s_Pattern___call__) := ⟨rfl, rfl, rfl, by decide +kernel, rfl, by decide +kernel, by decide +kernel⟩
theorem ok_Pattern_call {f : Addr} {fd : FuncData} {dvs : List V} (F : FunD K "__call__" "Pattern.__call__" (defArgs s_Pattern___call__) (defBody s_Pattern___call__) (defScope s_Pattern___call__) dvs [] f fd) (T : TPat K mg C_Pattern) (M_Pattern_at2 : Mtd P w K mg base CX0 4 C_Pattern "at" ["self", "m", "n"] [] (spAt C_Scales C_Row C_Pattern)) : FnOk P w K mg base CX0 5 f fd ["self", "m", "n"] (spAt C_Scales C_Row C_Pattern) := by
  refine F.ok sc_Pattern___call__ (fun vs H Q E h => ?_) (fun cdv A outer s H vs Q E hr h => ?_)
  · obtain ⟨p, q, td, ps, qs, m, n, rfl, _⟩ := h
    rfl
  · obtain ⟨p, q, td, ps, qs, m, n, rfl, PA, bm, bn, k⟩ := h
    obtain ⟨dx, t, hp, ht⟩ := PA.ex
    refine ⟨_, PSs.nox (pss_one (ps_ret (pe_mt T.c_Pattern M_Pattern_at2 (hr.mono (by decide)) pass0 (pv 0) (pa_cons (pv 1) (pa_cons (pv 2) pa_nil))))), ?_⟩
    exact ⟨_, rfl, p, dx, _, rfl, hp, fl_at _ _, _, rfl, _, rfl, p, q, td, ps, qs, m, n, rfl, PA, bm, bn, k⟩
end
end RS

set_option maxRecDepth 100000
set_option maxHeartbeats 4000000
namespace RS
open PySem PySem.Spec PyProof.Rows L2 NdefX He PySem.W
section
variable {P : Program} {w : World} {K : PySem.W.Frag} {mg : Str → Option Value} {base : Heap} {C_Scales C_Row C_Pattern C_NoScale : Addr}
def spLn : Sp := fun vs H Q _ => ∃ (p c : Addr) (b : Nat), vs = [.ref p] ∧ Pen H p c (b + 2) ∧ ∀ x H', x.natAbs < 2 ^ 140 → Pen H' p c b → Sav p H H' → Q (.int x) H'
abbrev s__law_number : Stmt := top 39
theorem sc__law_number : FnScope ["_law_bag_here"] ["_law_bag_here"] (defScope s__law_number) := ⟨rfl, rfl, rfl, by decide +kernel, rfl, by decide +kernel, by decide +kernel⟩
theorem ok_lnumber {f : Addr} {fd : FuncData} (F : FnP K "_law_number" "_law_number" s__law_number f fd) (M__law_draw : Cal P w K mg base CX0 1 "_law_draw" ["_law_bag_here", "_law_limit"] [] spDraw) : FnOk P w K mg base CX0 2 f fd ["_law_bag_here"] spLn := by
  refine F.ok sc__law_number (fun vs H Q E h => ?_) (fun cdv A outer s H vs Q E hr h => ?_)
  · obtain ⟨p, c, b, rfl, _⟩ := h
    rfl
  · obtain ⟨p, c, b, rfl, P0, k⟩ := h
    refine ⟨_, PSs.nox (pss_one (ps_ret (pe_op op_mulW (pe_op op_sub (pe_fn M__law_draw (hr.mono (by decide)) pass0 (pa_cons (pv 0) (pa_cons pe_int pa_nil))) pe_int) (pe_ix ix_list (pe_lst (pa_cons pe_int (pa_cons pe_int (pa_cons (pe_op op_add (pe_op op_pow pe_int pe_int) pe_int) pa_nil)))) (pe_fn M__law_draw (hr.mono (by decide)) pass0 (pa_cons (pv 0) (pa_cons pe_int pa_nil))) (fun _ _ => rfl))))), ?_⟩
    refine ⟨_, rfl, p, c, 9, b + 1, rfl, by decide, by decide +kernel, P0, fun d1 H1 a1 b1 P1 s1 => ?_⟩
    refine ⟨_, _, rfl, rfl, _, _, rfl, rfl, ⟨by decide, by decide, by decide⟩, _, _, rfl, rfl, by show 3 ≤ sizeLine; rw [sizeLine_eq]; decide, fun l hl => ?_⟩
    refine ⟨_, rfl, p, c, 3, b, rfl, by decide, by decide +kernel, P1.new hl, fun d2 H2 a2 b2 P2 s2 => ?_⟩
    have hm : ∃ m, atI [V.int 1, V.int 1, V.int (10 ^ 40 + 1)] d2 = some (.int m) ∧ m.natAbs < 2 ^ 137 := by
      have hd : d2 = 0 ∨ d2 = 1 ∨ d2 = 2 := by omega
      rcases hd with rfl | rfl | rfl
      · exact ⟨1, rfl, by decide⟩
      · exact ⟨1, rfl, by decide⟩
      · exact ⟨10 ^ 40 + 1, rfl, by decide⟩
    obtain ⟨m, hm0, hm1⟩ := hm
    have e1 : (d1 - 4).natAbs < 2 ^ 3 := by omega
    refine ⟨l, _, _, _, rfl, rfl, SqL.of (s2.at (P1.fresh_ne hl) upd_same), hm0, _, _, rfl, rfl, wide_mul e1 hm1 (by decide) (by decide) (by decide), ?_⟩
    exact k _ _ (wide_lt e1 hm1) P2 (s1.trans ((Sav.new hl).trans s2))
structure TRef (K : Frg) (mg : Str → Option Value) (C : Addr) : Prop where
  ex : PySem.W.exmOne K (.ref C) (.ref C) = some true
  nn : PySem.W.findIn K (.ref C) "name" = some none
def spRefd (K : Frg) (Cs : Addr) : Sp := fun vs H Q _ => ∃ (q td L : Addr) (ps : PL) (xs : List X4) (j : Nat) (x : X4), vs = [.ref q, .ref L] ∧ ScalesAt Cs H q td ps ∧ Lst4 H L xs ∧ xs.length ≤ 1000 ∧ xs[j]? = some x ∧
  (∀ (i : Nat) (y : X4), i < j → xs[i]? = some y → ∃ n : Str, y.1 = .str n ∧ n ∈ ps.map (·.1)) ∧ (∀ H', L2.Same H H' → HasV K H' ps x.1 false) ∧ ∀ H', L2.Same H H' → Q x.1 H'
abbrev s__law_refused : Stmt := top 40
theorem sc__law_refused : FnScope ["_law_scales", "_law_steps", "e"] ["_law_scales", "_law_steps"] (defScope s__law_refused) := ⟨rfl, rfl, rfl, by decide +kernel, rfl, by decide +kernel, by decide +kernel⟩
theorem ok_refused {f : Addr} {fd : FuncData} (F : FnP K "_law_refused" "_law_refused" s__law_refused f fd) (T : TRef K mg C_NoScale) (M_NoScale : Exk P w K mg base "NoScale" C_NoScale ["name"])
    (M_Pattern_init : Mkr P w K mg base (L2.CX P w) 3 "Pattern" C_Pattern ["self", "scales", "steps"] [] (spPatInit K C_Scales C_NoScale C_Pattern)) : FnOk P w K mg base CX0 5 f fd ["_law_scales", "_law_steps"] (spRefd K C_Scales) := by
  have n_NoScale_name := T.nn
  refine F.ok sc__law_refused (fun vs H Q E h => ?_) (fun cdv A outer s H vs Q E hr h => ?_)
  · obtain ⟨q, td, L, ps, xs, j, x, rfl, _⟩ := h
    rfl
  · obtain ⟨q, td, L, ps, xs, j, x, rfl, S, L4, few, hx, hb, hv, k⟩ := h
    refine ⟨_, (Evl.pss_cut (ps_try_as (i := 2) (Wout := (fun _ _ _ _ => False)) rfl rfl sc__law_refused.nd rfl rfl ⟨rfl, by decide, Or.inl M_NoScale.g⟩ takes0 (fun W pn xe tk _ => (pss_one (ps_expr (pe_mkS M_Pattern_init (hr.mono (by decide)) (fun σ => passAt tk σ) (pa_cons (pv 0) (pa_cons (pv 1) pa_nil)))))) (fun a oe cls d pn hz hf => (pss_one (ps_ret (pe_xf M_NoScale.T.xf n_NoScale_name hz hf (pv 2))))))
      (pss_one (ps_ret pe_str))), ?_⟩
    refine ⟨fun _ _ => False, ?_, fun _ _ z => z.elim⟩
    refine ⟨_, rfl, _, rfl, ?_⟩
    intro y dx nx nd ne
    have s0 := made0 (o := .own y) (u := .ins C_Pattern dx []) nx nd
    obtain ⟨rs, hL, hl, hrs⟩ := L4.ex
    refine ⟨y, dx, q, td, L, ps, xs, rfl, upd_same, S.old s0, ⟨rs, s0 _ _ hL, hl, fun i v h => ?_⟩, few, .inr ⟨j, x, hx, hb, fun H' s' => hv H' (s0.trans s'), fun H' d s' hd => ⟨true, T.ex, fun _ a ha => ?_, fun z => by cases z⟩⟩⟩
    · obtain ⟨r, z, h1, h2, h3⟩ := hrs i v h
      exact ⟨r, z, h1, h2, h3.old s0⟩
    · exact ⟨_, rfl, rfl, rfl, d, _, _, rfl, upd_same, rfl, k _ ((s0.trans s').trans (Same.new hd))⟩
end
end RS

set_option maxRecDepth 100000
set_option maxHeartbeats 4000000
namespace RS
open PySem PySem.Spec PyProof.Rows L2 NdefX He PySem.W
/-! ### the law -/
theorem kinds_at {H : Hp} {rs : List V} {ps : PL} {d : Int} (h : TdAll H rs (ps.map Datum.toD)) (h0 : 0 ≤ d) (h1 : d < (rs.length : Int)) : ∃ r n kd, atI rs d = some (.ref r) ∧ H r = some (.tup [.str n, .str kd]) ∧ n ∈ ps.map (·.1) := by
  obtain ⟨j, rfl⟩ : ∃ j : Nat, d = (j : Int) := ⟨d.toNat, by omega⟩
  have hj : j < rs.length := by omega
  have hv : rs[j]? = some (rs[j]'hj) := List.getElem?_eq_getElem hj
  obtain ⟨dd, hd, tx⟩ := h.at hv
  rw [List.getElem?_map] at hd
  cases hq : ps[j]? with
  | none => rw [hq] at hd; cases hd
  | some q =>
    rw [hq] at hd
    obtain ⟨n, kd⟩ := q
    cases hd
    obtain ⟨r, hr, h4⟩ := td_pair tx
    rw [hr] at hv
    exact ⟨r, n, kd, atI_nat hv, h4, List.mem_map.mpr ⟨(n, kd), List.mem_of_getElem? hq, rfl⟩⟩
/-- a step that the law makes -/
def Q4.ok (ps : PL) (q : Q4) : Prop := q.n ∈ ps.map (·.1) ∧ q.a.natAbs < 2 ^ 140 ∧ q.b.natAbs < 2 ^ 140 ∧ q.c.natAbs < 2 ^ 140
theorem Tps.app {H : Hp} {ts : List V} {qs : List Q4} {r : Addr} {y : Q4} (x : Tps H ts (qs.map q4x)) (h : H r = some (.tup y.vs)) : Tps H (ts ++ [.ref r]) ((qs ++ [y]).map q4x) := by
  rw [List.map_append]
  exact x.snoc h
/-- what is handed to Pattern: tuples, or lists of their own -/
def GI (H : Hp) (ne : List Addr) (gs : List V) (qs : List Q4) : Prop := gs.length = qs.length ∧ ∀ (j : Nat) (v : V), gs[j]? = some v → ∃ r y, v = .ref r ∧ qs[j]? = some y ∧ (H r = some (.tup y.vs) ∨ (H r = some (.lst y.vs) ∧ ∀ b ∈ ne, r ≠ b))
/-- tuples, and lists that are none of these, stand as they were -/
def GK (ne : List Addr) (H H' : Hp) : Prop := ∀ r o, H r = some o → ((∃ xs, o = .tup xs) ∨ ((∃ xs, o = .lst xs) ∧ ∀ b ∈ ne, r ≠ b)) → H' r = some o
theorem GK.trans {ne : List Addr} {H H1 H2 : Hp} (x : GK ne H H1) (y : GK ne H1 H2) : GK ne H H2 := fun r o h d => y r o (x r o h d) d
theorem Same.gk {ne : List Addr} {H H' : Hp} (x : L2.Same H H') : GK ne H H' := fun r o h _ => x r o h
theorem Sav.gk {ne : List Addr} {H H' : Hp} {p c : Addr} {n : Nat} (x : Sav p H H') (P : Pen H p c n) : GK ne H H' := fun r o h d => x r o (by
  rcases d with ⟨xs, rfl⟩ | ⟨⟨xs, rfl⟩, _⟩
  · exact P.ne h fun _ z => by cases z
  · exact P.ne h fun _ z => by cases z) h
theorem GK.upd {ne : List Addr} {H : Hp} {l : Addr} {xs : List V} {o : HO} (hl : l ∈ ne) (h : H l = some (.lst xs)) : GK ne H (upd H l o) := fun r u hr d => by
  have n : r ≠ l := by
    rcases d with ⟨ys, rfl⟩ | ⟨_, hn⟩
    · exact ne_of hr h (by intro z; cases z)
    · exact hn l hl
  rw [upd_ne n]
  exact hr
theorem GI.keep {H H' : Hp} {ne : List Addr} {gs : List V} {qs : List Q4} (x : GI H ne gs qs) (k : GK ne H H') : GI H' ne gs qs := ⟨x.1, fun j v h => by
  obtain ⟨r, y, h1, h2, h3⟩ := x.2 j v h
  exact ⟨r, y, h1, h2, h3.imp (fun e => k _ _ e (.inl ⟨_, rfl⟩)) fun e => ⟨k _ _ e.1 (.inr ⟨⟨_, rfl⟩, e.2⟩), e.2⟩⟩⟩
theorem GI.snoc {H : Hp} {ne : List Addr} {gs : List V} {qs : List Q4} {r : Addr} {y : Q4} (x : GI H ne gs qs) (h : H r = some (.tup y.vs) ∨ (H r = some (.lst y.vs) ∧ ∀ b ∈ ne, r ≠ b)) : GI H ne (gs ++ [.ref r]) (qs ++ [y]) := ⟨by rw [List.length_append, List.length_append, x.1]; rfl, fun i v hv => by
  have hl := x.1
  by_cases hi : i < gs.length
  · rw [List.getElem?_append_left hi] at hv
    obtain ⟨r', y', h1, h2, h3⟩ := x.2 i v hv
    exact ⟨r', y', h1, by rw [List.getElem?_append_left (by omega)]; exact h2, h3⟩
  · rw [List.getElem?_append_right (by omega)] at hv
    have h1 : i - gs.length < 1 := (List.getElem?_eq_some_iff.mp hv).1
    have e : i = gs.length := by omega
    subst e
    rw [Nat.sub_self] at hv
    cases hv
    exact ⟨r, y, rfl, by rw [hl, List.getElem?_append_right (by omega), Nat.sub_self]; rfl, h⟩⟩
/-- the same behind the change of the lists -/
def GJ (H : Hp) (ne : List Addr) (gs : List V) : Prop := ∀ (j : Nat) (v : V), gs[j]? = some v → ∃ r, v = .ref r ∧ ((∃ ys, H r = some (.tup ys)) ∨ ((∃ ys, H r = some (.lst ys) ∧ ys.length = 4) ∧ ∀ b ∈ ne, r ≠ b))
theorem cut_to (us : List V) {n : Nat} (h : n ≤ us.length) : cutV us none (some (n : Int)) = us.take n := by
  show (us.drop 0).take (HT.sIx us.length us.length (some (n : Int)) - 0) = _
  rw [HT.sIx_nat, List.drop_zero, Nat.sub_zero, Nat.min_eq_left h]
theorem cut_from (us : List V) {n : Nat} (h : n ≤ us.length) : cutV us (some (n : Int)) none = us.drop n := by
  show (us.drop (HT.sIx us.length 0 (some (n : Int)))).take (us.length - HT.sIx us.length 0 (some (n : Int))) = _
  rw [HT.sIx_nat, Nat.min_eq_left h]
  exact List.take_of_length_le (by rw [List.length_drop]; exact Nat.le_refl _)
theorem Tps.append {H : Hp} {ts us : List V} {xs ys : List X4} (x : Tps H ts xs) (y : Tps H us ys) : Tps H (ts ++ us) (xs ++ ys) := ⟨by rw [List.length_append, List.length_append, x.1, y.1], fun i v hv => by
  have hl := x.1
  by_cases hi : i < ts.length
  · rw [List.getElem?_append_left hi] at hv
    obtain ⟨r', y', h1, h2, h3⟩ := x.2 i v hv
    exact ⟨r', y', h1, by rw [List.getElem?_append_left (by omega)]; exact h2, h3⟩
  · rw [List.getElem?_append_right (by omega)] at hv
    obtain ⟨r', y', h1, h2, h3⟩ := y.2 _ v hv
    exact ⟨r', y', h1, by rw [List.getElem?_append_right (by omega), ← hl]; exact h2, h3⟩⟩
theorem Tps.take {H : Hp} {ts : List V} {xs : List X4} (x : Tps H ts xs) (n : Nat) : Tps H (ts.take n) (xs.take n) := ⟨by rw [List.length_take, List.length_take, x.1], fun i v hv => by
  have hi := (List.getElem?_eq_some_iff.mp hv).1
  rw [List.length_take] at hi
  rw [List.getElem?_take_of_lt (by omega)] at hv
  obtain ⟨r', y', h1, h2, h3⟩ := x.2 i v hv
  exact ⟨r', y', h1, by rw [List.getElem?_take_of_lt (by omega)]; exact h2, h3⟩⟩
theorem Tps.drop {H : Hp} {ts : List V} {xs : List X4} (x : Tps H ts xs) (n : Nat) : Tps H (ts.drop n) (xs.drop n) := ⟨by rw [List.length_drop, List.length_drop, x.1], fun i v hv => by
  rw [List.getElem?_drop] at hv
  obtain ⟨r', y', h1, h2, h3⟩ := x.2 _ v hv
  exact ⟨r', y', h1, by rw [List.getElem?_drop]; exact h2, h3⟩⟩
theorem Tps.one {H : Hp} {r : Addr} {x : X4} (h : H r = some (.tup (x4v x))) : Tps H [.ref r] [x] := ⟨rfl, fun i v hv => by
  have hi := (List.getElem?_eq_some_iff.mp hv).1
  obtain rfl : i = 0 := by simpa using hi
  cases hv
  exact ⟨r, x, rfl, rfl, h⟩⟩
theorem Tps.lst {H : Hp} {L : Addr} {ts : List V} {xs : List X4} (x : Tps H ts xs) (h : H L = some (.lst ts)) : Lst4 H L xs := ⟨ts, h, x.1, fun i v hv => by
  obtain ⟨r', y', h1, h2, h3⟩ := x.2 i v hv
  exact ⟨r', y', h1, h2, .inl h3⟩⟩
/-- no name of the law's -/
theorem not_id {ps : PL} (kd : KdP ps) {x : Str} (h : ∀ k, k < 10 → ¬ IdentP k x) : x ∉ ps.map (·.1) := fun z => by
  obtain ⟨q, hq, rfl⟩ := List.mem_map.mp z
  obtain ⟨i, hi⟩ := List.mem_iff_getElem?.mp hq
  exact h i (by have := (List.getElem?_eq_some_iff.mp hi).1; have := kd.few; omega) (kd.at_ i q hi).1
theorem zz_no (k : Nat) (hk : k < 10) : ¬ IdentP k "zz" := fun h => by
  obtain ⟨l, e, _, _, hm⟩ := h.ex
  have e2 : ("zz" : Str).cps.toList = (l ++ [48 + k]) := by rw [e]
  have e3 : ("zz" : Str).cps.toList = [122] ++ [122] := by decide +kernel
  rw [e3] at e2
  have e4 := (List.append_inj' e2 rfl).2
  simp at e4
  omega
theorem em_no (k : Nat) (_ : k < 10) : ¬ IdentP k "" := fun h => by
  obtain ⟨l, e, _⟩ := h.ex
  have e2 : ("" : Str).cps.toList.length = (l ++ [48 + k]).length := by rw [e]
  have e3 : ("" : Str).cps.toList.length = 0 := by decide +kernel
  rw [e3] at e2
  simp at e2
/-- what the law tries in a name's place -/
structure Odd (K : Frg) (ps : PL) (o1 o2 : Addr) (v : V) : Prop where
  has : ∀ H, H o1 = some (.lst [.str "a"]) → H o2 = some (.dK [(.inr "a", .int 1)]) → HasV K H ps v false
  ne : ∀ (H : Hp) (Q : VK), H o1 = some (.lst [.str "a"]) → H o2 = some (.dK [(.inr "a", .int 1)]) → Q (.bl false) H → rNeD K v v H Q ∨ rNeDA v v H Q
theorem odd_at {K : Frg} {ps : PL} (kd : KdP ps) {o1 o2 : Addr} {d : Int} (h0 : 0 ≤ d) (h1 : d < 6) : ∃ v, atI [V.str "zz", .int 5, .str "", .non, .ref o1, .ref o2] d = some v ∧ Odd K ps o1 o2 v := by
  have e1 : PyData.eqv (.str "zz") (.str "zz") = true := by simp [PyData.eqv]
  have e2 : PyData.eqv (.str "") (.str "") = true := by simp [PyData.eqv]
  have e5 : PyData.eqv (.list [.str "a"]) (.list [.str "a"]) = true := by simp [PyData.eqv, PyData.eqvAll]
  have : d = 0 ∨ d = 1 ∨ d = 2 ∨ d = 3 ∨ d = 4 ∨ d = 5 := by omega
  rcases this with rfl | rfl | rfl | rfl | rfl | rfl
  · refine ⟨_, rfl, fun H _ _ => ?_, fun H Q _ _ q => .inl ⟨_, _, .str _, .str _, by decide +kernel, by decide +kernel, by rw [e1]; exact q⟩⟩
    have z := HasV.str (K := K) (H := H) (ps := ps) "zz"
    rw [decide_eq_false (not_id kd zz_no)] at z
    exact z
  · exact ⟨_, rfl, fun H _ _ => .no (.base (.int _)) (by decide +kernel), fun H Q _ _ q => .inl ⟨_, _, .int _, .int _, rfl, rfl, q⟩⟩
  · refine ⟨_, rfl, fun H _ _ => ?_, fun H Q _ _ q => .inl ⟨_, _, .str _, .str _, by decide +kernel, by decide +kernel, by rw [e2]; exact q⟩⟩
    have z := HasV.str (K := K) (H := H) (ps := ps) ""
    rw [decide_eq_false (not_id kd em_no)] at z
    exact z
  · exact ⟨_, rfl, fun H _ _ => .no (.base .non) (by decide +kernel), fun H Q _ _ q => .inl ⟨_, _, .non, .non, rfl, rfl, q⟩⟩
  · exact ⟨_, rfl, fun H h _ => .no (.base (.lst h)) (by decide +kernel), fun H Q h _ q => .inl ⟨_, _, .lst (SqL.of h) (.cons (.str _) .nil), .lst (SqL.of h) (.cons (.str _) .nil), by decide +kernel, by decide +kernel, by rw [e5]; exact q⟩⟩
  · refine ⟨_, rfl, fun H _ h => .no (.base (.dK h)) (by decide +kernel), fun H Q _ h q => .inr ⟨_, _, _, _, rfl, rfl, h, h, rfl, fun p hp => ?_, q⟩⟩
    obtain rfl := List.mem_singleton.mp hp
    exact ⟨rfl, rfl⟩
structure TLaw (K : Frg) (mg : Str → Option Value) (Cs Cp : Addr) : Prop where
  c_Pattern : Cls K Cp
  b_range : mg "range" = none
  b_len : mg "len" = none
  b_list : mg "list" = none
  b_tuple : mg "tuple" = none
  b_isinstance : mg "isinstance" = none
  ne_Scales : NoNe K Cs
  f_self : PySem.W.notFirst K Cs (.ref Cs) = true
section
variable {P : Program} {w : World} {K : PySem.W.Frag} {mg : Str → Option Value} {base : Heap} {C_Scales C_Row C_Pattern C_NoScale a_KINDS : Addr}
def spLaw (K : Frg) : Sp := fun vs H Q _ => ∃ (a : Addr) (ns : List Int), vs = [.ref a] ∧ SqL K H a (ns.map V.int) ∧ ns.length ≤ 63 ∧ ∀ H', Q (.bl true) H'
abbrev s_law : Stmt := top 41
theorem sc_law : FnScope ["_law_script", "_law_bag_here", "_law_kinds_here", "_law_scales", "_law_steps", "_law_k", "_law_given", "_law_pattern", "_law_step", "_law_odd", "_law_at", "_law_name", "_law_due", "_law_alone", "_law_m", "_law_n", "_law_a", "_law_b", "_law_c"] ["_law_script"] (defScope s_law) := ⟨rfl, rfl, rfl, by decide +kernel, rfl, by decide +kernel, by decide +kernel⟩
theorem ok_law {f : Addr} {fd : FuncData} (F : FnP K "law" "law" s_law f fd) (T : TLaw K mg C_Scales C_Pattern) (TS : TSc K mg C_Scales a_KINDS) (TR : TRow K mg C_Row) (TP : TPat K mg C_Pattern)
    (M__law_bag : Cal P w K mg base CX0 1 "_law_bag" ["_law_script"] [] (spPen K)) (M__law_draw : Cal P w K mg base CX0 1 "_law_draw" ["_law_bag_here", "_law_limit"] [] spDraw) (M__law_kinds : Cal P w K mg base CX0 3 "_law_kinds" ["_law_bag_here", "_law_most"] [] spKinds)
    (M_Scales_init : Mkr P w K mg base CX0 2 "Scales" C_Scales ["self", "pairs"] [] (spScInit C_Scales)) (M_Scales_eq : Mtd P w K mg base CX0 1 C_Scales "__eq__" ["self", "other"] [] (spScEq C_Scales))
    (M__law_number : Cal P w K mg base CX0 2 "_law_number" ["_law_bag_here"] [] spLn) (M_Pattern_init : Mkr P w K mg base (L2.CX P w) 3 "Pattern" C_Pattern ["self", "scales", "steps"] [] (spPatInit K C_Scales C_NoScale C_Pattern))
    (M__law_normal : Cal P w K mg base CX0 1 "_law_normal" ["_law_steps"] [] spLNorm) (M_Pattern_at2 : Mtd P w K mg base CX0 4 C_Pattern "at" ["self", "m", "n"] [] (spAt C_Scales C_Row C_Pattern)) (M_Pattern_at1 : Mtd P w K mg base CX0 4 C_Pattern "at" ["self", "m", "n"] [.int 0] (spAt C_Scales C_Row C_Pattern))
    (M_Pattern_call2 : Clo P w K mg base CX0 5 C_Pattern (spAt C_Scales C_Row C_Pattern)) (M_Pattern_call1 : Clo P w K mg base CX0 5 C_Pattern (fun vs H Q E => spAt C_Scales C_Row C_Pattern (vs ++ [.int 0]) H Q E))
    (M__law_refused : Cal P w K mg base CX0 5 "_law_refused" ["_law_scales", "_law_steps"] [] (spRefd K C_Scales)) : FnOk P w K mg base CX0 7 f fd ["_law_script"] (spLaw K) := by
  refine F.ok sc_law (fun vs H Q E h => ?_) (fun cdv A outer s H vs Q E hr h => ?_)
  · obtain ⟨a, ns, rfl, _⟩ := h
    rfl
  · obtain ⟨a0, ns, rfl, hS, hl, k⟩ := h
    refine ⟨_, PSs.nox (pss_cons (ps_set (i := 1) sc_law.nd rfl (by first | exact Or.inl rfl | exact Or.inr rfl) (pe_fn M__law_bag (hr.mono (by decide)) pass0 (pa_cons (pv 0) pa_nil)))
      (pss_cons (ps_set (i := 2) sc_law.nd rfl (by first | exact Or.inl rfl | exact Or.inr rfl) (pe_fn M__law_kinds (hr.mono (by decide)) pass0 (pa_cons (pv 1) (pa_cons pe_int pa_nil))))
      (pss_cons (ps_set (i := 3) sc_law.nd rfl (by first | exact Or.inl rfl | exact Or.inr rfl) (pe_mk M_Scales_init (hr.mono (by decide)) pass0 (pa_cons (pv 2) pa_nil)))
      (pss_cons (ps_set (i := 4) sc_law.nd rfl (by first | exact Or.inl rfl | exact Or.inr rfl) (pe_lst pa_nil))
      (pss_cons (ps_for PassesOwn.never rfl (pi_range1 (by rfl) T.b_range (pa_cons (pe_fn M__law_draw (hr.mono (by decide)) pass0 (pa_cons (pv 1) (pa_cons pe_int pa_nil))) pa_nil)) (pg_name (i := 5) sc_law.nd rfl (by first | exact Or.inl rfl | exact Or.inr rfl)) (pss_cons (ps_set (i := 11) sc_law.nd rfl (by first | exact Or.inl rfl | exact Or.inr rfl) (pe_ix ix_tup (pe_ix ix_list (pv 2) (pe_fn M__law_draw (hr.mono (by decide)) pass0 (pa_cons (pv 1) (pa_cons (pe_callB call_len (by rfl) T.b_len PySem.boot_len (pa_cons (pv 2) pa_nil)) pa_nil))) (fun _ _ => rfl)) pe_int (fun _ _ => rfl)))
      (pss_one (ps_expr (pe_bm PySem.F.plainAttrs_list PySem.F.slot_list_append PySem.F.type_list_append mt_append (pv 4) (pa_cons (pe_tup (pa_cons (pv 11) (pa_cons (pe_fn M__law_number (hr.mono (by decide)) pass0 (pa_cons (pv 1) pa_nil)) (pa_cons (pe_fn M__law_number (hr.mono (by decide)) pass0 (pa_cons (pv 1) pa_nil)) (pa_cons (pe_fn M__law_number (hr.mono (by decide)) pass0 (pa_cons (pv 1) pa_nil)) pa_nil))))) pa_nil))))))
      (pss_cons (ps_setLc (i := 6) (own := [("_law_step", 8)]) (by rfl) sc_law.nd rfl rfl (sw_true rfl rfl rfl (by decide +kernel)) (pi_list (pv 4)) (blkOk_by (own := [("_law_step", 8)]) (N := ["_law_script", "_law_bag_here", "_law_kinds_here", "_law_scales", "_law_steps", "_law_k", "_law_given", "_law_pattern", "_law_step", "_law_odd", "_law_at", "_law_name", "_law_due", "_law_alone", "_law_m", "_law_n", "_law_a", "_law_b", "_law_c"]) (sc := defScope s_law) (by decide +kernel)) (fun _ _ _ _ _ => (pg_name (i := 8) sc_law.nd rfl (by first | exact Or.inl rfl | exact Or.inr rfl))) (fun _ _ _ _ _ => pts_nil) (fun _ _ _ _ _ => (pe_ifExp (pt_cmpR op_eq (pe_fn M__law_draw (hr.mono (by decide)) pass0 (pa_cons (pv 1) (pa_cons pe_int pa_nil))) pe_int (nomark _)) (pe_callTy (call_listK (K := K) rfl) (by rfl) T.b_list (by decide +kernel) (pa_cons (pv 8) pa_nil)) (pv 8))))
      (pss_cons (ps_set (i := 7) sc_law.nd rfl (by first | exact Or.inl rfl | exact Or.inr rfl) (pe_mk M_Pattern_init (hr.mono (by decide)) passL (pa_cons (pv 3) (pa_cons (pv 6) pa_nil))))
      (pss_cons (ps_expr (pe_bm PySem.F.plainAttrs_list PySem.F.slot_list_append PySem.F.type_list_append mt_append (pv 6) (pa_cons (pe_tup (pa_cons pe_str (pa_cons pe_int (pa_cons pe_int (pa_cons pe_int pa_nil))))) pa_nil)))
      (pss_cons (ps_for PassesOwn.never rfl (pi_list (pv 6)) (pg_name (i := 8) sc_law.nd rfl (by first | exact Or.inl rfl | exact Or.inr rfl)) (pss_one (ps_if (pt_val (pe_callB call_isi (by rfl) T.b_isinstance (by decide +kernel) (pa_cons (pv 8) (pa_cons (pe_bltn (v := .ty "list") (u := .type "list") (by rfl) T.b_list (by decide +kernel) rfl) pa_nil)))) (pss_one (ps_asg pe_int (pg_sub (pv 8) pe_int set_list))) pss_nil)))
      (pss_cons (ps_for PassesOwn.never rfl (pi_range1 (by rfl) T.b_range (pa_cons pe_int pa_nil)) (pg_name (i := 5) sc_law.nd rfl (by first | exact Or.inl rfl | exact Or.inr rfl)) (pss_cons (ps_asg (pe_tup (pa_cons (pe_op op_add (pe_fn M__law_number (hr.mono (by decide)) pass0 (pa_cons (pv 1) pa_nil)) (pe_fn M__law_draw (hr.mono (by decide)) pass0 (pa_cons (pv 1) (pa_cons pe_int pa_nil)))) (pa_cons (pe_op op_sub (pe_fn M__law_number (hr.mono (by decide)) pass0 (pa_cons (pv 1) pa_nil)) (pe_fn M__law_draw (hr.mono (by decide)) pass0 (pa_cons (pv 1) (pa_cons pe_int pa_nil)))) pa_nil))) (pg_tup (by rfl) (pgs_cons (pg_name (i := 14) sc_law.nd rfl (by first | exact Or.inl rfl | exact Or.inr rfl)) (pgs_cons (pg_name (i := 15) sc_law.nd rfl (by first | exact Or.inl rfl | exact Or.inr rfl)) pgs_nil))))
      (pss_cons (ps_set (i := 12) sc_law.nd rfl (by first | exact Or.inl rfl | exact Or.inr rfl) (pe_callTy call_tuple_of (by rfl) T.b_tuple (by decide +kernel) (pa_cons (pe_fn M__law_normal (hr.mono (by decide)) pass0 (pa_cons (pe_lc (own := [("_law_name", 11), ("_law_a", 16), ("_law_b", 17), ("_law_c", 18)]) (by rfl) sc_law.nd (pi_list (pv 4)) (blkOk_by (own := [("_law_name", 11), ("_law_a", 16), ("_law_b", 17), ("_law_c", 18)]) (N := ["_law_script", "_law_bag_here", "_law_kinds_here", "_law_scales", "_law_steps", "_law_k", "_law_given", "_law_pattern", "_law_step", "_law_odd", "_law_at", "_law_name", "_law_due", "_law_alone", "_law_m", "_law_n", "_law_a", "_law_b", "_law_c"]) (sc := defScope s_law) (by decide +kernel)) (fun _ _ _ _ _ => (pg_tupK (K := K) (n := 4) rfl (by rfl) (pgs_cons (pg_name (i := 11) sc_law.nd rfl (by first | exact Or.inl rfl | exact Or.inr rfl)) (pgs_cons (pg_name (i := 16) sc_law.nd rfl (by first | exact Or.inl rfl | exact Or.inr rfl)) (pgs_cons (pg_name (i := 17) sc_law.nd rfl (by first | exact Or.inl rfl | exact Or.inr rfl)) (pgs_cons (pg_name (i := 18) sc_law.nd rfl (by first | exact Or.inl rfl | exact Or.inr rfl)) pgs_nil)))))) (fun _ _ _ _ _ => pts_nil) (fun _ _ _ _ _ => (pe_tup (pa_cons (pv 11) (pa_cons (pe_op op_add (pe_op op_add (pe_op op_mulW (pv 16) (pv 14)) (pe_op op_mulW (pv 17) (pv 15))) (pv 18)) pa_nil))))) pa_nil)) pa_nil)))
      (pss_cons (ps_set (i := 13) sc_law.nd rfl (by first | exact Or.inl rfl | exact Or.inr rfl) (pe_callTy call_tuple_of (by rfl) T.b_tuple (by decide +kernel) (pa_cons (pe_fn M__law_normal (hr.mono (by decide)) pass0 (pa_cons (pe_lc (own := [("_law_name", 11), ("_law_a", 16), ("_law_b", 17), ("_law_c", 18)]) (by rfl) sc_law.nd (pi_list (pv 4)) (blkOk_by (own := [("_law_name", 11), ("_law_a", 16), ("_law_b", 17), ("_law_c", 18)]) (N := ["_law_script", "_law_bag_here", "_law_kinds_here", "_law_scales", "_law_steps", "_law_k", "_law_given", "_law_pattern", "_law_step", "_law_odd", "_law_at", "_law_name", "_law_due", "_law_alone", "_law_m", "_law_n", "_law_a", "_law_b", "_law_c"]) (sc := defScope s_law) (by decide +kernel)) (fun _ _ _ _ _ => (pg_tupK (K := K) (n := 4) rfl (by rfl) (pgs_cons (pg_name (i := 11) sc_law.nd rfl (by first | exact Or.inl rfl | exact Or.inr rfl)) (pgs_cons (pg_name (i := 16) sc_law.nd rfl (by first | exact Or.inl rfl | exact Or.inr rfl)) (pgs_cons (pg_name (i := 17) sc_law.nd rfl (by first | exact Or.inl rfl | exact Or.inr rfl)) (pgs_cons (pg_name (i := 18) sc_law.nd rfl (by first | exact Or.inl rfl | exact Or.inr rfl)) pgs_nil)))))) (fun _ _ _ _ _ => pts_nil) (fun _ _ _ _ _ => (pe_tup (pa_cons (pv 11) (pa_cons (pe_op op_add (pe_op op_mulW (pv 16) (pv 14)) (pv 18)) pa_nil))))) pa_nil)) pa_nil)))
      (Evl.pss_cut (ps_if (PW.pt (pw_or (pt_cmpR (op_neT (Tup (Str × Int)) hr.units) (pe_fld (pe_mt T.c_Pattern M_Pattern_at2 (hr.mono (by decide)) pass0 (pv 7) (pa_cons (pv 14) (pa_cons (pv 15) pa_nil))) rfl) (pv 12) (nomark _)) (pw_or (pt_cmpR (op_neT (Tup (Str × Int)) hr.units) (pe_fld (pe_cl M_Pattern_call2 (hr.mono (by decide)) pass0 (pv 7) (pa_cons (pv 14) (pa_cons (pv 15) pa_nil))) rfl) (pv 12) (nomark _)) (pw_or1 (pt_cmpR (op_neOwn T.ne_Scales M_Scales_eq (hr.mono (by decide)) pass0) (pe_fld (pe_mt T.c_Pattern M_Pattern_at2 (hr.mono (by decide)) pass0 (pv 7) (pa_cons (pv 14) (pa_cons (pv 15) pa_nil))) rfl) (pv 3) (nomark _)))))) (pss_one (ps_ret pe_bl)) pss_nil)
      (pss_one (ps_if (PW.pt (pw_or (pt_cmpR (op_neT (Tup (Str × Int)) hr.units) (pe_fld (pe_mt T.c_Pattern M_Pattern_at1 (hr.mono (by decide)) pass0 (pv 7) (pa_cons (pv 14) pa_nil)) rfl) (pv 13) (nomark _)) (pw_or (pt_cmpR (op_neT (Tup (Str × Int)) hr.units) (pe_fld (pe_cl M_Pattern_call1 (hr.mono (by decide)) pass0 (pv 7) (pa_cons (pv 14) pa_nil)) rfl) (pv 13) (nomark _)) (pw_or1 (pt_cmpR (op_neT (Tup (Str × Int)) hr.units) (pe_fld (pe_mt T.c_Pattern M_Pattern_at2 (hr.mono (by decide)) pass0 (pv 7) (pa_cons (pv 14) (pa_cons pe_int pa_nil))) rfl) (pv 13) (nomark _)))))) (pss_one (ps_ret pe_bl)) pss_nil)))))))
      (pss_cons (ps_set (i := 9) sc_law.nd rfl (by first | exact Or.inl rfl | exact Or.inr rfl) (pe_ix ix_list (pe_lst (pa_cons pe_str (pa_cons pe_int (pa_cons pe_str (pa_cons pe_non (pa_cons (pe_lst (pa_cons pe_str pa_nil)) (pa_cons (pe_disp (pps_cons pe_str pe_int pps_nil) (by rfl) (by rfl) (fun z => by cases z) (by decide)) pa_nil))))))) (pe_fn M__law_draw (hr.mono (by decide)) pass0 (pa_cons (pv 1) (pa_cons pe_int pa_nil))) (fun _ _ => rfl)))
      (pss_cons (ps_set (i := 10) sc_law.nd rfl (by first | exact Or.inl rfl | exact Or.inr rfl) (pe_fn M__law_draw (hr.mono (by decide)) pass0 (pa_cons (pv 1) (pa_cons (pe_op op_add (pe_callB call_len (by rfl) T.b_len PySem.boot_len (pa_cons (pv 4) pa_nil)) pe_int) pa_nil))))
      (pss_cons (ps_if (pt_cmpR (opOr (op_neD hr.units) (op_ne_dictA (Nat.lt_of_le_of_lt (Nat.le_add_right _ _) hr.units))) (pe_fn M__law_refused (hr.mono (by decide)) pass0 (pa_cons (pv 3) (pa_cons (pe_op op_cat (pe_op op_cat (pe_op op_cat (pe_slice sl_list (pv 4) po_none (po_some (pv 10))) (pe_lst (pa_cons (pe_tup (pa_cons (pv 9) (pa_cons pe_int (pa_cons pe_int (pa_cons pe_int pa_nil))))) pa_nil))) (pe_slice sl_list (pv 4) (po_some (pv 10)) po_none)) (pe_lst (pa_cons (pe_tup (pa_cons pe_str (pa_cons pe_int (pa_cons pe_int (pa_cons pe_int pa_nil))))) pa_nil))) pa_nil))) (pv 9) (nomark _)) (pss_one (ps_ret pe_bl)) pss_nil)
      (pss_one (ps_ret (pe_and (pe_cmpR (op_eqT (Tup Q4) hr.units) (pe_fld (pv 7) rfl) (pe_callTy call_tuple_of (by rfl) T.b_tuple (by decide +kernel) (pa_cons (pv 4) pa_nil)) (nomark _)) (pe_and (pe_cmpR (op_eqOwn M_Scales_eq (hr.mono (by decide)) pass0) (pe_fld (pv 7) rfl) (pv 3) (nomark _)) (pe_one (pe_cmpR (op_eqT (Tup (Str × Int)) hr.units) (pe_fld (pe_mt T.c_Pattern M_Pattern_at1 (hr.mono (by decide)) pass0 (pv 7) (pa_cons pe_int pa_nil)) rfl) (pe_fld (pe_cl M_Pattern_call2 (hr.mono (by decide)) pass0 (pv 7) (pa_cons pe_int (pa_cons pe_int pa_nil))) rfl) (nomark _)))))))))))))))))))), ?_⟩
    have sz : ∀ n : Nat, n ≤ 40 → n ≤ sizeLine := fun n h => by rw [sizeLine_eq]; omega
    refine ⟨_, rfl, a0, ns, rfl, hS, hl, fun p c H1 s1 np nc P1 => ?_⟩
    -- kinds, scales
    refine ⟨_, rfl, p, c, 2 ^ 40, 4, rfl, by decide, by decide, P1.mono (by decide), fun kl ps H2 kd K2 nk P2 s2 => ?_⟩
    refine ⟨_, rfl, ?_⟩
    intro q dx nq nd ne
    have s0 := made0 (o := .own q) (u := .ins C_Scales dx []) nq nd
    obtain ⟨rs, hk, hrs⟩ := K2.ex
    refine ⟨q, dx, kl, ps, rfl, upd_same, ⟨rs, s0 _ _ hk, hrs.keep (Same.tk s0)⟩, kd.good, fun td H3 kp htd S3 => ⟨rfl, ?_⟩⟩
    have s3 : L2.Same H2 H3 := Same.made nq nd kp
    have ntd : td ≠ p := P2.fresh_ne (none_back s0 htd)
    have P3 := P2.old s3
    have hk3 := s3 _ _ hk
    have hrs3 := hrs.keep (Same.tk s3)
    have rl : rs.length = ps.length := by rw [hrs.len, List.length_map]
    have rl1 : 1 ≤ rs.length := by have := kd.pos; omega
    have rl9 : rs.length ≤ 9 := by have := kd.few; omega
    have nkp : kl ≠ p := P3.ne hk3 (fun _ z => by cases z)
    clear s0 kp htd nq nd ne hk hrs s3 P2 K2
    -- steps
    refine ⟨by show 0 ≤ sizeLine; omega, fun sl hsl => ?_⟩
    have nslp := P3.fresh_ne hsl
    have nslc := P3.fresh_ne2 hsl
    have nslk : kl ≠ sl := ne_of_none hk3 hsl
    refine ⟨_, rfl, p, c, 9, 2 ^ 30, rfl, by decide, by decide +kernel, (P3.new hsl).mono (by decide), fun d H4 a4 b4 P4 s4 => ?_⟩
    have k4 : Kp p H3 H4 := (Same.kp (Same.new hsl)).trans s4.kp
    have hk4 := s4.at nkp (upd_old (u := .lst []) hsl hk3)
    have e4 := s4.at nslp (upd_same (H := H3) (a := sl) (o := .lst []))
    refine ⟨d, rfl, by omega, by omega, for_range (lo := 0) (n := d.toNat) (fun i σ H' => (∃ z5 z11 : Option V, σ = [some (.ref a0), some (.ref p), some (.ref kl), some (.ref q), some (.ref sl), z5, none, none, none, none, none, z11, none, none, none, none, none, none, none]) ∧
        ∃ (us : List V) (qs : List Q4), H' sl = some (.lst us) ∧ Tps H' us (qs.map q4x) ∧ qs.length = i ∧ (∀ y ∈ qs, y.ok ps) ∧ Pen H' p c (2 ^ 20 + 10 * (d.toNat - i)) ∧ Kp p H3 H' ∧ H' kl = some (.lst rs))
      ⟨⟨_, _, rfl⟩, [], [], e4, ⟨rfl, fun j v h => by simp at h⟩, rfl, fun y h => by simp at h, P4.mono (by omega), k4, hk4⟩ ?_ ?_⟩
    · rintro i σ H5 hi ⟨⟨z5, z11, rfl⟩, us, qs, e5, ht, hql, hok, P5, k5, hk5⟩
      have eb : 2 ^ 20 + 10 * (d.toNat - i) = 2 ^ 20 + 10 * (d.toNat - (i + 1)) + 9 + 1 := by omega
      rw [eb] at P5
      have hrs5 := hrs3.keep (k5.tk P3)
      refine ⟨_, rfl, _, rfl, _, rfl, _, rs.length, rfl, .inl ⟨rs, SqL.of hk5, rfl⟩, p, c, (rs.length : Int), 2 ^ 20 + 10 * (d.toNat - (i + 1)) + 9, rfl, by omega, ?_, P5, fun d6 H6 a6 b6 P6 s6 => ?_⟩
      · exact Nat.lt_of_le_of_lt (Nat.log2_le_self _) (by omega)
      obtain ⟨r, n, kd2, h1, h2, h3⟩ := kinds_at hrs5 a6 b6
      have hk6 := s6.at nkp hk5
      have h26 := s6.at (P5.ne h2 (fun _ z => by cases z)) h2
      have e6 := s6.at nslp e5
      refine ⟨kl, _, _, _, rfl, rfl, SqL.of hk6, h1, r, _, _, _, rfl, rfl, SqT.of h26, rfl, ?_⟩
      refine ⟨_, rfl, .inl ⟨rfl, us, SqL.of e6⟩, _, rfl, _, rfl, p, c, 2 ^ 20 + 10 * (d.toNat - (i + 1)) + 7, rfl, P6, fun x1 H7 bx1 P7 s7 => ⟨_, rfl, p, c, 2 ^ 20 + 10 * (d.toNat - (i + 1)) + 5, rfl, P7, fun x2 H8 bx2 P8 s8 => ⟨_, rfl, p, c, 2 ^ 20 + 10 * (d.toNat - (i + 1)) + 3, rfl, P8, fun x3 H9 bx3 P9 s9 => ⟨sz 4 (by decide), fun t ht9 => ?_⟩⟩⟩⟩
      have sv : Sav p H5 (upd H9 t (.tup [.str n, .int x1, .int x2, .int x3])) := s6.trans (s7.trans (s8.trans (s9.trans (Sav.new ht9))))
      have e9 := sv.at nslp e5
      refine ⟨sl, us, .ref t, rfl, rfl, e9, by rw [ht.1, List.length_map, hql, sizeLine_eq]; omega, ?_⟩
      have ntl : t ≠ sl := fun z => by
        have := (s9.at nslp (s8.at nslp (s7.at nslp e6)))
        rw [z, this] at ht9
        cases ht9
      have kq : Kp p H5 (upd (upd H9 t (.tup [.str n, .int x1, .int x2, .int x3])) sl (.lst (us ++ [.ref t]))) := sv.kp.trans (Kp.lst e9)
      refine ⟨⟨_, _, rfl⟩, us ++ [.ref t], qs ++ [⟨n, x1, x2, x3⟩], upd_same, (ht.keep (kq.tk P5)).app (by rw [upd_ne ntl, upd_same]; rfl), by rw [List.length_append, hql]; rfl, fun y hy => ?_, ?_, k5.trans kq, ?_⟩
      · rcases List.mem_append.mp hy with hy | hy
        · exact hok y hy
        · obtain rfl := List.mem_singleton.mp hy
          exact ⟨h3, bx1, bx2, bx3⟩
      · exact ((P9.mono (by omega)).new ht9).mut nslp nslc
      · rw [upd_ne nslk]
        exact sv.at nkp hk5
    · rintro σ H5 ⟨⟨z5, z11, rfl⟩, us, qs, e5, ht, hql, hok, P5, k5, hk5⟩
      have few : qs.length ≤ 8 := by omega
      have S5 := S3.kp P3 ntd k5
      have hrs5 := hrs3.keep (k5.tk P3)
      have ul : us.length = qs.length := by rw [ht.1, List.length_map]
      have P5 := P5.mono (b' := 2 ^ 20) (by omega)
      clear k4 hk4 e4 P4 s4 S3 P3 hk3 hrs3 k5 hsl s1 P1 s2
      -- given
      refine ⟨_, rfl, sl, rfl, ⟨_, SqL.of e5⟩, fun gl hgl => lc_list (xs := us) (fun i H' => Pen H' p c (2 ^ 19 + (us.length - i)) ∧ Kp p H5 H' ∧ H' kl = some (.lst rs) ∧ H' sl = some (.lst us) ∧ ∃ gs, H' gl = some (.lst gs) ∧ GI H' [gl, sl, kl, c] gs (qs.take i))
        ⟨(P5.new hgl).mono (by omega), Same.kp (Same.new hgl), upd_old hgl hk5, upd_old hgl e5, [], upd_same, rfl, fun j v h => by simp at h⟩ (fun i H' _ z => SqL.of z.2.2.2.1) ?_ ?_⟩
      · rintro i v H' hi ⟨P', k', hk', e', gs, eg, gi⟩
        obtain ⟨r, x, rfl, hx, hr5⟩ := ht.2 i v hi
        rw [List.getElem?_map] at hx
        cases hq : qs[i]? with
        | none => rw [hq] at hx; cases hx
        | some y =>
          rw [hq] at hx
          cases hx
          have hr' : H' r = some (.tup y.vs) := k'.tk P5 _ _ hr5
          have hi2 : i < us.length := (List.getElem?_eq_some_iff.mp hi).1
          have ngp := P5.fresh_ne hgl
          have ngc := P5.fresh_ne2 hgl
          have nkg : kl ≠ gl := ne_of_none hk5 hgl
          have nsg : sl ≠ gl := ne_of_none e5 hgl
          have gl2 : gs.length < sizeLine := by rw [gi.1, List.length_take, sizeLine_eq]; omega
          rw [show 2 ^ 19 + (us.length - i) = 2 ^ 19 + (us.length - (i + 1)) + 1 by omega] at P'
          refine ⟨rfl, ?_⟩
          refine ⟨_, rfl, p, c, 2, 2 ^ 19 + (us.length - (i + 1)), rfl, by decide, by decide +kernel, P', fun d6 H6 a6 b6 P6 s6 => ⟨rfl, _, rfl, ?_⟩⟩
          have eg6 := s6.at ngp eg
          have hk6 := s6.at nkp hk'
          have e6 := s6.at nslp e'
          have hr6 := s6.at (P'.ne hr' fun _ z => by cases z) hr'
          have gi6 := gi.keep (s6.gk P')
          rw [List.take_succ, hq]
          refine ite2 (fun _ => ?_) (fun _ => ?_)
          · refine ⟨_, rfl, r, _, rfl, .inr (SqT.of hr6), fun l hl => ⟨gs, upd_old hl eg6, gl2, ((P6.new hl).mut ngp ngc), k'.trans (s6.kp.trans ((Same.kp (Same.new hl)).trans (Kp.lst (upd_old hl eg6)))), by rw [upd_ne nkg]; exact upd_old hl hk6, by rw [upd_ne nsg]; exact upd_old hl e6, gs ++ [.ref l], upd_same, ?_⟩⟩
            have nlg : l ≠ gl := (ne_of_none eg6 hl).symm
            have nls : l ≠ sl := (ne_of_none e6 hl).symm
            have nlk : l ≠ kl := (ne_of_none hk6 hl).symm
            have nlc := P6.fresh_ne2 hl
            refine (gi6.keep ((Same.gk (Same.new hl)).trans (GK.upd (List.mem_cons_self ..) (upd_old hl eg6)))).snoc (.inr ⟨by rw [upd_ne nlg, upd_same], fun b hb => ?_⟩)
            simp at hb
            rcases hb with rfl | rfl | rfl | rfl <;> assumption
          · refine ⟨_, rfl, gs, eg6, gl2, P6.mut ngp ngc, k'.trans (s6.kp.trans (Kp.lst eg6)), by rw [upd_ne nkg]; exact hk6, by rw [upd_ne nsg]; exact e6, gs ++ [.ref r], upd_same, ?_⟩
            have nrg : r ≠ gl := ne_of hr6 eg6 (by intro z; cases z)
            exact (gi6.keep (GK.upd (List.mem_cons_self ..) eg6)).snoc (.inl (by rw [upd_ne nrg]; exact hr6))
      · rintro H6 ⟨P6, k6, hk6, e6, gs, eg, gi⟩
        rw [ul, List.take_length] at gi
        have ngp := P5.fresh_ne hgl
        have ngc := P5.fresh_ne2 hgl
        have nkg : kl ≠ gl := ne_of_none hk5 hgl
        have nsg : sl ≠ gl := ne_of_none e5 hgl
        have S6 := S5.kp P5 ntd k6
        have ht6 := ht.keep (k6.tk P5)
        have hrs6 := hrs5.keep (k6.tk P5)
        have P6 := P6.mono (b' := 2 ^ 19) (by omega)
        have gll := gi.1
        clear k6 S5 hgl ht hrs5 e5 hk5 P5
        -- the pattern
        refine ⟨_, rfl, _, rfl, ?_⟩
        intro x dx2 nx nd ne
        have s0 := made0 (o := .own x) (u := .ins C_Pattern dx2 []) nx nd
        refine ⟨x, dx2, q, td, gl, ps, qs.map q4x, rfl, upd_same, S6.old s0, ⟨gs, s0 _ _ eg, by rw [List.length_map]; exact gll, fun i v h => ?_⟩, by rw [List.length_map]; omega, .inl ⟨qs, rfl, fun y hy => (hok y hy).1, fun t H7 kp hp ht htd => ⟨rfl, ?_⟩⟩⟩
        · obtain ⟨r, y, h1, h2, h3⟩ := gi.2 i v h
          exact ⟨r, q4x y, h1, by rw [List.getElem?_map, h2]; rfl, h3.imp (fun e => s0 _ _ e) fun e => s0 _ _ e.1⟩
        have s7 : L2.Same H6 H7 := Same.made nx nd kp
        have PA : PatAt C_Scales C_Pattern H7 x q td ps qs := ⟨⟨dx2, t, hp, htd⟩, S6.old s7, fun y hy => (hok y hy).1, by omega, fun y hy => by
          obtain ⟨_, h1, h2, h3⟩ := hok y hy
          exact ⟨Nat.lt_of_lt_of_le h1 (by decide), Nat.lt_of_lt_of_le h2 (by decide), Nat.lt_of_lt_of_le h3 (by decide)⟩⟩
        have P7 := P6.old s7
        have hk7 := s7 _ _ hk6
        have e7 := s7 _ _ e6
        have eg7 := s7 _ _ eg
        have gi7 := gi.keep (Same.gk s7)
        have ht7 := ht6.keep (Same.tk s7)
        have hrs7 := hrs6.keep (Same.tk s7)
        clear s0 kp ht htd hp nx nd ne s7 S6 ht6 hrs6 P6 hk6 e6 eg gi
        -- given grows
        refine ⟨_, rfl, .inl ⟨rfl, gs, SqL.of eg7⟩, sz 4 (by decide), fun t ht => ⟨gl, gs, .ref t, rfl, rfl, upd_old ht eg7, by rw [gll, sizeLine_eq]; omega, ?_⟩⟩
        have k8 : Kp p H7 (upd (upd H7 t (.tup [.str "zz", .int 1, .int 1, .int 1])) gl (.lst (gs ++ [.ref t]))) := (Same.kp (Same.new ht)).trans (Kp.lst (upd_old ht eg7))
        have ntg : t ≠ gl := (ne_of_none eg7 ht).symm
        have gj8 : GJ (upd (upd H7 t (.tup [.str "zz", .int 1, .int 1, .int 1])) gl (.lst (gs ++ [.ref t]))) [gl, sl, kl, c] (gs ++ [.ref t]) := fun j v h => by
          have gk := gi7.keep ((Same.gk (Same.new ht)).trans (GK.upd (o := .lst (gs ++ [.ref t])) (List.mem_cons_self ..) (upd_old (u := .tup [.str "zz", .int 1, .int 1, .int 1]) ht eg7)))
          by_cases hj : j < gs.length
          · rw [List.getElem?_append_left hj] at h
            obtain ⟨r, y, h1, h2, h3⟩ := gk.2 j v h
            exact ⟨r, h1, h3.imp (fun e => ⟨_, e⟩) fun e => ⟨⟨_, e.1, rfl⟩, e.2⟩⟩
          · rw [List.getElem?_append_right (by omega)] at h
            have h1 : j - gs.length < 1 := (List.getElem?_eq_some_iff.mp h).1
            rw [show j - gs.length = 0 by omega] at h
            cases h
            exact ⟨t, rfl, .inl ⟨_, by rw [upd_ne ntg, upd_same]⟩⟩
        have P8 : Pen (upd (upd H7 t (.tup [.str "zz", .int 1, .int 1, .int 1])) gl (.lst (gs ++ [.ref t]))) p c (2 ^ 19) := (P7.new ht).mut ngp ngc
        have eg8 : (upd (upd H7 t (.tup [.str "zz", .int 1, .int 1, .int 1])) gl (.lst (gs ++ [.ref t]))) gl = some (.lst (gs ++ [.ref t])) := upd_same
        have hk8 : (upd (upd H7 t (.tup [.str "zz", .int 1, .int 1, .int 1])) gl (.lst (gs ++ [.ref t]))) kl = some (.lst rs) := by rw [upd_ne nkg]; exact upd_old ht hk7
        have e8 : (upd (upd H7 t (.tup [.str "zz", .int 1, .int 1, .int 1])) gl (.lst (gs ++ [.ref t]))) sl = some (.lst us) := by rw [upd_ne nsg]; exact upd_old ht e7
        have G8 : ∃ H8 : Hp, H8 = upd (upd H7 t (.tup [.str "zz", .int 1, .int 1, .int 1])) gl (.lst (gs ++ [.ref t])) := ⟨_, rfl⟩
        obtain ⟨H8, g8⟩ := G8
        rw [← g8] at k8 gj8 P8 eg8 hk8 e8 ⊢
        clear g8 ntg ht gi7 eg7 hk7 e7
        generalize gs ++ [V.ref t] = fs at gj8 eg8
        -- its lists are changed
        refine ⟨_, rfl, gl, rfl, ⟨_, SqL.of eg8⟩, for_list (K := K) (a := gl) (xs := fs) (fun i σ H' => (∃ z5 z8 z11 : Option V, σ = [some (.ref a0), some (.ref p), some (.ref kl), some (.ref q), some (.ref sl), z5, some (.ref gl), some (.ref x), z8, none, none, z11, none, none, none, none, none, none, none]) ∧
            Pen H' p c (2 ^ 19) ∧ Kp p H7 H' ∧ H' gl = some (.lst fs) ∧ H' kl = some (.lst rs) ∧ H' sl = some (.lst us) ∧ GJ H' [gl, sl, kl, c] fs) ⟨⟨_, _, _, rfl⟩, P8, k8, eg8, hk8, e8, gj8⟩ (fun i σ H' _ z => SqL.of z.2.2.2.1) ?_ ?_⟩
        · rintro i v σ H' hi ⟨⟨z5, z8, z11, rfl⟩, P', k', eg', hk', e', gj⟩
          obtain ⟨r, rfl, hr⟩ := gj i v hi
          rcases hr with ⟨ys, hr⟩ | ⟨⟨ys, hr, hy4⟩, hne⟩
          · exact ⟨_, rfl, _, _, _, _, false, rfl, .ty _, .base (.tup hr), kit_ty (show kitB "tuple" "list" = some false by decide +kernel), _, rfl, iteF ⟨⟨_, _, _, rfl⟩, P', k', eg', hk', e', gj⟩⟩
          · refine ⟨_, rfl, _, _, _, _, true, rfl, .ty _, .base (.lst hr), kit_ty (show kitB "list" "list" = some true by decide +kernel), _, rfl, iteT ?_⟩
            have i3 : ixN ys.length 3 = some 3 := by rw [hy4]; rfl
            refine ⟨_, rfl, r, ys, 3, 3, rfl, rfl, hr, i3, ?_⟩
            have n1 : r ≠ gl := hne gl (by simp)
            have n2 : r ≠ sl := hne sl (by simp)
            have n3 : r ≠ kl := hne kl (by simp)
            have n4 : r ≠ c := hne c (by simp)
            refine ⟨⟨_, _, _, rfl⟩, P'.mut (P'.ne hr fun _ z => by cases z) n4, k'.trans (Kp.lst hr), by rw [upd_ne n1.symm]; exact eg', by rw [upd_ne n3.symm]; exact hk', by rw [upd_ne n2.symm]; exact e', fun j v h => ?_⟩
            obtain ⟨r2, rfl, h2⟩ := gj j v h
            refine ⟨r2, rfl, ?_⟩
            rcases h2 with ⟨zs, h2⟩ | ⟨⟨zs, h2, hz4⟩, h3⟩
            · exact .inl ⟨zs, by rw [upd_ne (ne_of h2 hr (by intro z; cases z))]; exact h2⟩
            · refine .inr ⟨?_, h3⟩
              by_cases hrr : r2 = r
              · exact ⟨_, by rw [hrr, upd_same], by rw [List.length_set]; exact hy4⟩
              · exact ⟨zs, by rw [upd_ne hrr]; exact h2, hz4⟩
        · rintro σ H9 ⟨⟨z5, z8, z11, rfl⟩, P9, k9, _, hk9, e9, _⟩
          have PA9 : PatAt C_Scales C_Pattern H9 x q td ps qs := by
            obtain ⟨dxp, tp, h1, h2⟩ := PA.ex
            exact ⟨⟨dxp, tp, k9.ins P7 h1, h2.keep (k9.tk P7)⟩, PA.sc.kp P7 ntd k9, PA.nm, PA.few, PA.bd⟩
          have ht9 := ht7.keep (k9.tk P7)
          clear k9 PA P7 P8 k8 gj8 eg8 hk8 e8 ht7 hrs7 hk9
          obtain ⟨dxp, tp, hp1, hp2⟩ := PA9.ex
          have pa : ∀ {H' : Hp}, Sav p H9 H' → PatAt C_Scales C_Pattern H' x q td ps qs ∧ H' x = some (.ins C_Pattern dxp (flR q tp)) := fun s => by
            have h1 := s.at (P9.ne hp1 fun _ z => by cases z) hp1
            exact ⟨⟨⟨dxp, tp, h1, hp2.keep (s.kp.tk P9)⟩, PA9.sc.kp P9 ntd s.kp, PA9.nm, PA9.few, PA9.bd⟩, h1⟩
          refine ⟨_, rfl, by decide, by decide, for_range (lo := 0) (n := 8) (fun i σ H' => (∃ z5 z8 z11 z12 z13 z14 z15 : Option V, σ = [some (.ref a0), some (.ref p), some (.ref kl), some (.ref q), some (.ref sl), z5, some (.ref gl), some (.ref x), z8, none, none, z11, z12, z13, z14, z15, none, none, none]) ∧ Pen H' p c (2 ^ 18 + 10 * (8 - i)) ∧ Sav p H9 H')
            ⟨⟨_, _, _, _, _, _, _, rfl⟩, P9.mono (by decide), Sav.refl _ _⟩ ?_ ?_⟩
          · rintro i σ H10 hi ⟨⟨z5, z8, z11, z12, z13, z14, z15, rfl⟩, P10, s10⟩
            rw [show 2 ^ 18 + 10 * (8 - i) = 2 ^ 18 + 10 * (8 - (i + 1)) + 10 by omega] at P10
            generalize 2 ^ 18 + 10 * (8 - (i + 1)) = n0 at P10
            refine ⟨_, rfl, p, c, n0 + 8, rfl, P10, fun x1 H11 bx1 P11 s11 => ⟨_, rfl, p, c, 3, n0 + 7, rfl, by decide, by decide +kernel, P11, fun d1 H12 a12 b12 P12 s12 => ⟨_, _, rfl, rfl, ?_⟩⟩⟩
            refine ⟨_, rfl, p, c, n0 + 5, rfl, P12, fun x2 H13 bx2 P13 s13 => ⟨_, rfl, p, c, 3, n0 + 4, rfl, by decide, by decide +kernel, P13, fun d2 H14 a14 b14 P14 s14 => ⟨_, _, rfl, rfl, sz 2 (by decide), fun t ht => ⟨t, _, rfl, SqT.of upd_same, rfl, _, _, rfl, _, _, rfl, rfl, ?_⟩⟩⟩⟩
            have bm : (x1 + d1).natAbs < 2 ^ 200 := Nat.lt_of_lt_of_le (show (x1 + d1).natAbs < 2 ^ 140 + 3 by omega) (by decide)
            have bn : (x2 - d2).natAbs < 2 ^ 200 := Nat.lt_of_lt_of_le (show (x2 - d2).natAbs < 2 ^ 140 + 3 by omega) (by decide)
            have P15 := (P14.new (o := .tup [.int (x1 + d1), .int (x2 - d2)]) ht).mono (b' := n0) (by omega)
            have s15 : Sav p H9 (upd H14 t (.tup [.int (x1 + d1), .int (x2 - d2)])) := s10.trans (s11.trans (s12.trans (s13.trans (s14.trans (Sav.new ht)))))
            have G15 : ∃ H15 : Hp, H15 = upd H14 t (.tup [.int (x1 + d1), .int (x2 - d2)]) := ⟨_, rfl⟩
            obtain ⟨H15, g15⟩ := G15
            rw [← g15] at P15 s15 ⊢
            clear g15 ht P10 P11 P12 P13 P14 s10 s11 s12 s13 s14 bx1 bx2 a12 b12 a14 b14
            -- due

            refine ⟨_, rfl, sl, rfl, ⟨_, SqL.of (s15.at nslp e9)⟩, fun D hD => lc_list (xs := us) (fun i H' => L2.Same H15 H' ∧ ∃ ws, H' D = some (.lst ws) ∧ TdAll H' ws ((at4 (qs.take i) (x1 + d1) (x2 - d2)).map Datum.toD)) ⟨Same.new hD, [], upd_same, .nil⟩ (fun i H' _ z => SqL.of (z.1 _ _ (s15.at nslp e9))) ?_ ?_⟩
            · rintro i v H' hi ⟨s', ws, ew, hw⟩
              obtain ⟨r, y4, rfl, hx, hr5⟩ := ht9.2 i v hi
              rw [List.getElem?_map] at hx
              cases hq : qs[i]? with
              | none => rw [hq] at hx; cases hx
              | some y =>
                rw [hq] at hx
                cases hx
                have hr' := s' _ _ (s15.at (P9.ne hr5 fun _ z => by cases z) hr5)
                obtain ⟨_, ya, yb, yc⟩ := hok y (List.mem_of_getElem? hq)
                have hi2 : i < qs.length := (List.getElem?_eq_some_iff.mp hq).1
                have wl : ws.length ≤ i := by rw [hw.len, List.length_map]; unfold at4; rw [List.length_map, List.length_take]; omega
                refine ⟨r, _, rfl, SqT.of hr', rfl, _, _, rfl, _, _, rfl, _, _, rfl, _, _, rfl, rfl, rfl, ?_⟩
                refine ⟨_, rfl, _, rfl, _, rfl, _, _, rfl, rfl, wide_mul ya bm (by decide) (by decide) (by decide), _, rfl, _, rfl, _, _, rfl, rfl, wide_mul yb bn (by decide) (by decide) (by decide), _, _, rfl, rfl, _, rfl, _, _, rfl, rfl, sz 2 (by decide), fun g hg => ⟨ws, upd_old hg ew, by rw [sizeLine_eq]; omega, Same.mut (L2.Same.trans s' (Same.new hg)) hD, ws ++ [.ref g], upd_same, ?_⟩⟩
                have ng : g ≠ D := (ne_of_none ew hg).symm
                have e3 : at4 (qs.take (i + 1)) (x1 + d1) (x2 - d2) = at4 (qs.take i) (x1 + d1) (x2 - d2) ++ [(y.n, y.a * (x1 + d1) + y.b * (x2 - d2) + y.c)] := by
                  unfold at4
                  rw [List.take_succ, hq, List.map_append]
                  rfl
                rw [e3, List.map_append]
                exact (hw.keep (fun b xs hb => by
                  rw [upd_ne (ne_of hb ew (by intro z; cases z))]
                  exact upd_old hg hb)).snoc (step_td (by rw [upd_ne ng, upd_same]; rfl))
            · rintro H' ⟨s', ws, ew, hw⟩
              rw [ul, List.take_length] at hw
              refine ⟨D, at4 qs (x1 + d1) (x2 - d2), rfl, ⟨ws, ew, hw⟩, by unfold at4; rw [List.length_map]; omega, fun D2 H'' s'' st hD2 => ?_⟩
              obtain ⟨vs2, ev2, hv2⟩ := st.ex
              refine ⟨D2, _, rfl, .inl ⟨SqL.of ev2, fun thdue ht => ?_⟩⟩
              have shdue : L2.Same H15 (upd H'' thdue (.tup vs2)) := s'.trans (s''.trans (Same.new ht))
              have hdue : Td (upd H'' thdue (.tup vs2)) (.ref thdue) (Datum.toD (Tup.mk (nrm (at4 qs (x1 + d1) (x2 - d2))))) := .tup upd_same (hv2.keep (Same.tk (Same.new ht)))
              have G : ∃ HX : Hp, HX = upd H'' thdue (.tup vs2) := ⟨_, rfl⟩
              obtain ⟨HXhdue, gX⟩ := G
              rw [← gX] at shdue hdue ⊢
              clear gX ht ev2 hv2 st s'' ew hw s' hD2 hD
              have s16 := s15.trans (Same.sav shdue)
              have P16 := P15.old shdue
              -- alone

              refine ⟨_, rfl, sl, rfl, ⟨_, SqL.of (s16.at nslp e9)⟩, fun D hD => lc_list (xs := us) (fun i H' => L2.Same HXhdue H' ∧ ∃ ws, H' D = some (.lst ws) ∧ TdAll H' ws ((at4 (qs.take i) (x1 + d1) 0).map Datum.toD)) ⟨Same.new hD, [], upd_same, .nil⟩ (fun i H' _ z => SqL.of (z.1 _ _ (s16.at nslp e9))) ?_ ?_⟩
              · rintro i v H' hi ⟨s', ws, ew, hw⟩
                obtain ⟨r, y4, rfl, hx, hr5⟩ := ht9.2 i v hi
                rw [List.getElem?_map] at hx
                cases hq : qs[i]? with
                | none => rw [hq] at hx; cases hx
                | some y =>
                  rw [hq] at hx
                  cases hx
                  have hr' := s' _ _ (s16.at (P9.ne hr5 fun _ z => by cases z) hr5)
                  obtain ⟨_, ya, yb, yc⟩ := hok y (List.mem_of_getElem? hq)
                  have hi2 : i < qs.length := (List.getElem?_eq_some_iff.mp hq).1
                  have wl : ws.length ≤ i := by rw [hw.len, List.length_map]; unfold at4; rw [List.length_map, List.length_take]; omega
                  refine ⟨r, _, rfl, SqT.of hr', rfl, _, _, rfl, _, _, rfl, _, _, rfl, _, _, rfl, rfl, rfl, ?_⟩
                  refine ⟨_, rfl, _, rfl, _, rfl, _, _, rfl, rfl, wide_mul ya bm (by decide) (by decide) (by decide), _, rfl, _, _, rfl, rfl, sz 2 (by decide), fun g hg => ⟨ws, upd_old hg ew, by rw [sizeLine_eq]; omega, Same.mut (L2.Same.trans s' (Same.new hg)) hD, ws ++ [.ref g], upd_same, ?_⟩⟩
                  have ng : g ≠ D := (ne_of_none ew hg).symm
                  have e3 : at4 (qs.take (i + 1)) (x1 + d1) 0 = at4 (qs.take i) (x1 + d1) 0 ++ [(y.n, y.a * (x1 + d1) + y.b * 0 + y.c)] := by
                    unfold at4
                    rw [List.take_succ, hq, List.map_append]
                    rfl
                  rw [e3, List.map_append]
                  exact (hw.keep (fun b xs hb => by
                    rw [upd_ne (ne_of hb ew (by intro z; cases z))]
                    exact upd_old hg hb)).snoc (step_td (by rw [upd_ne ng, upd_same]; show some (HO.tup [V.str y.n, V.int (y.a * (x1 + d1) + y.c)]) = _; rw [Int.mul_zero, Int.add_zero]))
              · rintro H' ⟨s', ws, ew, hw⟩
                rw [ul, List.take_length] at hw
                refine ⟨D, at4 qs (x1 + d1) 0, rfl, ⟨ws, ew, hw⟩, by unfold at4; rw [List.length_map]; omega, fun D2 H'' s'' st hD2 => ?_⟩
                obtain ⟨vs2, ev2, hv2⟩ := st.ex
                refine ⟨D2, _, rfl, .inl ⟨SqL.of ev2, fun thalo ht => ?_⟩⟩
                have shalo : L2.Same HXhdue (upd H'' thalo (.tup vs2)) := s'.trans (s''.trans (Same.new ht))
                have halo : Td (upd H'' thalo (.tup vs2)) (.ref thalo) (Datum.toD (Tup.mk (nrm (at4 qs (x1 + d1) 0)))) := .tup upd_same (hv2.keep (Same.tk (Same.new ht)))
                have G : ∃ HX : Hp, HX = upd H'' thalo (.tup vs2) := ⟨_, rfl⟩
                obtain ⟨HXhalo, gX⟩ := G
                rw [← gX] at shalo halo ⊢
                clear gX ht ev2 hv2 st s'' ew hw s' hD2 hD
                have w0 := s16.trans (Same.sav shalo)
                have v0 := L2.Same.refl HXhalo
                have P17 := P16.old shalo
                have hdue17 := hdue.keep (Same.tk shalo)
                clear P16 s16 P15 s15 shdue shalo hdue
                refine ⟨fun σ' H' => (∃ z5 z8 z11 z12 : Option V, σ' = [some (.ref a0), some (.ref p), some (.ref kl), some (.ref q), some (.ref sl), z5, some (.ref gl), some (.ref x), z8, none, none, z11, z12, some (.ref thalo), some (.int (x1 + d1)), some (.int (x2 - d2)), none, none, none]) ∧ L2.Same HXhalo H', ?_, ?_⟩
                · refine ⟨_, rfl, x, dxp, _, rfl, (pa w0).2, fl_at _ _, _, rfl, _, rfl, x, q, td, ps, qs, (x1 + d1), (x2 - d2), rfl, (pa w0).1, bm, bn, fun y1 Hy1 sy1 ny1 RW1 => ?_⟩
                  obtain ⟨dr1, tr1, g1, h1⟩ := RW1.ex
                  have w1 := w0.trans (Same.sav sy1)
                  have v1 := v0.trans sy1
                  refine ⟨y1, C_Row, dr1, _, _, rfl, g1, TR.c_Row, TR.n2, fl_steps _ _, _, rfl, Tup.mk (nrm (at4 qs (x1 + d1) (x2 - d2))), Tup.mk (nrm (at4 qs (x1 + d1) (x2 - d2))), h1.dp, (hdue17.keep (Same.tk v1)).dp, _, rfl, ?_⟩
                  rw [decide_eq_true rfl]
                  refine iteF ⟨_, rfl, x, rfl, _, rfl, _, rfl, .inr ⟨_, _, (pa w1).2⟩, x, q, td, ps, qs, (x1 + d1), (x2 - d2), rfl, (pa w1).1, bm, bn, fun y2 Hy2 sy2 ny2 RW2 => ?_⟩
                  obtain ⟨dr2, tr2, g2, h2⟩ := RW2.ex
                  have w2 := w1.trans (Same.sav sy2)
                  have v2 := v1.trans sy2
                  refine ⟨y2, C_Row, dr2, _, _, rfl, g2, TR.c_Row, TR.n2, fl_steps _ _, _, rfl, Tup.mk (nrm (at4 qs (x1 + d1) (x2 - d2))), Tup.mk (nrm (at4 qs (x1 + d1) (x2 - d2))), h2.dp, (hdue17.keep (Same.tk v2)).dp, _, rfl, ?_⟩
                  rw [decide_eq_true rfl]
                  refine iteF ⟨_, rfl, x, dxp, _, rfl, (pa w2).2, fl_at _ _, _, rfl, _, rfl, x, q, td, ps, qs, (x1 + d1), (x2 - d2), rfl, (pa w2).1, bm, bn, fun y3 Hy3 sy3 ny3 RW3 => ?_⟩
                  obtain ⟨dr3, tr3, g3, h3⟩ := RW3.ex
                  have w3 := w2.trans (Same.sav sy3)
                  have Sc := (pa w3).1.sc
                  obtain ⟨dxs, _, _, gq, _⟩ := id Sc.ex
                  refine ⟨y3, C_Row, dr3, _, _, rfl, g3, TR.c_Row, TR.n1, fl_scales _ _, _, rfl, q, dxs, _, .ref C_Scales, rfl, gq, TS.i_Scales.ty gq, T.f_self, q, td, q, td, ps, ps, rfl, Sc, Sc, _, rfl, _, rfl, ?_⟩
                  rw [decide_eq_true rfl]
                  exact iteF ⟨⟨_, _, _, _, rfl⟩, v2.trans sy3⟩
                · rintro σ' HA ⟨⟨z5, z8, z11, z12, rfl⟩, sA⟩
                  have w0 := w0.trans (Same.sav sA)
                  have P18 := P17.old sA
                  have halo := halo.keep (Same.tk sA)
                  have v0 := L2.Same.refl HA
                  refine ⟨_, rfl, x, dxp, _, rfl, (pa w0).2, fl_at _ _, _, rfl, x, q, td, ps, qs, (x1 + d1), 0, rfl, (pa w0).1, bm, by decide, fun y1 Hy1 sy1 ny1 RW1 => ?_⟩
                  obtain ⟨dr1, tr1, g1, h1⟩ := RW1.ex
                  have w1 := w0.trans (Same.sav sy1)
                  have v1 := v0.trans sy1
                  refine ⟨y1, C_Row, dr1, _, _, rfl, g1, TR.c_Row, TR.n2, fl_steps _ _, _, rfl, Tup.mk (nrm (at4 qs (x1 + d1) 0)), Tup.mk (nrm (at4 qs (x1 + d1) 0)), h1.dp, (halo.keep (Same.tk v1)).dp, _, rfl, ?_⟩
                  rw [decide_eq_true rfl]
                  refine iteF ⟨_, rfl, x, rfl, _, rfl, .inr ⟨_, _, (pa w1).2⟩, x, q, td, ps, qs, (x1 + d1), 0, rfl, (pa w1).1, bm, by decide, fun y2 Hy2 sy2 ny2 RW2 => ?_⟩
                  obtain ⟨dr2, tr2, g2, h2⟩ := RW2.ex
                  have w2 := w1.trans (Same.sav sy2)
                  have v2 := v1.trans sy2
                  refine ⟨y2, C_Row, dr2, _, _, rfl, g2, TR.c_Row, TR.n2, fl_steps _ _, _, rfl, Tup.mk (nrm (at4 qs (x1 + d1) 0)), Tup.mk (nrm (at4 qs (x1 + d1) 0)), h2.dp, (halo.keep (Same.tk v2)).dp, _, rfl, ?_⟩
                  rw [decide_eq_true rfl]
                  refine iteF ⟨_, rfl, x, dxp, _, rfl, (pa w2).2, fl_at _ _, _, rfl, x, q, td, ps, qs, (x1 + d1), 0, rfl, (pa w2).1, bm, by decide, fun y3 Hy3 sy3 ny3 RW3 => ?_⟩
                  obtain ⟨dr3, tr3, g3, h3⟩ := RW3.ex
                  have w3 := w2.trans (Same.sav sy3)
                  have v3 := v2.trans sy3
                  refine ⟨y3, C_Row, dr3, _, _, rfl, g3, TR.c_Row, TR.n2, fl_steps _ _, _, rfl, Tup.mk (nrm (at4 qs (x1 + d1) 0)), Tup.mk (nrm (at4 qs (x1 + d1) 0)), h3.dp, (halo.keep (Same.tk v3)).dp, _, rfl, ?_⟩
                  rw [decide_eq_true rfl]
                  exact iteF ⟨⟨_, _, _, _, _, _, _, rfl⟩, P18.old v3, w3⟩
          · rintro σ HZ ⟨⟨z5, z8, z11, z12, z13, z14, z15, rfl⟩, PZ, sZ⟩
            have SE := pa sZ
            have eZ := sZ.at nslp e9
            -- what is tried
            refine ⟨sz 1 (by decide), fun o1 ho1 => ?_⟩
            intro o2 ho2
            refine ⟨upd_same, [(.inr "a", .int 1)], rfl, by show 1 ≤ 15; decide, sz 6 (by decide), fun o3 ho3 => ?_⟩
            have hA : (upd (upd (upd HZ o1 (.lst [.str "a"])) o2 (.dK [])) o2 (.dK (mergeK [] [(Sum.inr "a", V.int 1)]))) o1 = some (.lst [.str "a"]) := by
              have n1 : o1 ≠ o2 := ne_of_none upd_same ho2
              rw [upd_ne n1, upd_ne n1, upd_same]
            have hB : (upd (upd (upd HZ o1 (.lst [.str "a"])) o2 (.dK [])) o2 (.dK (mergeK [] [(Sum.inr "a", V.int 1)]))) o2 = some (.dK [(.inr "a", .int 1)]) := by
              rw [upd_same]
              rfl
            have sB : L2.Same HZ (upd (upd (upd HZ o1 (.lst [.str "a"])) o2 (.dK [])) o2 (.dK (mergeK [] [(Sum.inr "a", V.int 1)]))) := fun b o h => by
              have h1 := upd_old (u := .lst [.str "a"]) ho1 h
              have n2 : b ≠ o2 := ne_of_none h1 ho2
              rw [upd_ne n2, upd_ne n2]
              exact h1
            have GB : ∃ HB : Hp, HB = upd (upd (upd HZ o1 (.lst [.str "a"])) o2 (.dK [])) o2 (.dK (mergeK [] [(Sum.inr "a", V.int 1)])) := ⟨_, rfl⟩
            obtain ⟨HB, gB⟩ := GB
            rw [← gB] at hA hB sB ho3 ⊢
            clear gB ho1 ho2
            have hA := upd_old (u := .lst [.str "zz", .int 5, .str "", .non, .ref o1, .ref o2]) ho3 hA
            have hB := upd_old (u := .lst [.str "zz", .int 5, .str "", .non, .ref o1, .ref o2]) ho3 hB
            have sB := L2.Same.trans sB (Same.new (o := .lst [.str "zz", .int 5, .str "", .non, .ref o1, .ref o2]) ho3)
            have PB := PZ.old sB
            refine ⟨_, rfl, p, c, 6, 2 ^ 17, rfl, by decide, by decide +kernel, PB.mono (by decide), fun d HC aC bC PC sC => ?_⟩
            obtain ⟨v, hv, od⟩ := odd_at (K := K) kd (o1 := o1) (o2 := o2) aC bC
            have no2 : o2 ≠ p := fun z => by
              obtain ⟨cs, a1, a2, a3, a4, hh, _⟩ := PB.ex
              rw [← z, hB] at hh
              have z2 := HO.dK.inj (Option.some.inj hh)
              have z3 := congrArg List.length z2
              cases z3
            have hAC := sC.at (PB.ne hA fun _ z => by cases z) hA
            have hBC := sC.at no2 hB
            refine ⟨o3, _, _, _, rfl, rfl, SqL.of (sC.at (PB.ne (upd_same (H := HB) (a := o3)) fun _ z => by cases z) upd_same), hv, ?_⟩
            have wC : Sav p H9 HC := sZ.trans ((Same.sav sB).trans sC)
            have eC := wC.at nslp e9
            -- its place
            refine ⟨_, rfl, _, rfl, _, us.length, rfl, .inl ⟨us, SqL.of eC, rfl⟩, _, _, rfl, rfl, p, c, (us.length : Int) + 1, 2 ^ 16, rfl, by omega, ?_, PC.mono (by decide), fun at_ HD aD bD PD sD => ?_⟩
            · exact Nat.lt_of_le_of_lt (Nat.log2_le_self _) (by omega)
            obtain ⟨j, rfl⟩ : ∃ j : Nat, at_ = (j : Int) := ⟨at_.toNat, by omega⟩
            have hj : j ≤ us.length := by omega
            have wD := wC.trans sD
            have eD := wD.at nslp e9
            have hAD := sD.at (PC.ne hAC fun _ z => by cases z) hAC
            have no2 : o2 ≠ p := no2
            have hBD := sD.at no2 hBC
            have tD : Tps HD us (qs.map q4x) := ht9.keep (wD.kp.tk P9)
            -- the list that is handed over
            refine ⟨_, rfl, _, rfl, _, rfl, _, rfl, sl, us, rfl, SqL.of eD, fun r1 hr1 => ⟨_, rfl, sz 4 (by decide), fun r2 hr2 => ⟨sz 1 (by decide), fun r3 hr3 => ?_⟩⟩⟩
            rw [cut_to us hj] at hr2 hr3 ⊢
            have s1 := (Same.new (o := .lst (us.take j)) hr1).trans ((Same.new (o := .tup [v, .int 0, .int 0, .int 0]) hr2).trans (Same.new (o := .lst [.ref r2]) hr3))
            refine ⟨r1, r3, us.take j, [.ref r2], rfl, rfl, upd_old hr3 (upd_old hr2 upd_same), upd_same, by rw [List.length_take]; exact sz _ (by show min j us.length + 1 ≤ 40; omega), fun r4 hr4 => ?_⟩
            have s2 := s1.trans (Same.new (o := .lst (us.take j ++ [.ref r2])) hr4)
            have e2 := upd_old (u := .lst (us.take j ++ [.ref r2])) hr4 (upd_old (u := .lst [.ref r2]) hr3 (upd_same (H := upd HD r1 (.lst (us.take j))) (a := r2) (o := .tup [v, .int 0, .int 0, .int 0])))
            refine ⟨_, rfl, _, rfl, _, rfl, sl, us, rfl, SqL.of (s2 _ _ eD), fun r5 hr5 => ?_⟩
            rw [cut_from us hj]
            have s3 := s2.trans (Same.new (o := .lst (us.drop j)) hr5)
            refine ⟨r4, r5, _, us.drop j, rfl, rfl, upd_old hr5 upd_same, upd_same, by rw [List.length_append, List.length_take, List.length_drop]; exact sz _ (by show min j us.length + 1 + (us.length - j) ≤ 40; omega), fun r6 hr6 => ?_⟩
            have s4 := s3.trans (Same.new (o := .lst (us.take j ++ [.ref r2] ++ us.drop j)) hr6)
            refine ⟨sz 4 (by decide), fun r7 hr7 => ⟨sz 1 (by decide), fun r8 hr8 => ⟨r6, r8, _, [.ref r7], rfl, rfl, upd_old hr8 (upd_old hr7 upd_same), upd_same, by rw [List.length_append, List.length_append, List.length_take, List.length_drop]; exact sz _ (by show min j us.length + 1 + (us.length - j) + 1 ≤ 40; omega), fun r9 hr9 => ?_⟩⟩⟩
            have s5 := s4.trans ((Same.new (o := .tup [.str "", .int 1, .int 1, .int 1]) hr7).trans ((Same.new (o := .lst [.ref r7]) hr8).trans (Same.new (o := .lst (us.take j ++ [.ref r2] ++ us.drop j ++ [.ref r7])) hr9)))
            have e2F := upd_old (u := .lst (us.take j ++ [.ref r2] ++ us.drop j ++ [.ref r7])) hr9 (upd_old (u := .lst [.ref r7]) hr8 (upd_old (u := .tup [.str "", .int 1, .int 1, .int 1]) hr7 (upd_old (u := .lst (us.take j ++ [.ref r2] ++ us.drop j)) hr6 (upd_old (u := .lst (us.drop j)) hr5 e2))))
            have e7F := upd_old (u := .lst (us.take j ++ [.ref r2] ++ us.drop j ++ [.ref r7])) hr9 (upd_old (u := .lst [.ref r7]) hr8 (upd_same (H := upd (upd (upd (upd (upd (upd HD r1 (.lst (us.take j))) r2 (.tup [v, .int 0, .int 0, .int 0])) r3 (.lst [.ref r2])) r4 (.lst (us.take j ++ [.ref r2]))) r5 (.lst (us.drop j))) r6 (.lst (us.take j ++ [.ref r2] ++ us.drop j))) (a := r7) (o := .tup [.str "", .int 1, .int 1, .int 1])))
            have e9F := upd_same (H := upd (upd (upd (upd (upd (upd (upd (upd HD r1 (.lst (us.take j))) r2 (.tup [v, .int 0, .int 0, .int 0])) r3 (.lst [.ref r2])) r4 (.lst (us.take j ++ [.ref r2]))) r5 (.lst (us.drop j))) r6 (.lst (us.take j ++ [.ref r2] ++ us.drop j))) r7 (.tup [.str "", .int 1, .int 1, .int 1])) r8 (.lst [.ref r7])) (a := r9) (o := .lst (us.take j ++ [.ref r2] ++ us.drop j ++ [.ref r7]))
            have GF : ∃ HF : Hp, HF = upd (upd (upd (upd (upd (upd (upd (upd (upd HD r1 (.lst (us.take j))) r2 (.tup [v, .int 0, .int 0, .int 0])) r3 (.lst [.ref r2])) r4 (.lst (us.take j ++ [.ref r2]))) r5 (.lst (us.drop j))) r6 (.lst (us.take j ++ [.ref r2] ++ us.drop j))) r7 (.tup [.str "", .int 1, .int 1, .int 1])) r8 (.lst [.ref r7])) r9 (.lst (us.take j ++ [.ref r2] ++ us.drop j ++ [.ref r7])) := ⟨_, rfl⟩
            obtain ⟨HF, gF⟩ := GF
            rw [← gF] at s5 e2F e7F e9F ⊢
            clear gF hr1 hr2 hr3 hr4 hr5 hr6 hr7 hr8 hr9 s1 s2 s3 s4 e2
            have tF := tD.keep (Same.tk s5)
            have TT : Tps HF (us.take j ++ [.ref r2] ++ us.drop j ++ [.ref r7]) ((qs.map q4x).take j ++ [(v, 0, 0, 0)] ++ (qs.map q4x).drop j ++ [(.str "", 1, 1, 1)]) := (((tF.take j).append (Tps.one e2F)).append (tF.drop j)).append (Tps.one e7F)
            have wF := wD.trans (Same.sav s5)
            have hAF := s5 _ _ hAD
            have hBF := s5 _ _ hBD
            have tkl : ((qs.map q4x).take j).length = j := by rw [List.length_take, List.length_map]; omega
            refine ⟨q, td, r9, ps, _, j, (v, 0, 0, 0), rfl, (pa wF).1.sc, TT.lst e9F, ?_, ?_, fun i y hi hy => ?_, fun H' s' => od.has H' (s' _ _ hAF) (s' _ _ hBF), fun H' s' => ⟨_, rfl, od.ne H' _ (s' _ _ hAF) (s' _ _ hBF) ⟨_, rfl, iteF ?_⟩⟩⟩
            · rw [← TT.1]
              simp
              omega
            · rw [List.append_assoc, List.append_assoc, List.getElem?_append_right (by omega), tkl, Nat.sub_self]
              rfl
            · rw [List.append_assoc, List.append_assoc, List.getElem?_append_left (by omega), List.getElem?_take_of_lt hi, List.getElem?_map] at hy
              cases hq : qs[i]? with
              | none => rw [hq] at hy; cases hy
              | some z =>
                rw [hq] at hy
                cases hy
                exact ⟨z.n, rfl, (hok z (List.mem_of_getElem? hq)).1⟩
            -- the last word
            have wG := wF.trans (Same.sav s')
            have tG : Tps H' us (qs.map q4x) := ht9.keep (wG.kp.tk P9)
            obtain ⟨p1, p2⟩ := pa wG
            refine ⟨_, rfl, x, C_Pattern, dxp, _, _, rfl, p2, TP.c_Pattern, TP.n2, fl_steps _ _, _, rfl, sl, _, rfl, .inl ⟨SqL.of (wG.at nslp e9), fun t ht => ?_⟩⟩
            have wH := wG.trans (Sav.new (o := .tup us) ht)
            have d1 : Td (upd H' t (.tup us)) (.ref t) (Datum.toD (Tup.mk qs)) := .tup upd_same (tG.td.keep (Same.tk (Same.new ht)))
            have d2 : Td (upd H' t (.tup us)) (.ref tp) (Datum.toD (Tup.mk qs)) := hp2.keep (wH.kp.tk P9)
            refine ⟨Tup.mk qs, Tup.mk qs, d2.dp, d1.dp, _, rfl, ?_⟩
            rw [decide_eq_true rfl]
            obtain ⟨p3, p4⟩ := pa wH
            obtain ⟨dxs, _, _, gq, _⟩ := id p3.sc.ex
            refine iteT ⟨_, rfl, x, C_Pattern, dxp, _, _, rfl, p4, TP.c_Pattern, TP.n1, fl_scales _ _, _, rfl, q, dxs, _, .ref C_Scales, rfl, gq, TS.i_Scales.ty gq, T.f_self, q, td, q, td, ps, ps, rfl, p3.sc, p3.sc, _, rfl, ?_⟩
            rw [decide_eq_true rfl]
            refine iteT ⟨_, rfl, x, dxp, _, rfl, p4, fl_at _ _, x, q, td, ps, qs, 0, 0, rfl, p3, by decide, by decide, fun y1 Hy1 sy1 ny1 RW1 => ?_⟩
            obtain ⟨dr1, tr1, g1, h1⟩ := RW1.ex
            refine ⟨y1, C_Row, dr1, _, _, rfl, g1, TR.c_Row, TR.n2, fl_steps _ _, ?_⟩
            obtain ⟨p5, p6⟩ := pa (wH.trans (Same.sav sy1))
            refine ⟨_, rfl, x, rfl, .inr ⟨_, _, p6⟩, x, q, td, ps, qs, 0, 0, rfl, p5, by decide, by decide, fun y2 Hy2 sy2 ny2 RW2 => ?_⟩
            obtain ⟨dr2, tr2, g2, h2⟩ := RW2.ex
            refine ⟨y2, C_Row, dr2, _, _, rfl, g2, TR.c_Row, TR.n2, fl_steps _ _, Tup.mk (nrm (at4 qs 0 0)), Tup.mk (nrm (at4 qs 0 0)), (h1.keep (Same.tk sy2)).dp, h2.dp, ?_⟩
            rw [decide_eq_true rfl]
            exact k _
end
end RS

set_option maxRecDepth 100000
set_option maxHeartbeats 0
namespace RS
open PySem PySem.Spec PyProof.Rows L2 He
namespace Hd
def top (i : Nat) : Stmt := PySem.Challenge.pw_risingscales_k20_patterns.main.body.getD i (.Pass ⟨0, 0, 0, 0⟩)
def dx (adr : Frg → Addr) (n q : Str) (st : Stmt) (dfl : List Dv) (clo : List Str) : DefR := ⟨adr, n, q, defArgs st, defBody st, defScope st, dfl, clo⟩
def fn : List DefR := [
  dx (fun K => inA K "NoScale") "__init__" "NoScale.__init__" (inClass (top 7) 0) [] ["__class__"],
  dx (fun K => ga K "is_name") "is_name" "is_name" (top 29) [] [],
  dx (fun K => ma K (ga K "Scales") "__init__") "__init__" "Scales.__init__" (inClass (top 32) 0) [] [],
  dx (fun K => ma K (ga K "Scales") "__contains__") "__contains__" "Scales.__contains__" (inClass (top 32) 5) [] [],
  dx (fun K => ma K (ga K "Scales") "__eq__") "__eq__" "Scales.__eq__" (inClass (top 32) 7) [] [],
  dx (fun K => ga K "normal_steps") "normal_steps" "normal_steps" (top 10) [] [],
  dx (fun K => ma K (ga K "Row") "__init__") "__init__" "Row.__init__" (inClass (top 11) 1) [.adr (dflAt ("Row", some "__init__") 0)] [],
  dx (fun K => ma K (ga K "Pattern") "__init__") "__init__" "Pattern.__init__" (inClass (top 24) 0) [] [],
  dx (fun K => ma K (ga K "Pattern") "at") "at" "Pattern.at" (inClass (top 24) 1) [.int 0] [],
  dx (fun K => ma K (ga K "Pattern") "__call__") "__call__" "Pattern.__call__" (inClass (top 24) 2) [.int 0] [],
  dx (fun K => ga K "_law_bag") "_law_bag" "_law_bag" (top 34) [] [],
  dx (fun K => ga K "_law_draw") "_law_draw" "_law_draw" (top 35) [] [],
  dx (fun K => ga K "_law_ident") "_law_ident" "_law_ident" (top 36) [] [],
  dx (fun K => ga K "_law_kinds") "_law_kinds" "_law_kinds" (top 37) [] [],
  dx (fun K => ga K "_law_normal") "_law_normal" "_law_normal" (top 38) [] [],
  dx (fun K => ga K "_law_number") "_law_number" "_law_number" (top 39) [] [],
  dx (fun K => ga K "_law_refused") "_law_refused" "_law_refused" (top 40) [] [],
  dx (fun K => ga K "law") "law" "law" (top 41) [] []]
def exl : List (Frg → Bool) := [
  fun K => freeB K "int",
  fun K => freeB K "len",
  fun K => freeB K "list",
  fun K => freeB K "isinstance",
  fun K => freeB K "str",
  fun K => freeB K "all",
  fun K => (Fa.str "LETTERS" "abcdefghijklmnopqrstuvwxyz").ok K,
  fun K => (Fa.str "DIGITS" "0123456789").ok K,
  fun K => (Fa.int "LONGEST" 12).ok K,
  fun K => freeB K "tuple",
  fun K => gloB K "Scales",
  fun K => clsB K "Scales",
  fun K => isiB K "Scales",
  fun K => noatB K "Scales" "pairs",
  fun K => noatB K "Scales" "names",
  fun K => noatB K "Scales" "kinds_told",
  fun K => decide (PySem.W.kitOne K (.ref (ga K "Scales")) (.ref (ga K "Scales")) = some true),
  fun K => gloB K "KINDS",
  fun K => tupB K "KINDS" [.str "free", .str "rising", .str "falling"],
  fun K => clsB K "Row",
  fun K => noatB K "Row" "scales",
  fun K => noatB K "Row" "steps",
  fun K => clsB K "Pattern",
  fun K => noatB K "Pattern" "scales",
  fun K => noatB K "Pattern" "steps",
  fun K => decide (PySem.W.exmOne K (.ref (ga K "NoScale")) (.ref (ga K "NoScale")) = some true),
  fun K => noatB K "NoScale" "name",
  fun K => freeB K "range",
  fun K => neB K "Scales",
  fun K => PySem.W.notFirst K (ga K "Scales") (.ref (ga K "Scales")),
  fun K => excB K "NoScale",
  fun K => clxB K "NoScale" "/claim/cut.py",
  fun K => gloB K "NoScale",
  fun K => gloB K "is_name",
  fun K => mkrB K "Scales",
  fun K => methB K "Scales" "__contains__",
  fun K => methB K "Scales" "__eq__",
  fun K => gloB K "normal_steps",
  fun K => mkrB K "Row",
  fun K => gloB K "Row",
  fun K => mkrB K "Pattern",
  fun K => gloB K "Pattern",
  fun K => methB K "Pattern" "at",
  fun K => methB K "Pattern" "__call__",
  fun K => PySem.W.fnIn K (ma K (ga K "Pattern") "__call__"),
  fun K => gloB K "_law_bag",
  fun K => gloB K "_law_draw",
  fun K => gloB K "_law_ident",
  fun K => gloB K "_law_kinds",
  fun K => gloB K "_law_normal",
  fun K => gloB K "_law_number",
  fun K => gloB K "_law_refused",
  fun K => freeB K "super",
  fun K => gloB K "law"]
def ex (K : Frg) : Bool := exl.all fun b => b K
abbrev R : PySem.W.OpenRow := PySem.W.OpenLaw.row PySem.Challenge.rw_risingscales_k20_patterns
abbrev hk : PySem.W.Hook := hookR 6 ex fn
def ob (s : PySem.W.SharedT) : AlR := obsRG 6 ex fn (HandSHeadRun.getT s)
theorem ob_eq (s : PySem.W.SharedT) : ob s = hk.obs s.abs := obsRG_eq (HandSHeadRun.getT_eq s)
def loose : List Str := (["LETTERS", "DIGITS", "LONGEST", "KINDS", "_wall", "ScaleError", "BadName", "TwiceNamed", "BadKind", "NoScales", "NoScale", "OtherScales", "normal_steps", "Row", "Form", "need_like", "highs_of", "lows_of", "taken_back", "choices"] : List Str) ++ (["kept_lists", "higher", "lower", "behind", "lists_behind", "Pattern", "is_name", "Scales", "_law_bag", "_law_draw", "_law_ident", "_law_kinds", "_law_normal", "_law_number", "_law_refused"] : List Str)
theorem run (w : World) : HandSHeadRun.RunEq R (PySem.W.view R.prog [41]) hk ob 20000 loose w := by
  intro os
  kernel_rfl
end Hd
theorem _root_.RS.SaysR.fact {K : Frg} (c : SaysR Hd.ex Hd.fn K) (i : Nat) {b : Frg → Bool} (h : Hd.exl[i]? = some b := by rfl) : b K = true := List.all_eq_true.mp c.more b (List.mem_of_getElem? h)
end RS

set_option maxRecDepth 100000
set_option maxHeartbeats 4000000
namespace RS
open PySem PySem.Spec PyProof.Rows L2 NdefX He
abbrev s_NoScale___init__ : Stmt := inClass (top 7) 0
theorem sc_NoScale___init__ : NScope ["self", "name", "__class__"] ["self", "name"] ["__class__"] (defScope s_NoScale___init__) := nscope_by (by decide +kernel)
theorem ok_NoScale___init__ {P : Program} {w : World} {K : PySem.W.Frag} {mg : Str → Option Value} {base : Heap} {C f : Addr} {fd : FuncData} (F : FunX K P "__init__" "NoScale.__init__" (defArgs s_NoScale___init__) (defBody s_NoScale___init__) (defScope s_NoScale___init__) C f fd) (T : ExcT K C) (n0 : NoAttr K C "name") (hmg : mg "super" = none) (htop : (P.main.scope.names.lookup ("super" : Str)).isSome = false) :
    FnOk P w K mg base CX0 1 f fd ["self", "name"] (spEx C ["name"]) := by
  refine fnx_of (k := 0) F sc_NoScale___init__ T.sup rfl rfl rfl hmg htop (fun _ _ _ => ⟨_, rfl⟩) (fun _ _ _ => rfl) (fun vs H Q E h => ?_) (fun cda cc A outer s H vs Q E hr h => ?_)
  · obtain ⟨a, ws, rfl, hl, _⟩ := h
    simpa using hl
  · obtain ⟨a, ws, rfl, hl, ha, k0, k⟩ := h
    match ws, hl with
    | [v0], _ =>
      refine ⟨a, [v0], _, rfl, ha, (pss_one (ps_ost (pv 0) (pv 1))), ?_⟩
      refine ⟨_, rfl, _, rfl, a, C, rfl, T.sup.ox, n0, .inl ⟨ha, fun dx hd hne => ?_⟩⟩
      exact k (by simp) dx _ hd hne upd_same (by rw [upd_ne hne, upd_same]; rfl) (fun b h1 h2 => by rw [upd_ne h1, upd_ne h2])
end RS

set_option maxRecDepth 100000
set_option maxHeartbeats 4000000
namespace RS
open PySem PySem.Spec PyProof.Rows L2 He
theorem facts {P : Program} {w : World} {K : Frg} {h : Heap} {mg : Str → Option Value} {f : Addr} (X : K.In h) (G : h.Ns mainGlobals mg) (hfa : mg ("law" : Str) = some (.ref f)) (c : SaysR Hd.ex Hd.fn K) (hfile : P.main.file = "/claim/cut.py") (htop : (P.main.scope.names.lookup ("super" : Str)).isSome = false) :
    ∃ fd : FuncData, (∀ (s : Shared) (v : Value), BindsTo s fd ⟨[v], []⟩ [("_law_script", v)]) ∧ ∀ base : Heap, K.In base → base.Ns mainGlobals mg → FnOk P w K mg base CX0 7 f fd ["_law_script"] (spLaw K) := by
  obtain ⟨fd1, F1⟩ := c.def_ 1
  obtain ⟨fd2, F2⟩ := c.def_ 2
  obtain ⟨fd3, F3⟩ := c.def_ 3
  obtain ⟨fd4, F4⟩ := c.def_ 4
  obtain ⟨fd5, F5⟩ := c.def_ 5
  obtain ⟨fd6, F6⟩ := c.def_ 6
  obtain ⟨fd7, F7⟩ := c.def_ 7
  obtain ⟨fd8, F8⟩ := c.def_ 8
  obtain ⟨fd9, F9⟩ := c.def_ 9
  obtain ⟨fd10, F10⟩ := c.def_ 10
  obtain ⟨fd11, F11⟩ := c.def_ 11
  obtain ⟨fd12, F12⟩ := c.def_ 12
  obtain ⟨fd13, F13⟩ := c.def_ 13
  obtain ⟨fd14, F14⟩ := c.def_ 14
  obtain ⟨fd15, F15⟩ := c.def_ 15
  obtain ⟨fd16, F16⟩ := c.def_ 16
  obtain ⟨fd17, F17⟩ := c.def_ 17
  have e := hfa.symm.trans (glo_ok X G (c.fact 53))
  cases e
  have hsup : mg "super" = none := free_ok X G (c.fact 52)
  have TPn : TPen mg := ⟨(free_ok X G (c.fact 0)), (free_ok X G (c.fact 1)), (free_ok X G (c.fact 2))⟩
  have TN : TName mg := ⟨(free_ok X G (c.fact 3)), (free_ok X G (c.fact 4)), (free_ok X G (c.fact 1)), (free_ok X G (c.fact 5)), (str_ok X G (c.fact 6)), (str_ok X G (c.fact 7)), (int_ok X G (c.fact 8))⟩
  have TS : TSc K mg (ga K "Scales") (ga K "KINDS") := ⟨(free_ok X G (c.fact 3)), (free_ok X G (c.fact 4)), (free_ok X G (c.fact 1)), (free_ok X G (c.fact 9)), (glo_ok X G (c.fact 10)), (cls_ok (c.fact 11)), (isiB_ok (c.fact 12)), (noat_ok (c.fact 13)), (noat_ok (c.fact 14)), (noat_ok (c.fact 15)), (of_decide_eq_true (c.fact 16)), (glo_ok X G (c.fact 17)), (fun H => tupB_ok (c.fact 18) H)⟩
  have TW : TRw mg := ⟨(free_ok X G (c.fact 1)), (free_ok X G (c.fact 9))⟩
  have TR : TRow K mg (ga K "Row") := ⟨(cls_ok (c.fact 19)), (noat_ok (c.fact 20)), (noat_ok (c.fact 21))⟩
  have TP : TPat K mg (ga K "Pattern") := ⟨(free_ok X G (c.fact 9)), (cls_ok (c.fact 22)), (noat_ok (c.fact 23)), (noat_ok (c.fact 24))⟩
  have TX : TRef K mg (ga K "NoScale") := ⟨(of_decide_eq_true (c.fact 25)), (noat_ok (c.fact 26))⟩
  have TL : TLaw K mg (ga K "Scales") (ga K "Pattern") := ⟨(cls_ok (c.fact 22)), (free_ok X G (c.fact 27)), (free_ok X G (c.fact 1)), (free_ok X G (c.fact 2)), (free_ok X G (c.fact 9)), (free_ok X G (c.fact 3)), (neB_ok (c.fact 28)), (c.fact 29)⟩
  have br : mg "range" = none := (free_ok X G (c.fact 27))
  obtain ⟨fd0, F0, i0, t0⟩ := clxB_ok (P := P) (c.fact 31) rfl (c.val_ 0) rfl hfile
  have b := FunD.bindsA (ps := ["_law_script"]) F17 fun _ _ _ _ _ _ us hl => match us, hl with | [_], _ => rfl
  refine ⟨fd17, fun s v => b s [v] rfl, fun base _ _ => ?_⟩
  have M_NoScale : Exk P w K mg base "NoScale" (ga K "NoScale") ["name"] := ⟨⟨inA K "NoScale", fd0, ["self", "name"], ok_NoScale___init__ F0 (excB_ok (c.fact 30)) (noat_ok (c.fact 26)) hsup htop, FunX.bindsN F0 (fun _ _ _ _ _ _ us hl => match us, hl with | [_, _], _ => rfl), i0, t0⟩, glo_ok X G (c.fact 32), excB_ok (c.fact 30)⟩
  have M_is_name : Cal P w K mg base CX0 1 "is_name" ["value"] [] (spIsName K) := ⟨_, _, _, ok_is_name F1 TN, glo_ok X G (c.fact 33), F1.kp, .nil, (FunD.bindsN (ps := ["value"]) F1 fun _ _ _ _ _ _ us hl => match us, hl with | [_], _ => rfl)⟩
  have M_Scales_init : Mkr P w K mg base CX0 2 "Scales" (ga K "Scales") ["self", "pairs"] [] (spScInit (ga K "Scales")) := ⟨_, _, _, ok_Scales_init F2 TS M_is_name, mkr_ok (c.fact 34), glo_ok X G (c.fact 10), .nil, (FunD.bindsN (ps := ["self", "pairs"]) F2 fun _ _ _ _ _ _ us hl => match us, hl with | [_, _], _ => rfl)⟩
  have M_Scales_contains : Mtd P w K mg base CX0 1 (ga K "Scales") "__contains__" ["self", "name"] [] (spScHas K (ga K "Scales")) := ⟨_, _, _, ok_Scales_has F3 TS, meth_ok (c.fact 35), .nil, (FunD.bindsN (ps := ["self", "name"]) F3 fun _ _ _ _ _ _ us hl => match us, hl with | [_, _], _ => rfl)⟩
  have M_Scales_eq : Mtd P w K mg base CX0 1 (ga K "Scales") "__eq__" ["self", "other"] [] (spScEq (ga K "Scales")) := ⟨_, _, _, ok_Scales_eq F4 TS, meth_ok (c.fact 36), .nil, (FunD.bindsN (ps := ["self", "other"]) F4 fun _ _ _ _ _ _ us hl => match us, hl with | [_, _], _ => rfl)⟩
  have M_normal_steps : Cal P w K mg base CX0 1 "normal_steps" ["steps"] [] spNorm := ⟨_, _, _, ok_norm F5 TW, glo_ok X G (c.fact 37), F5.kp, .nil, (FunD.bindsN (ps := ["steps"]) F5 fun _ _ _ _ _ _ us hl => match us, hl with | [_], _ => rfl)⟩
  have M_Row_init : Mkr P w K mg base CX0 2 "Row" (ga K "Row") ["self", "scales", "steps"] [] (spRowInit (ga K "Scales") (ga K "Row")) := by
    obtain ⟨ds, vd, b⟩ := FunD.binds1 (ps := ["self", "scales", "steps"]) F6 3 1 (fun z => by cases z) rfl fun _ _ _ _ _ _ _ us its h1 h2 => match us, its, h1, h2 with | [_, _, _], [_], _, _ => ⟨_, rfl, rfl⟩
    exact ⟨_, _, ds, ok_Row_init F6 TR M_Scales_contains M_normal_steps, mkr_ok (c.fact 38), glo_ok X G (c.fact 39), vd, b⟩
  have M_Pattern_init : Mkr P w K mg base (L2.CX P w) 3 "Pattern" (ga K "Pattern") ["self", "scales", "steps"] [] (spPatInit K (ga K "Scales") (ga K "NoScale") (ga K "Pattern")) := ⟨_, _, _, ok_Pattern_init F7 TP M_Scales_contains M_NoScale, mkr_ok (c.fact 40), glo_ok X G (c.fact 41), .nil, (FunD.bindsN (ps := ["self", "scales", "steps"]) F7 fun _ _ _ _ _ _ us hl => match us, hl with | [_, _, _], _ => rfl)⟩
  have M_Pattern_at2 : Mtd P w K mg base CX0 4 (ga K "Pattern") "at" ["self", "m", "n"] [] (spAt (ga K "Scales") (ga K "Row") (ga K "Pattern")) := by
    obtain ⟨ds, vd, b⟩ := FunD.binds1 (ps := ["self", "m", "n"]) F8 3 1 (fun z => by cases z) rfl fun _ _ _ _ _ _ _ us its h1 h2 => match us, its, h1, h2 with | [_, _, _], [_], _, _ => ⟨_, rfl, rfl⟩
    exact ⟨_, _, ds, ok_Pattern_at F8 TP M_Row_init, meth_ok (c.fact 42), vd, b⟩
  have M_Pattern_at1 : Mtd P w K mg base CX0 4 (ga K "Pattern") "at" ["self", "m", "n"] [.int 0] (spAt (ga K "Scales") (ga K "Row") (ga K "Pattern")) := by
    obtain ⟨ds, vd, b⟩ := FunD.binds1 (ps := ["self", "m", "n"]) F8 2 0 (fun z => by cases z) rfl fun _ _ _ _ _ _ _ us its h1 h2 => match us, its, h1, h2 with | [_, _], [_], _, _ => ⟨_, rfl, rfl⟩
    exact ⟨_, _, ds, ok_Pattern_at F8 TP M_Row_init, meth_ok (c.fact 42), vd, b⟩
  have M_Pattern_call2 : Clo P w K mg base CX0 5 (ga K "Pattern") (spAt (ga K "Scales") (ga K "Row") (ga K "Pattern")) := by
    obtain ⟨ds, vd, b⟩ := FunD.binds1 (ps := ["self", "m", "n"]) F9 3 1 (fun z => by cases z) rfl fun _ _ _ _ _ _ _ us its h1 h2 => match us, its, h1, h2 with | [_, _, _], [_], _, _ => ⟨_, rfl, rfl⟩
    exact ⟨_, ⟨(meth_ok (c.fact 43)).at_, (meth_ok (c.fact 43)).fn, (c.fact 44)⟩, FnR.imp (fnR_of (ok_Pattern_call F9 TP M_Pattern_at2) b vd) (fun vs H Q E h => by show (spAt (ga K "Scales") (ga K "Row") (ga K "Pattern")) (vs ++ []) H Q E; rw [List.append_nil]; exact h)⟩
  have M_Pattern_call1 : Clo P w K mg base CX0 5 (ga K "Pattern") (fun vs H Q E => (spAt (ga K "Scales") (ga K "Row") (ga K "Pattern")) (vs ++ [.int 0]) H Q E) := by
    obtain ⟨ds, vd, b⟩ := FunD.binds1 (ps := ["self", "m", "n"]) F9 2 0 (fun z => by cases z) rfl fun _ _ _ _ _ _ _ us its h1 h2 => match us, its, h1, h2 with | [_, _], [_], _, _ => ⟨_, rfl, rfl⟩
    exact ⟨_, ⟨(meth_ok (c.fact 43)).at_, (meth_ok (c.fact 43)).fn, (c.fact 44)⟩, fnR_of (ok_Pattern_call F9 TP M_Pattern_at2) b vd⟩
  have M__law_bag : Cal P w K mg base CX0 1 "_law_bag" ["_law_script"] [] (spPen K) := ⟨_, _, _, ok_pen F10 TPn, glo_ok X G (c.fact 45), F10.kp, .nil, (FunD.bindsN (ps := ["_law_script"]) F10 fun _ _ _ _ _ _ us hl => match us, hl with | [_], _ => rfl)⟩
  have M__law_draw : Cal P w K mg base CX0 1 "_law_draw" ["_law_bag_here", "_law_limit"] [] spDraw := ⟨_, _, _, ok_draw F11 TPn, glo_ok X G (c.fact 46), F11.kp, .nil, (FunD.bindsN (ps := ["_law_bag_here", "_law_limit"]) F11 fun _ _ _ _ _ _ us hl => match us, hl with | [_, _], _ => rfl)⟩
  have M__law_ident : Cal P w K mg base CX0 2 "_law_ident" ["_law_bag_here", "_law_k"] [] spIdent := ⟨_, _, _, ok_ident F12 TS M__law_draw, glo_ok X G (c.fact 47), F12.kp, .nil, (FunD.bindsN (ps := ["_law_bag_here", "_law_k"]) F12 fun _ _ _ _ _ _ us hl => match us, hl with | [_, _], _ => rfl)⟩
  have M__law_kinds : Cal P w K mg base CX0 3 "_law_kinds" ["_law_bag_here", "_law_most"] [] spKinds := ⟨_, _, _, ok_kinds F13 TS br M__law_draw M__law_ident, glo_ok X G (c.fact 48), F13.kp, .nil, (FunD.bindsN (ps := ["_law_bag_here", "_law_most"]) F13 fun _ _ _ _ _ _ us hl => match us, hl with | [_, _], _ => rfl)⟩
  have M__law_normal : Cal P w K mg base CX0 1 "_law_normal" ["_law_steps"] [] spLNorm := ⟨_, _, _, ok_lnorm F14 TW, glo_ok X G (c.fact 49), F14.kp, .nil, (FunD.bindsN (ps := ["_law_steps"]) F14 fun _ _ _ _ _ _ us hl => match us, hl with | [_], _ => rfl)⟩
  have M__law_number : Cal P w K mg base CX0 2 "_law_number" ["_law_bag_here"] [] spLn := ⟨_, _, _, ok_lnumber F15 M__law_draw, glo_ok X G (c.fact 50), F15.kp, .nil, (FunD.bindsN (ps := ["_law_bag_here"]) F15 fun _ _ _ _ _ _ us hl => match us, hl with | [_], _ => rfl)⟩
  have M__law_refused : Cal P w K mg base CX0 5 "_law_refused" ["_law_scales", "_law_steps"] [] (spRefd K (ga K "Scales")) := ⟨_, _, _, ok_refused F16 TX M_NoScale M_Pattern_init, glo_ok X G (c.fact 51), F16.kp, .nil, (FunD.bindsN (ps := ["_law_scales", "_law_steps"]) F16 fun _ _ _ _ _ _ us hl => match us, hl with | [_, _], _ => rfl)⟩
  exact ok_law F17 TL TS TR TP M__law_bag M__law_draw M__law_kinds M_Scales_init M_Scales_eq M__law_number M_Pattern_init M__law_normal M_Pattern_at2 M_Pattern_at1 M_Pattern_call2 M_Pattern_call1 M__law_refused
end RS
open PySem PySem.W PySem.Calls PyProof.Rows
theorem PySem.Challenge.cw_risingscales_k20_patterns_holds : PySem.Challenge.rw_risingscales_k20_patterns.Holds := by
  w_on; o_law
  refine HandSHeadRun.head_any (r := OpenLaw.row PySem.Challenge.rw_risingscales_k20_patterns) (q := view (OpenLaw.row PySem.Challenge.rw_risingscales_k20_patterns).prog [41]) (H := RS.Hd.hk) (ob := RS.Hd.ob) (M := 20000) (loose := RS.Hd.loose) (d := HandSHeadRun.topDef (OpenLaw.row PySem.Challenge.rw_risingscales_k20_patterns).prog 41) (kwd := []) RS.Hd.ob_eq
    (by kernel_rfl) (fun s => by kernel_rfl) RS.Hd.run (by kernel_rfl) (by kernel_rfl) (by kernel_rfl) (by rfl) (by first | assumption | decide +kernel) (by decide +kernel) ⟨rfl, rfl, rfl, rfl, rfl, by decide +kernel⟩ ?hw ?hc
  case hw => w_witness2
  case hc =>
    refine L2.walk_ofE (l := PySem.Challenge.rw_risingscales_k20_patterns) (n := 63) (k := 7) (x := "_law_script") (CX := L2.CX0) rfl (by decide) (by kernel_rfl) ⟨rfl, by decide, by decide⟩ ?F (fun _ _ _ _ z => z)
    intro w mg fa h Y G hmg0
    obtain ⟨K, KX, c⟩ := Y
    have hmg : mg ("law" : PySem.Str) = some (.ref fa) := by
      have e : (HandSHeadRun.topDef (OpenLaw.row PySem.Challenge.rw_risingscales_k20_patterns).prog 41).name = ("law" : PySem.Str) := by kernel_rfl
      rw [← e]
      exact hmg0
    obtain ⟨fd, hb, hF⟩ := RS.facts (P := (PySem.Challenge.rw_risingscales_k20_patterns).prog) (w := w) KX G hmg c (by kernel_rfl) (by kernel_rfl)
    exact ⟨K, fd, RS.spLaw K, KX, hb, fun H a ns hl _ hS => ⟨a, ns, rfl, hS, hl, fun _ => rfl⟩, hF⟩
