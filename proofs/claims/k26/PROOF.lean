import PyProof.Rows.All
import Wide.All
import OpenK.AllK
import Wide.FinOn
import PyProof.InstNe
import KE.KFromBytes
import KE.KExcSuper
import KE.KOpsOwn
import KE.KIsNot
import KE.KIsAll
import HandS.ForMost
import HandS.Exc
import HandS.Wide
import HandS.Flow
import HandS.Defaults
import HandS.Property
import HandS.ClsMeth
import HandS.Slots
import HandS.SlotsOwn
import HandS.IsInst
import HandS.Evl
import HandS.Head0
import HandS.Head1
import HandS.Head2
import HandS.HeadEnd
import HandS.HeadHook1
import HandS.HeadHook2
import KE.KSuper
import HandS.ExcSuper
import HandS.Nested
import HandS.ExcInit
import HandS.ExcField
import HandS.ExcIs
import HandS.WordsExc
import KE.Datum
import HandS.Star
import HandS.DictComp
import OpenK.KOps
import OpenK.KMeth
import KE.KCallOwn
import HandS.Lambda
import HandS.TupAny
import HandS.Text
import HandS.Zip
import HandS.More
import HandS.FStr
import HandS.Style
import KE.DataEq
import HandS.DeepEq
import HandS.Iter
import KE.GoesMore
import PyProof.EnumMake
import HandS.FltList
import HandS.ExcInitHot
import PySem.Challenge.RW_risingscales_k26_curves_made_and_refused
set_option Elab.async false
set_option linter.all false
set_option maxRecDepth 100000
set_option maxHeartbeats 4000000
namespace RS
open PySem PySem.Spec PyProof.Rows L2

/-! ### defs, methods, classes by name, all that a call of them wants in one word -/
section
variable (P : Program) (w : World) (K : PySem.W.Frag) (mg : Str → Option Value) (base : Heap) (CX : CXT)
/-- the global def x keeps the promise sp; dvs fill its last parameters -/
structure Cal (lv : Nat) (x : Str) (ps : List Str) (dvs : List V) (sp : Sp) : Prop where
  ex : ∃ (f : Addr) (fd : FuncData) (ds : List Value), FnOk P w K mg base CX lv f fd ps sp ∧ mg x = some (.ref f) ∧ PySem.W.keepIn K (.ref f) = true ∧ Vals dvs ds ∧ Binds K fd ps ds
/-- the method m of the class at C -/
structure Mtd (lv : Nat) (C : Addr) (m : Str) (ps : List Str) (dvs : List V) (sp : Sp) : Prop where
  ex : ∃ (f : Addr) (fd : FuncData) (ds : List Value), FnOk P w K mg base CX lv f fd ps sp ∧ Meth K C m f ∧ Vals dvs ds ∧ Binds K fd ps ds
/-- the class x, at C, made by its __init__ -/
structure Mkr (lv : Nat) (x : Str) (C : Addr) (ps : List Str) (dvs : List V) (sp : Sp) : Prop where
  ex : ∃ (f : Addr) (fd : FuncData) (ds : List Value), FnOk P w K mg base CX lv f fd ps sp ∧ Mk K C f ∧ mg x = some (.ref C) ∧ Vals dvs ds ∧ Binds K fd ps ds
/-- the property m of the class at C -/
structure Prp (lv : Nat) (C : Addr) (m : Str) (ps : List Str) (dvs : List V) (sp : Sp) : Prop where
  ex : ∃ (p f : Addr) (fd : FuncData) (ds : List Value), FnOk P w K mg base CX lv f fd ps sp ∧ PropOf K C m p f ∧ Vals dvs ds ∧ Binds K fd ps ds
/-- the static method m of the class at C -/
structure Stc (lv : Nat) (C : Addr) (m : Str) (ps : List Str) (dvs : List V) (sp : Sp) : Prop where
  ex : ∃ (p f : Addr) (mc : Value) (fd : FuncData) (ds : List Value), FnOk P w K mg base CX lv f fd ps sp ∧ ClX.CRead K C mc ∧
    PySem.W.findCls K (.ref C) mc m = some (.get (.builtin "staticmethod.__get__") (.ref p) .none (.ref C)) ∧ (∃ rest, PySem.W.recIn K p "staticmethod" = some (.ref f :: rest)) ∧
    PySem.W.keepIn K (.ref f) = true ∧ Vals dvs ds ∧ Binds K fd ps ds
end
section
variable {X : Cx} {CX : CXT} {lv : Nat} {x m : Str} {C : Addr} {ps : List Str} {dvs : List V} {sp : Sp} {E : XK} {p pos apos : Pos} {e o : Expr} {es : List Expr} {ta : TE} {t : TA}
theorem pe_fn (F : Cal X.prog X.w X.K X.mg X.base CX lv x ps dvs sp) (hr : Room lv X.A) (hx : Passes CX X E) (ha : PA X (e :: es) t) (hg : Gl X x := by rfl) (hdb : (x == ("__debug__" : Str)) = false := by decide)
    (he : starEach (e :: es) X.env = (false, eval e X.env) :: starEach es X.env := by rfl) (hpl : (backTo pos (starEach es X.env)).any (·.1) = false := by rfl) : PE X (.Call (.Name x p) (e :: es) [] pos) (tCall sp dvs E t) := by
  obtain ⟨f, fd, ds, G, m, k, v, b⟩ := F.ex
  exact pe_call G hr hg m k b v hx ha hdb he hpl
theorem pe_fn0 (F : Cal X.prog X.w X.K X.mg X.base CX lv x ps dvs sp) (hr : Room lv X.A) (hx : Passes CX X E) (hg : Gl X x := by rfl) (hdb : (x == ("__debug__" : Str)) = false := by decide) : PE X (.Call (.Name x p) [] [] pos) (tCall sp dvs E tNil) := by
  obtain ⟨f, fd, ds, G, m, k, v, b⟩ := F.ex
  exact pe_call0 G hr hg m k b v hx hdb
theorem pe_mt {pl : Sem Bool} (c : Cls X.K C) (F : Mtd X.prog X.w X.K X.mg X.base CX lv C m ps dvs sp) (hr : Room lv X.A) (hx : Passes CX X E) (he : PE X o ta) (ha : PA X (e :: es) t)
    (hst : starEach (e :: es) X.env = (false, eval e X.env) :: starEach es X.env := by rfl) (hpl : (backTo pos (starEach es X.env)).any (·.1) = false := by rfl)
    (ht : eval (.Call (.Attribute o m apos) (e :: es) [] pos) X.env = (do
      let ov ← eval o X.env
      standAt apos.atName
      let (f, first) ← holding [ov] (getMethod ov m pl)
      callWith pos f first (backTo pos (starEach (e :: es) X.env)) (backToKw pos (keywordEach [] X.env))) := by rfl) :
    PE X (.Call (.Attribute o m apos) (e :: es) [] pos) (tMeth C m sp dvs E ta t) := by
  obtain ⟨f, fd, ds, G, k, v, b⟩ := F.ex
  exact pe_meth he c k G hr b v hx ha hst hpl ht
theorem pe_mt0 {pl : Sem Bool} (c : Cls X.K C) (F : Mtd X.prog X.w X.K X.mg X.base CX lv C m ps dvs sp) (hr : Room lv X.A) (hx : Passes CX X E) (he : PE X o ta)
    (ht : eval (.Call (.Attribute o m apos) [] [] pos) X.env = (do
      let ov ← eval o X.env
      standAt apos.atName
      let (f, first) ← holding [ov] (getMethod ov m pl)
      callWith pos f first (backTo pos (starEach [] X.env)) (backToKw pos (keywordEach [] X.env))) := by rfl) :
    PE X (.Call (.Attribute o m apos) [] [] pos) (tMeth C m sp dvs E ta tNil) := by
  obtain ⟨f, fd, ds, G, k, v, b⟩ := F.ex
  exact pe_meth0 he c k G hr b v hx ht
theorem pe_mk (F : Mkr X.prog X.w X.K X.mg X.base CX lv x C ps dvs sp) (hr : Room (lv + 1) X.A) (hx : Passes CX X E) (ha : PA X (e :: es) t) (hg : Gl X x := by rfl) (hdb : (x == ("__debug__" : Str)) = false := by decide)
    (he : starEach (e :: es) X.env = (false, eval e X.env) :: starEach es X.env := by rfl) (hpl : (backTo pos (starEach es X.env)).any (·.1) = false := by rfl) : PE X (.Call (.Name x p) (e :: es) [] pos) (tMake C sp dvs E t) := by
  obtain ⟨f, fd, ds, G, k, m, v, b⟩ := F.ex
  exact pe_make k G hr hg m b v hx ha hdb he hpl
theorem pe_pr (c : Cls X.K C) (F : Prp X.prog X.w X.K X.mg X.base CX lv C m ps dvs sp) (hr : Room (lv + 1) X.A) (hx : Passes CX X.nox E) (he : PE X e ta) (hab : attributeBase e m X.env (eval e X.env) = eval e X.env := by rfl) :
    PE X (.Attribute e m pos) (tProp C sp dvs E ta) := by
  obtain ⟨q, f, fd, ds, G, k, v, b⟩ := F.ex
  exact pe_prop he c k G hr b v hx hab
/-- C.m() of a static method -/
theorem pe_st0 {pl : Sem Bool} (F : Stc X.prog X.w X.K X.mg X.base CX lv C m ps dvs sp) (hr : Room lv X.A) (hx : Passes CX X E) (he : PE X o ta)
    (ht : eval (.Call (.Attribute o m apos) [] [] pos) X.env = (do
      let ov ← eval o X.env
      standAt apos.atName
      let (f, first) ← holding [ov] (getMethod ov m pl)
      callWith pos f first (backTo pos (starEach [] X.env)) (backToKw pos (keywordEach [] X.env))) := by rfl) :
    PE X (.Call (.Attribute o m apos) [] [] pos) (fun σ H Q => ta σ H fun z H1 => z = .ref C ∧ sp dvs H1 Q E) := by
  obtain ⟨q, f, mc, fd, ds, G, r, hf, ⟨rest, hrec⟩, kp, v, b⟩ := F.ex
  refine ⟨fun pins s σ H Q I h => ?_⟩
  refine PySem.W.methodCall_KW (pl := pl) (thn (he.run pins s σ H _ I h) fun u s1 ⟨z, H1, I1, rx, ez, q⟩ => ?_) ht
  subst ez
  obtain rfl : u = Value.ref C := rx
  refine PySem.W.method_cls I1.kIn r.ga ?_
  refine PySem.W.cls_bind I1.kIn r.rd hf ?_
  have I2 := I1.tok (s1.toks + 1)
  refine wpAny_call (PySem.W.sm_get (s := { s1 with toks := s1.toks + 1 }) I1.kIn hrec (PySem.W.handed_on rfl ?_))
  exact PySem.W.callWith_K0 (first := []) I2.kIn kp (run_fn (us := []) (vs := []) G hr b v hx I2 .nil (by simpa using q))
end

/-! ### own operators of instances -/
section
variable {X : Cx} {CX : CXT} {lv : Nat} {m : Str} {C : Addr} {ps : List Str} {sp : Sp} {E : XK}
theorem inst_at {pins : List (Addr × Obj)} {σ : L2.St} {H : Hp} {s : Shared} {a C dx : Addr} {fs : List (Str × V)} (I : Inv X pins σ H s) (ea : H a = some (.ins C dx fs)) : ∃ od, PySem.W.InstAt s.heap a (PySem.W.instObj C dx) C (some od) := by
  obtain ⟨mA, O, _, _, _, _⟩ := ins_get I.hok ea
  obtain ⟨od, J, _⟩ := O.look
  exact ⟨od, J⟩
/-- the truth of an instance by its __bool__ (or another def at that name, see hb) -/
def rTruOwn (C : Addr) (sp : Sp) (E : XK) : V → Hp → (Bool → Hp → Prop) → Prop := fun x H Q => ∃ a dx fs, x = .ref a ∧ H a = some (.ins C dx fs) ∧ sp [.ref a] H (fun v H' => ∃ b, v = .bl b ∧ Q b H') E
theorem tru_own (F : Mtd X.prog X.w X.K X.mg X.base CX lv C "__bool__" ps [] sp) (hr : Room lv X.A) (hx : Passes CX X E) : TruR X (rTruOwn C sp E) := by
  intro pins s σ H x v Q I rx h
  obtain ⟨a, dx, fs, rfl, ea, q⟩ := h
  obtain ⟨f, fd, ds, G, k, vd, b⟩ := F.ex
  cases (show v = Value.ref a from rx)
  obtain ⟨od, J⟩ := inst_at I ea
  obtain ⟨mm, hF⟩ := I.fr
  refine PySem.W.truthy_K hF I.ok.mod.kin J k.at_ k.fn ?_
  refine thn (run_fn (us := [.ref a]) (vs := [.ref a]) G hr b vd hx I (.cons rfl .nil) q) fun u s' ⟨z, H', I', rz, bb, ez, qz⟩ => ?_
  subst ez
  cases (show u = Value.bool bb from rz)
  exact ⟨H', I', qz⟩
/-- a name, a call, a field as a test, by its own __bool__ -/
theorem pt_own {a : Expr} {ta : TE} {r : V → Hp → (Bool → Hp → Prop) → Prop} (ht : TruR X r) (ha : PE X a ta) (he : ∀ whole, isTrue a X.env whole = (do let v ← whole; standAt a.pos; holding [v] (truthy v)) := by intro _; rfl) :
    PT X a (fun σ H Q => ta σ H fun x H' => r x H' Q) :=
  ⟨fun pins s σ H Q I h => isTrue_plain (thn (ha.run pins s σ H _ I h) fun v s1 ⟨x, H1, I1, r1, q1⟩ => ht pins s1 σ H1 x v Q I1 r1 q1) (he _)⟩
/-- not a as a value, by a's truth -/
theorem pe_notOwn {a : Expr} {pos : Pos} {ta : TE} {r : V → Hp → (Bool → Hp → Prop) → Prop} (ht : TruR X r) (ha : PE X a ta) : PE X (.UnaryOp .Not a pos) (fun σ H Q => ta σ H fun x H' => r x H' fun b H2 => Q (.bl (!b)) H2) := by
  refine ⟨fun pins s σ H Q I h => ?_⟩
  refine UnaryOp_ (thn (ha.run pins s σ H _ I h) fun v s1 ⟨x, H1, I1, r1, q1⟩ => ?_)
  exact not_of (thn (ht pins s1 σ H1 x v _ I1 r1 q1) fun b s2 ⟨H2, I2, q2⟩ => ⟨.bl (!b), H2, I2, rfl, q2⟩)
/-- x in y, y an instance with its own __contains__ that answers a bool -/
def rInOwn (neg : Bool) (C : Addr) (sp : Sp) (E : XK) : R2 := fun x y H Q => ∃ a dx fs, y = .ref a ∧ H a = some (.ins C dx fs) ∧ sp [.ref a, x] H (fun v H' => ∃ b, v = .bl b ∧ Q (.bl (if neg then !b else b)) H') E
theorem op_inOwn (F : Mtd X.prog X.w X.K X.mg X.base CX lv C "__contains__" ps [] sp) (hr : Room lv X.A) (hx : Passes CX X E) : OpR X (compareOp .In) (rInOwn false C sp E) := by
  intro pins s σ H x y v u Q I rx ry h
  obtain ⟨a, dx, fs, rfl, ea, q⟩ := h
  obtain ⟨f, fd, ds, G, k, vd, b⟩ := F.ex
  cases (show u = Value.ref a from ry)
  obtain ⟨od, J⟩ := inst_at I ea
  obtain ⟨mm, hF⟩ := I.fr
  refine PySem.W.in_K hF I.ok.mod.kin J k.at_ k.fn ?_
  refine thn (run_fn (us := [.ref a, v]) (vs := [.ref a, x]) G hr b vd hx I (.cons rfl (.cons rx .nil)) q) fun u s' ⟨z, H', I', rz, bb, ez, qz⟩ => ?_
  subst ez
  cases (show u = Value.bool bb from rz)
  exact wpAny_truthy_bool ⟨.bl bb, H', I', rfl, qz⟩
theorem op_notInOwn (F : Mtd X.prog X.w X.K X.mg X.base CX lv C "__contains__" ps [] sp) (hr : Room lv X.A) (hx : Passes CX X E) : OpR X (compareOp .NotIn) (rInOwn true C sp E) := by
  intro pins s σ H x y v u Q I rx ry h
  obtain ⟨a, dx, fs, rfl, ea, q⟩ := h
  obtain ⟨f, fd, ds, G, k, vd, b⟩ := F.ex
  cases (show u = Value.ref a from ry)
  obtain ⟨od, J⟩ := inst_at I ea
  obtain ⟨mm, hF⟩ := I.fr
  refine PySem.W.notIn_K hF I.ok.mod.kin J k.at_ k.fn ?_
  refine thn (run_fn (us := [.ref a, v]) (vs := [.ref a, x]) G hr b vd hx I (.cons rfl (.cons rx .nil)) q) fun u s' ⟨z, H', I', rz, bb, ez, qz⟩ => ?_
  subst ez
  cases (show u = Value.bool bb from rz)
  exact wpAny_truthy_bool ⟨.bl (!bb), H', I', rfl, qz⟩
/-- x op y, both instances of the class at C, by C's own def -/
def rBinOwn (C : Addr) (sp : Sp) (E : XK) : R2 := fun x y H Q => ∃ a dx fs b dy gs, x = .ref a ∧ y = .ref b ∧ H a = some (.ins C dx fs) ∧ H b = some (.ins C dy gs) ∧ sp [.ref a, .ref b] H Q E
theorem op_binOwn {op : Operator} (F : Mtd X.prog X.w X.K X.mg X.base CX lv C (PySem.dunder op.info.2) ps [] sp) (hr : Room lv X.A) (hx : Passes CX X E) (hc : PySem.W.selfFirst X.K C = true) : OpR X (binaryOp op) (rBinOwn C sp E) := by
  intro pins s σ H x y v u Q I rx ry h
  obtain ⟨a, dx, fs, b, dy, gs, rfl, rfl, ea, eb, q⟩ := h
  obtain ⟨f, fd, ds, G, k, vd, bb⟩ := F.ex
  cases (show v = Value.ref a from rx)
  cases (show u = Value.ref b from ry)
  obtain ⟨od, J⟩ := inst_at I ea
  obtain ⟨od', J'⟩ := inst_at I eb
  obtain ⟨mm, hF⟩ := I.fr
  refine PySem.W.binop_K hF I.ok.mod.kin J J'.type hc k.at_ k.fn ?_
  exact thn (run_fn (us := [.ref a, .ref b]) (vs := [.ref a, .ref b]) G hr bb vd hx I (.cons rfl (.cons rfl .nil)) q) fun w s' ⟨z, H', I', rz, qz⟩ => SlX.cmpback rz ⟨z, H', I', rz, qz⟩
/-- x == y, x an instance of the class at C with its own __eq__, y anything that is not of a class below C -/
def rEqOwn (K : PySem.W.Frag) (C : Addr) (sp : Sp) (E : XK) : R2 := fun x y H Q => ∃ a dx fs tb, x = .ref a ∧ H a = some (.ins C dx fs) ∧ TyX K H y tb ∧ PySem.W.notFirst K C tb = true ∧ sp [.ref a, y] H Q E
theorem op_eqOwn (F : Mtd X.prog X.w X.K X.mg X.base CX lv C "__eq__" ps [] sp) (hr : Room lv X.A) (hx : Passes CX X E) : OpR X (compareOp .Eq) (rEqOwn X.K C sp E) := by
  intro pins s σ H x y v u Q I rx ry h
  obtain ⟨a, dx, fs, tb, rfl, ea, ty, hn, q⟩ := h
  obtain ⟨f, fd, ds, G, k, vd, bb⟩ := F.ex
  cases (show v = Value.ref a from rx)
  obtain ⟨od, J⟩ := inst_at I ea
  obtain ⟨mm, hF⟩ := I.fr
  obtain ⟨P, Z, p, _⟩ := kit_of I ry ty
  show wpAny _ _ (richCompare .Eq (.ref a) u) _ _ _
  refine PySem.W.cmp_K (op := .Eq) (tb := tb) hr.units0 hF I.ok.mod.kin J (Z.ty _ _ I.kIn p) hn k.at_ k.fn ?_
  exact thn (run_fn (us := [.ref a, u]) (vs := [.ref a, y]) G hr bb vd hx I (.cons rfl (.cons ry .nil)) q) fun w s' ⟨z, H', I', rz, qz⟩ => SlX.cmpback rz ⟨z, H', I', rz, qz⟩
/-- ~x by its own __invert__ -/
def rInvOwn (C : Addr) (sp : Sp) (E : XK) : V → Hp → VK → Prop := fun x H Q => ∃ a dx fs, x = .ref a ∧ H a = some (.ins C dx fs) ∧ sp [.ref a] H Q E
theorem un_invOwn (F : Mtd X.prog X.w X.K X.mg X.base CX lv C "__invert__" ps [] sp) (hr : Room lv X.A) (hx : Passes CX X E) : UnR X (unaryOp .Invert) (rInvOwn C sp E) := by
  intro pins s σ H x v Q I rx h
  obtain ⟨a, dx, fs, rfl, ea, q⟩ := h
  obtain ⟨f, fd, ds, G, k, vd, b⟩ := F.ex
  cases (show v = Value.ref a from rx)
  obtain ⟨od, J⟩ := inst_at I ea
  obtain ⟨mm, hF⟩ := I.fr
  refine PySem.W.ksp_inv hF I.ok.mod.kin J k.at_ k.fn ?_
  exact run_fn (us := [.ref a]) (vs := [.ref a]) G hr b vd hx I (.cons rfl .nil) q
end
end RS

set_option maxRecDepth 100000
set_option maxHeartbeats 4000000
namespace RS
open PySem PySem.Spec PyProof.Rows L2
/-! ### x != y where the class has __eq__ but no __ne__ -/
section
open PySem.W Builtin
variable {prog : Program} {w : World} {A : Around} {E : Value → Shared → Prop} {s : Shared} {K : Frag} {x C f : Addr} {ox : Obj} {od : Option Obj} {b tb : Value}
theorem objNe_K {Q : Fin → Shared → Prop} (hu : A.units < cLine) (X : K.In s.heap) (I : InstAt s.heap x ox C od) (he : findIn K (.ref C) "__eq__" = some (some (.ref f))) (hf : isFn K (.ref f) = true)
    (h : wpAny (model prog w) A (call (.ref f) [.ref x, b]) (fun v s' => ∃ k, v = .bool k ∧ Q (.done (.ret (.bool (!k)))) s') E s) :
    wpAny (model prog w) A (Builtin.«object.__ne__» ⟨[.ref x, b], []⟩) Q E s := by
  unfold Builtin.«object.__ne__»
  repeat (first
    | with_reducible refine wpAny_cRoomFor hu ?_
    | (refine wpAny_bind (m := callSpecialIfBound? (.ref x) (Str.ofString "__eq__") [b])
        (ifBound_K X I he hf (wpAny_mono h (fun r s' hr => by
          obtain ⟨k, rfl, hq⟩ := hr
          repeat (first | exact hq | exact wpAny_pure hq | exact wpAny_truthy_bool hq | (refine wpAny_bind (m := truthy (.bool _)) (wpAny_truthy_bool ?_)) | wp_step)) fun _ _ e => e)))
    | wp_step)
theorem ne_K {Q : Value → Shared → Prop} (hu : A.units + 1 < cLine) (X : K.In s.heap) (I : InstAt s.heap x ox C od) (hb : Looks (model prog w) s.heap (typeOf b) tb) (hn : notFirst K C tb = true)
    (hs : findIn K (.ref C) "__ne__" = some (some (.builtin "object.__ne__"))) (he : findIn K (.ref C) "__eq__" = some (some (.ref f))) (hf : isFn K (.ref f) = true) (hm : mroIn K C (.type "object") = some true)
    (h : wpAny (model prog w) A.in1 (call (.ref f) [.ref x, b]) (fun v s' => ∃ k, v = .bool k ∧ Q (.bool (!k)) s') E s) : wpAny (model prog w) A (richCompare .NotEq (.ref x) b) Q E s := by
  have sub : Looks (model prog w) s.heap (isInstance (.ref x) (.type "object")) true := I.type.andThen (looks_mroIn X hm)
  have one : wpAny (model prog w) A (tryCompare (.ref x) "__ne__" b) (fun r s' => ∃ v, r = some v ∧ Q v s') E s := by
    unfold tryCompare
    refine wpAny_bind (m := callSpecialIfBound? (.ref x) (Str.ofString "__ne__") [b]) ?_
    simp only [callSpecialIfBound?, bindSpecialIfBound?]
    refine wpAny_holding (wpAny_bind (wpAny_bind (wpAny_bind (I.type.here ((looks_findIn X hs).here ?_)))))
    have cal : ∀ (Q' : Option Value → Shared → Prop), (∀ k s', Q (.bool (!k)) s' → Q' (some (.bool (!k))) s') → wpAny (model prog w) A (call (.builtin "object.__ne__") ([.ref x] ++ [b]) >>= fun v => pure (some v)) Q' E s := fun Q' hQ => by
      refine wpAny_bind (wpAny_call (codeAny_call_builtin F.cmp_object.ne.plain F.cmpEntry_ne
        (@check_slot (model prog w) _ _ s "object.__ne__" "object" "__ne__" (.ref x) [b] [] _ F.cmpKind_ne F.cmpSplit_ne sub (F.cmpArgs_ne _ _) (objNe_K (A := A.in1) hu X I he hf (wpAny_mono h (fun v s' hv => ?_) fun _ _ e => e)))))
      obtain ⟨k, rfl, hq⟩ := hv
      exact ⟨k, rfl, wpAny_pure (hQ _ _ hq)⟩
    refine wpAny_bind (wpAny_askSetting (wpAny_ite ?_))
    split
    · exact wpAny_bind (wpAny_of_eq (F.cmp_object.ne.bind _) (wpAny_pure (by exact cal _ fun k s' hq => wpAny_pure ⟨_, rfl, hq⟩)))
    · exact wpAny_tryCatch (wpAny_bind (wpAny_of_eq (F.cmp_object.ne.bind _) (wpAny_pure (by exact cal _ fun k s' hq => wpAny_pure ⟨_, rfl, hq⟩))))
  unfold richCompare
  simp only [oneThing_ref]
  refine wpAny_holding (wpAny_bind (wpAny_cRoomFor (Nat.lt_of_succ_lt hu) ?_))
  refine wpAny_bind (I.type.here (wpAny_bind (hb.here ?_)))
  rw [cmpInfo_NotEq]
  dsimp only
  split
  · rename_i q
    have e : subIn K tb (.ref C) = some false := by
      rcases Bool.or_eq_true_iff.mp hn with e | e
      · rw [beq_iff_eq.mp e] at q; simp at q
      · exact beq_iff_eq.mp e
    refine wpAny_bind ((looks_subIn X e).here ?_)
    simp only [Bool.false_eq_true, if_false]
    refine wpAny_bind (wpAny_mono one (fun r s' z => ?_) fun _ _ e => e)
    obtain ⟨v, rfl, hq⟩ := z
    exact wpAny_pure hq
  · refine wpAny_bind (wpAny_pure ?_)
    simp only [Bool.false_eq_true, if_false]
    refine wpAny_bind (wpAny_mono one (fun r s' z => ?_) fun _ _ e => e)
    obtain ⟨v, rfl, hq⟩ := z
    exact wpAny_pure hq
end
/-- no __ne__ of its own -/
structure NoNe (K : PySem.W.Frag) (C : Addr) : Prop where
  ne : PySem.W.findIn K (.ref C) "__ne__" = some (some (.builtin "object.__ne__"))
  ob : PySem.W.mroIn K C (.type "object") = some true
section
variable {X : Cx} {CX : CXT} {lv : Nat} {m : Str} {C : Addr} {ps : List Str} {sp : Sp} {E : XK}
/-- x != y, x an instance whose class has __eq__ (answering a bool) and no __ne__ -/
def rNeOwn (K : PySem.W.Frag) (C : Addr) (sp : Sp) (E : XK) : R2 := fun x y H Q => ∃ a dx fs tb, x = .ref a ∧ H a = some (.ins C dx fs) ∧ TyX K H y tb ∧ PySem.W.notFirst K C tb = true ∧ sp [.ref a, y] H (fun v H' => ∃ k, v = .bl k ∧ Q (.bl (!k)) H') E
theorem run_in1 {pins : List (Addr × Obj)} {σ : L2.St} {H : Hp} {s : Shared} {Q : VK} {f : Addr} {fd : FuncData} {us : List Value} {vs : List V} (F : FnOk X.prog X.w X.K X.mg X.base CX lv f fd ps sp) (hr : Room (lv + 1) X.A) (hb : Binds X.K fd ps []) (hx : Passes CX X E)
    (I : Inv X pins σ H s) (r : Vals vs us) (h : sp vs H Q E) : wpAny (model X.prog X.w) X.A.in1 (call (.ref f) us) (EP X pins σ Q) X.xe s := by
  have hl : (us ++ []).length = ps.length := by rw [List.append_nil, ← r.length]; exact F.len _ _ _ _ h
  have hb2 := hb s us I.kIn hl
  rw [List.append_nil] at hb2
  refine wpAny_call (codeAny_mono (F.run X.A.in1 X.stack s H ⟨us, []⟩ us vs Q E hr.in1 I.env0.in1 hb2 r h) fun r s' hq => ?_)
  cases r with
  | error e => exact hx pins σ H s e s' I hq
  | ok fl =>
    cases fl with
    | ret u => exact I.after hq
    | next => exact False.elim hq
    | brk => exact False.elim hq
    | cont => exact False.elim hq
theorem op_neOwn (n : NoNe X.K C) (F : Mtd X.prog X.w X.K X.mg X.base CX lv C "__eq__" ps [] sp) (hr : Room (lv + 1) X.A) (hx : Passes CX X E) : OpR X (compareOp .NotEq) (rNeOwn X.K C sp E) := by
  intro pins s σ H x y v u Q I rx ry h
  obtain ⟨a, dx, fs, tb, rfl, ea, ty, hn, q⟩ := h
  obtain ⟨f, fd, ds, G, k, vd, bb⟩ := F.ex
  cases vd
  cases (show v = Value.ref a from rx)
  obtain ⟨od, J⟩ := inst_at I ea
  obtain ⟨P, Z, p, _⟩ := kit_of I ry ty
  show wpAny _ _ (richCompare .NotEq (.ref a) u) _ _ _
  refine ne_K (by have := hr.units; omega) I.kIn J (Z.ty _ _ I.kIn p) hn n.ne k.at_ k.fn n.ob ?_
  refine thn (run_in1 (us := [.ref a, u]) (vs := [.ref a, y]) G hr bb hx I (.cons rfl (.cons ry .nil)) q) fun w s' ⟨z, H', I', rz, kk, ez, qz⟩ => ?_
  subst ez
  exact ⟨kk, rz, .bl (!kk), H', I', rfl, qz⟩
end
/-! ### bool(x) by x's own __bool__ -/
theorem bool_own {prog : Program} {w : World} {A : Around} {E : Value → Shared → Prop} {s : Shared} {x : Addr} {Q : Value → Shared → Prop}
    (ht : wpAny (model prog w) A.in1.in1 (truthy (.ref x)) (fun b s' => Q (.bool b) s') E s) : wpAny (model prog w) A (call (.type "bool") [.ref x]) Q E s := by
  refine callType_codes (T := "bool") (Bi := Builtin.«object.__init__») (Q₁ := fun r s₁ => ∃ k, r = Value.bool k ∧ Q r s₁) PySem.F.called_bool (PySem.F.typeCall_bool_1 _) PySem.F.entry_object_init ?_ ?_
  · refine codeAny_of_tree ?_
    show wpAny _ A.in1.in1 (do checkBuiltinCall "bool.__new__" ⟨[.type "bool", .ref x], []⟩; again (.builtin "bool.__new__" ⟨[.type "bool", .ref x], []⟩)) _ _ s
    refine wpAny_bind (wpAny_of_eq (PySem.F.newCall_bool_1 _) (wpAny_pure ⟨plainId_quiet (by decide +kernel) _, codeAny_builtin PySem.F.entry_bool_new ?_⟩))
    rw [Around.under_plainId (by decide +kernel) _]
    have f1 := PySem.F.conv_sub_bool
    unfold Builtin.«bool.__new__»
    repeat (first | (with_reducible refine wpAny_mono ht (fun b s' hb => ?_) (fun _ _ z => z)) | wp_step)
    exact ⟨b, rfl, hb⟩
  · rintro obj s₁ ⟨k, rfl, hq⟩
    exact ⟨PySem.typeIs_bool _ _, PySem.F.args_object_init_2 _ _, object_init_meets PySem.F.called_bool.init.lookup PySem.F.called_bool.made (by decide) prog w A.in1 _ s₁ ⟨PySem.typeIs_bool _ _, rfl, hq⟩⟩
section
variable {X : Cx} {CX : CXT} {lv : Nat} {m : Str} {C : Addr} {ps : List Str} {sp : Sp} {E : XK}
theorem call_boolOwn (F : Mtd X.prog X.w X.K X.mg X.base CX lv C "__bool__" ps [] sp) (hr : Room (lv + 2) X.A) (hx : Passes CX X E) : CallR X (.type "bool") (fun xs H Q => ∃ x, xs = [x] ∧ rTruOwn C sp E x H fun b H' => Q (.bl b) H') := by
  intro pins s σ H xs us Q I r h
  obtain ⟨x, rfl, a, dx, fs, rfl, ea, q⟩ := h
  obtain ⟨f, fd, ds, G, k, vd, bb⟩ := F.ex
  cases vd
  obtain ⟨u, rfl, ru⟩ := vals1 r
  cases (show u = Value.ref a from ru)
  obtain ⟨od, J⟩ := inst_at I ea
  obtain ⟨mm, hF⟩ := I.fr
  refine bool_own (PySem.W.truthy_K hF I.ok.mod.kin J k.at_ k.fn ?_)
  have hl : (([.ref a] : List Value) ++ []).length = ps.length := (G.len _ _ _ _ q)
  have hb2 := bb s [.ref a] I.kIn hl
  rw [List.append_nil] at hb2
  have hr2 : Room lv X.A.in1.in1 := (show Room (lv + 1) X.A.in1 from Room.in1 hr).in1
  refine wpAny_call (codeAny_mono (G.run X.A.in1.in1 X.stack s H ⟨[.ref a], []⟩ [.ref a] [.ref a] _ E hr2 I.env0.in1.in1 hb2 (.cons rfl .nil) q) fun r s' hq => ?_)
  cases r with
  | error e => exact hx pins σ H s e s' I hq
  | ok fl =>
    cases fl with
    | ret u =>
      obtain ⟨z, H', I', rz, b, ez, qz⟩ := I.after hq
      subst ez
      cases (show u = Value.bool b from rz)
      exact ⟨.bl b, H', I', rfl, qz⟩
    | next => exact False.elim hq
    | brk => exact False.elim hq
    | cont => exact False.elim hq
end
end RS

set_option maxRecDepth 100000
set_option maxHeartbeats 4000000
namespace RS
open PySem PySem.Spec PyProof.Rows L2 He
/-! ### the head's facts: defs at any path, and any Bool of the fragment -/
abbrev Frg := PySem.W.Frag
/-- a property's getter; a static method's def -/
def prA (K : Frg) (C : Addr) (m : Str) : Addr := match PySem.W.recIn K (ma K C m) "property" with
  | some (.ref g :: _) => g
  | _ => 0
def smA (K : Frg) (C : Addr) (m : Str) : Addr := match PySem.W.recIn K (ma K C m) "staticmethod" with
  | some (.ref g :: _) => g
  | _ => 0
structure DefR where
  adr : Frg → Addr
  name : Str
  qual : Str
  params : Arguments
  body : List Stmt
  scope : Scope
  dfl : List Dv := []
  clo : List Str := []
abbrev FnZ : Type := Option (Str × Str × Arguments × FuncBody × Scope × Addr × List Str × Addr)
def fnA (K : Frg) (a : Addr) : FnZ := match K.lookup a with
  | some ⟨_, _, .func fd, _⟩ => some (fd.name, fd.qualname, fd.params, fd.body, fd.scope, fd.globals, fd.closure.map (·.1), fd.builtins)
  | _ => none
def DefR.val (d : DefR) : FnZ := some (d.name, d.qual, d.params, .stmts d.body, d.scope, mainGlobals, d.clo, builtinsNs)
def DefR.dvs (K : Frg) (d : DefR) : List V := d.dfl.map (Dv.v K)
def DefR.ok (K : Frg) (d : DefR) : Bool := PySem.W.keepIn K (.ref (d.adr K)) && (match K.lookup (d.adr K) with
  | some ⟨_, _, .func fd, _⟩ => PySem.W.codeIn K fd.code d.qual && dflB K fd.defaults (d.dvs K)
  | _ => false)
theorem DefR.funD {K : Frg} {d : DefR} (e : fnA K (d.adr K) = d.val) (c : d.ok K = true) (hclo : d.clo = []) : ∃ fd, FunD K d.name d.qual d.params d.body d.scope (d.dvs K) [] (d.adr K) fd := by
  obtain ⟨kp, c2⟩ := ba c
  unfold fnA at e
  cases q : K.lookup (d.adr K) with
  | none =>
    rw [q] at c2
    cases c2
  | some o =>
    obtain ⟨oc, od, dt, osl⟩ := o
    rw [q] at c2 e
    cases dt with
    | func fd =>
      obtain ⟨n1, n2, n3, n4, n5, n6, n7, n8, n9, n10, n11, n12, n13, n14, n15⟩ := fd
      have e2 : (some (n1, n2, n3, n4, n5, n6, n7.map (·.1), n15) : FnZ) = some (d.name, d.qual, d.params, .stmts d.body, d.scope, mainGlobals, d.clo, builtinsNs) := e
      rw [hclo] at e2
      simp only [Option.some.injEq, Prod.mk.injEq, List.map_eq_nil_iff] at e2
      obtain ⟨h1, h2, h3, h4, h5, h6, h7, h8⟩ := e2
      subst h1 h2 h3 h4 h5 h6 h7 h8
      have c3 : (PySem.W.codeIn K n13 d.qual && dflB K n8 (d.dvs K)) = true := c2
      obtain ⟨k1, k2⟩ := ba c3
      exact ⟨_, ⟨oc, od, n8, n9, n10, n11, n12, n13, n14, osl, rfl, q, k1, dflB_ok k2, .inl rfl⟩, kp⟩
    | _ => cases c2
def asR (g : Addr → Option Obj) : Nat → List Addr
  | 0 => [mainGlobals, cStatics]
  | n + 1 => growD g (asR g n)
abbrev AlR : Type := Bool × List FnZ
def obsR (ex : Frg → Bool) (fn : List DefR) (K : Frg) : AlR := (ex K && fn.all fun d => d.ok K, fn.map fun d => fnA K (d.adr K))
def valR (fn : List DefR) : AlR := (true, fn.map DefR.val)
def SaysR (ex : Frg → Bool) (fn : List DefR) (K : Frg) : Prop := obsR ex fn K = valR fn
def obsRG (n : Nat) (ex : Frg → Bool) (fn : List DefR) (g : Addr → Option Obj) : AlR := obsR ex fn (frG g (asR g n))
def hookR (n : Nat) (ex : Frg → Bool) (fn : List DefR) : PySem.W.Hook where
  α := AlR
  obs := fun s => obsRG n ex fn s.heap.get?
  val := fun _ => valR fn
  says := fun _ h => ∃ K : Frg, K.In h ∧ SaysR ex fn K
  of := fun _ _ e => ⟨_, frG_in, e⟩
  keeps := fun _ _ _ ⟨K, hK, c⟩ k => ⟨K, PySem.W.Frag.In.keeps hK k, c⟩
theorem obsRG_eq {n : Nat} {ex : Frg → Bool} {fn : List DefR} {g : Addr → Option Obj} {s : Shared} (h : ∀ a, g a = s.heap.get? a) : obsRG n ex fn g = (hookR n ex fn).obs s := by
  have e : g = s.heap.get? := funext h
  rw [e] <;> rfl
section
variable {ex : Frg → Bool} {fn : List DefR} {K : Frg}
theorem SaysR.more (c : SaysR ex fn K) : ex K = true := (ba (show (ex K && fn.all fun d => d.ok K) = true from congrArg (fun z : AlR => z.1) c)).1
theorem SaysR.def_ (c : SaysR ex fn K) (i : Nat) {d : DefR} (h : fn[i]? = some d := by rfl) (hclo : d.clo = [] := by rfl) : ∃ fd, FunD K d.name d.qual d.params d.body d.scope (d.dvs K) [] (d.adr K) fd := by
  have c2 := (ba (show (ex K && fn.all fun d => d.ok K) = true from congrArg (fun z : AlR => z.1) c)).2
  have e : fn.map (fun d => fnA K (d.adr K)) = fn.map DefR.val := congrArg (fun z : AlR => z.2) c
  have e2 : (fn.map fun d => fnA K (d.adr K))[i]? = (fn.map DefR.val)[i]? := by rw [e]
  rw [List.getElem?_map, List.getElem?_map, h] at e2
  exact DefR.funD (Option.some.inj e2) (List.all_eq_true.mp c2 d (List.mem_of_getElem? h)) hclo
theorem SaysR.val_ (c : SaysR ex fn K) (i : Nat) {d : DefR} (h : fn[i]? = some d := by rfl) : fnA K (d.adr K) = d.val := by
  have e : fn.map (fun d => fnA K (d.adr K)) = fn.map DefR.val := congrArg (fun z : AlR => z.2) c
  have e2 : (fn.map fun d => fnA K (d.adr K))[i]? = (fn.map DefR.val)[i]? := by rw [e]
  rw [List.getElem?_map, List.getElem?_map, h] at e2
  exact Option.some.inj e2
end
/-! ### facts as Bools -/
def freeB (K : Frg) (x : Str) : Bool := (Fa.free x).ok K
def gloB (K : Frg) (x : Str) : Bool := (Fa.glo x).ok K
def clsB (K : Frg) (x : Str) : Bool := (Fa.cls x).ok K
def noatB (K : Frg) (x f : Str) : Bool := (Fa.noat x f).ok K
def methB (K : Frg) (x f : Str) : Bool := (Fa.meth x f).ok K
def mkrB (K : Frg) (x : Str) : Bool := (Fa.mkr x).ok K
def prpB (K : Frg) (x m : Str) : Bool := eqO (PySem.W.findIn K (.ref (ga K x)) m) (some (some (.ref (ma K (ga K x) m)))) &&
  (eqO (PySem.W.specialIn K (.ref (ma K (ga K x) m)) "__get__") (some (some (.builtin "property.__get__"))) && (decide (PySem.W.takesIn K (.ref (ma K (ga K x) m)) = some true) &&
  (match PySem.W.recIn K (ma K (ga K x) m) "property" with
  | some (.ref g :: _) => decide (g = prA K (ga K x) m)
  | _ => false)))
theorem prpB_ok {K : Frg} {x m : Str} (h : prpB K x m = true) : PropOf K (ga K x) m (ma K (ga K x) m) (prA K (ga K x) m) := by
  obtain ⟨h1, h⟩ := ba h
  obtain ⟨h2, h⟩ := ba h
  obtain ⟨h3, h4⟩ := ba h
  refine ⟨eqO_ok h1, eqO_ok h2, of_decide_eq_true h3, ?_⟩
  split at h4
  · rename_i g rest e
    exact ⟨rest, by rw [e, of_decide_eq_true h4]⟩
  · cases h4
/-- attributes of the class x are read in the plain way -/
def crdB (K : Frg) (x : Str) : Bool := PySem.W.readsIn K (ga K x) (.type "type") && eqO (PySem.W.specialIn K (.ref (ga K x)) "__getattribute__") (some (some (.builtin "type.__getattribute__")))
theorem crdB_ok {K : Frg} {x : Str} (h : crdB K x = true) : ClX.CRead K (ga K x) (.type "type") := by
  obtain ⟨h1, h2⟩ := ba h
  exact ⟨h1, eqO_ok h2⟩
def stcB (K : Frg) (x m : Str) : Bool := (match PySem.W.findCls K (.ref (ga K x)) (.type "type") m with
  | some (.get (.builtin i) (.ref p) .none (.ref C)) => decide (i = "staticmethod.__get__") && (decide (p = ma K (ga K x) m) && decide (C = ga K x))
  | _ => false) && (match PySem.W.recIn K (ma K (ga K x) m) "staticmethod" with
  | some (.ref g :: _) => decide (g = smA K (ga K x) m)
  | _ => false)
theorem stcB_ok {K : Frg} {x m : Str} (h : stcB K x m = true) : PySem.W.findCls K (.ref (ga K x)) (.type "type") m = some (.get (.builtin "staticmethod.__get__") (.ref (ma K (ga K x) m)) .none (.ref (ga K x))) ∧
    ∃ rest, PySem.W.recIn K (ma K (ga K x) m) "staticmethod" = some (.ref (smA K (ga K x) m) :: rest) := by
  obtain ⟨h1, h2⟩ := ba h
  constructor
  · split at h1
    · rename_i i p C e
      obtain ⟨a, b⟩ := ba h1
      obtain ⟨b, c⟩ := ba b
      rw [e, of_decide_eq_true a, of_decide_eq_true b, of_decide_eq_true c]
    · cases h1
  · split at h2
    · rename_i g rest e
      exact ⟨rest, by rw [e, of_decide_eq_true h2]⟩
    · cases h2
/-- what isinstance asks of an instance of the class x -/
structure IsiC (K : Frg) (C : Addr) : Prop where
  cl : Cls K C
  ca : PySem.W.findIn K (.ref C) "__class__" = some (some (.builtin "object.__class__"))
  cn : PySem.W.specialIn K (.builtin "object.__class__") "__get__" = some (some (.builtin "getset_descriptor.__get__"))
  ct : PySem.W.takesIn K (.builtin "object.__class__") = some true
  cm : PySem.W.mroIn K C (.type "object") = some true
def isiB (K : Frg) (x : Str) : Bool := clsB K x && (eqO (PySem.W.findIn K (.ref (ga K x)) "__class__") (some (some (.builtin "object.__class__"))) &&
  (eqO (PySem.W.specialIn K (.builtin "object.__class__") "__get__") (some (some (.builtin "getset_descriptor.__get__"))) && (decide (PySem.W.takesIn K (.builtin "object.__class__") = some true) && decide (PySem.W.mroIn K (ga K x) (.type "object") = some true))))
theorem isiB_ok {K : Frg} {x : Str} (h : isiB K x = true) : IsiC K (ga K x) := by
  obtain ⟨h0, h⟩ := ba h
  obtain ⟨h1, h⟩ := ba h
  obtain ⟨h2, h⟩ := ba h
  obtain ⟨h3, h4⟩ := ba h
  exact ⟨cls_ok h0, eqO_ok h1, eqO_ok h2, of_decide_eq_true h3, of_decide_eq_true h4⟩
theorem IsiC.ty {K : Frg} {C : Addr} (c : IsiC K C) {H : Hp} {a dx : Addr} {fs : List (Str × V)} (e : H a = some (.ins C dx fs)) : TyX K H (.ref a) (.ref C) := .base (.ins e c.cl c.ca c.cn c.ct c.cm)
def neB (K : Frg) (x : Str) : Bool := eqO (PySem.W.findIn K (.ref (ga K x)) "__ne__") (some (some (.builtin "object.__ne__"))) && decide (PySem.W.mroIn K (ga K x) (.type "object") = some true)
theorem neB_ok {K : Frg} {x : Str} (h : neB K x = true) : NoNe K (ga K x) := by
  obtain ⟨h1, h2⟩ := ba h
  exact ⟨eqO_ok h1, of_decide_eq_true h2⟩
def kitB1 (K : Frg) (t c : Value) (b : Bool) : Bool := decide (PySem.W.kitOne K t c = some b)
end RS

set_option maxRecDepth 100000
set_option maxHeartbeats 4000000
/-! ### own exceptions whose __init__ calls the base's by super() -/
namespace PySem.RSX
open PySem PySem.W PySem.F PySem.Calls PyProof.Rows PySem.ESX
section
variable {prog : Program} {w : World} {A : Around} {E : Value → Shared → Prop} {h : Heap} {g : Array GenState} {d : Drawn} {t : Nat} {os : OsState}
variable {nm q : Str} {C N : Addr} {bs bm : List Value} {hdct : Bool} {sn : List Str} {sub : List Value} {ab : Bool} {col : Option Bool} {dd : Option Addr} {k0 k1 k2 k3 k5 : Option Value}
theorem call_mw {u e t0 : Addr} {rest : List Value} {Q : Value → Shared → Prop}
    (hC : h.get? C = some (excClassObj nm q C N bs bm hdct sn sub ab col dd k0 k1 k2 k3 k5 "ValueError.__new__")) (he : h.get? e = some (HandSPX.excO C t0)) (hu : h.get? u = some (kxs_mw "ValueError.__init__" e)) (hrest : rest.length ≤ sizeLine)
    (hq : ∀ h' t1, (∀ b o, b ≠ e → h.get? b = some o → h'.get? b = some o) → h'.get? e = some (HandSPX.excO C t1) → Q .none ⟨h', g, d, t, os⟩) :
    wpAny (model prog w) A (call (.ref u) rest) Q E ⟨h, g, d, t, os⟩ := by
  refine wpAny_call (codeAny_of_tree ?_)
  show wpAny _ A.in1 (callAny (.ref u) ⟨rest, []⟩) _ _ _
  simp only [callAny]
  refine wpAny_bind (wpAny_load hu ?_)
  simp only [kxs_mw, show (Value.type "method-wrapper" == Value.type "method" || Value.type "method-wrapper" == Value.type "builtin_function_or_method" || Value.type "method-wrapper" == Value.type "method-wrapper") = true by decide, if_true]
  refine W.KFB.if_so (by decide) ?_
  refine wpAny_bind (check_bound F.excBase_ValueError hC he rfl ?_)
  refine wpAny_bind (wpAny_pure (wpAny_pure ?_))
  refine ⟨Code.quiet_builtin _ (by decide +kernel), codeAny_builtin F.excBase_ValueError.initEntry ?_⟩
  rw [Around.under_plainId F.excBase_ValueError.init.plain _]
  wp_walk
  refine hq _ h.objs.size (fun b o hb ho => ?_) ?_
  · rw [Heap.get?_update_other _ _ (Ne.symm hb)]
    exact Heap.get?_push_of_some _ ho
  · rw [Heap.get?_update_self _ (Heap.get?_push_of_some _ he) rfl]
    rfl
end
end PySem.RSX
namespace RS
open PySem PySem.Spec PyProof.Rows L2 NdefX
/-- the class at C: an own exception (its __init__ says super().__init__(..)) -/
structure SupC (K : Frg) (C : Addr) : Prop where
  ox : OexC K C
  sup : PySem.W.ks_superIn K C C "__init__" = some (some (.builtin "ValueError.__init__"))
  op : PySem.W.nsIn K cStatics "thirdparty.any" = some none
  ve : PySem.W.mroIn K C (.type "ValueError") = some true
  me : PySem.W.mroIn K C (.ref C) = some true
/-- the def at f: closed over the cell of its class C -/
structure FunX (K : Frg) (P : Program) (name qual : Str) (params : Arguments) (body : List Stmt) (scope : Scope) (C : Addr) (f : Addr) (fd : FuncData) : Prop where
  ex : ∃ (oc : Value) (od : Option Addr) (doc pm ct : Value) (an : Option Addr) (cda cc : Addr) (osl : Array (Option Value)),
    fd = PySem.W.fnX name qual params body scope [("__class__", cc)] .none .none doc pm an (.ref cda) ct ∧ K.lookup f = some ⟨oc, od, .func fd, osl⟩ ∧ PySem.W.codeIn K (.ref cda) qual = true ∧
    (∃ ccl cdd vs ccs file tf, K.lookup cda = some ⟨ccl, cdd, .fields vs, ccs⟩ ∧ vs[2]? = some (.str file tf) ∧ (P.main.file == file) = true) ∧ ∃ cl cld csl, K.lookup cc = some ⟨cl, cld, .cell (some (.ref C)), csl⟩
  kp : PySem.W.keepIn K (.ref f) = true
abbrev supCall (p0 p1 ap cp pc : Pos) (j : Nat) (msg : Str) : Expr := .Call (.Attribute (.Call (.Name "super" p0) [] [] p1) "__init__" ap) [.Constant (.str msg) j pc] [] cp
section
variable {P : Program} {w : World} {K : Frg} {mg : Str → Option Value} {base : Heap} {CX : CXT} {k : Nat} {x qual s0 msg : Str} {params : Arguments} {rest : List Stmt} {scope : Scope} {C f : Addr} {fd : FuncData} {N ps : List Str} {sp : Sp} {p0 p1 ap cp pc sp0 : Pos} {j : Nat} {ar : Arg}
theorem fnx_of (F : FunX K P x qual params (.Expr (supCall p0 p1 ap cp pc j msg) sp0 :: rest) scope C f fd) (S : NScope N (s0 :: ps) ["__class__"] scope) (T : SupC K C)
    (hp : (params.posonlyargs ++ params.args).head? = some ar) (har : ar.arg = s0) (hs : scope.names.lookup ("super" : Str) = some .globalImplicit) (hmg : mg "super" = none) (htop : (P.main.scope.names.lookup ("super" : Str)).isSome = false)
    (hev : ∀ L cda cc : Addr, ∃ pl : Sem Bool, eval (supCall p0 p1 ap cp pc j msg) (PySem.W.envX qual scope L f (.ref cda) [("__class__", cc)]) = (do
      let ov ← attributeBase (.Call (.Name "super" p0) [] [] p1) "__init__" (PySem.W.envX qual scope L f (.ref cda) [("__class__", cc)]) (eval (.Call (.Name "super" p0) [] [] p1) (PySem.W.envX qual scope L f (.ref cda) [("__class__", cc)]))
      standAt ap.atName
      let (g, first) ← holding [ov] (getMethod ov "__init__" pl)
      callWith cp g first (backTo cp (starEach [.Constant (.str msg) j pc] (PySem.W.envX qual scope L f (.ref cda) [("__class__", cc)]))) []))
    (hsw : ∀ L cda cc : Addr, swapsWith (supCall p0 p1 ap cp pc j msg) none sp0.line (PySem.W.envX qual scope L f (.ref cda) [("__class__", cc)]) = pure false)
    (len : ∀ vs H Q E, sp vs H Q E → vs.length = (s0 :: ps).length)
    (hbody : ∀ (cda cc : Addr) (A : Around) (outer : List Env) (s : Shared) (H : Hp) (vs : List V) (Q : VK) (E : XK), Room k (A.deeper (envF ⟨x, qual, params, [], scope, [("__class__", cc)], cda⟩ f s.heap.objs.size)) → sp vs H Q E →
      ∃ (a : Addr) (ws : List V) (t : TS), vs = .ref a :: ws ∧ H a = some (exo a C none) ∧ PSs (ncx CX P w K mg base N ⟨x, qual, params, [], scope, [("__class__", cc)], cda⟩ f A outer s H E) rest t ∧
        t { nx := fun _ H' => Q .non H', rt := Q } (startF N vs [some (.ref C)]) H) :
    FnOk P w K mg base CX (k + 1) f fd (s0 :: ps) sp := by
  obtain ⟨oc, od, doc, pm, ct, an, cda, cc, osl, rfl, lk, hcd, ⟨ccl, cdd, vs0, ccs, file, tf, hcode, hvs, hfile⟩, ⟨cl, cld, csl, hcell⟩⟩ := F.ex
  refine ⟨len, fun A outer s H args us vs Q E hr e0 hb r hsp => ?_⟩
  have hl := len _ _ _ _ hsp
  have KX : K.In s.heap := e0.mod.kin.keeps fun b o e => (e0.bs b o e).1
  have lim : s.heap.NoLimit := e0.mod.nolimit.keeps fun b o e => (e0.bs b o e).1
  refine ks_codeAny_call_defAt (body := (.Expr (supCall p0 p1 ap cp pc j msg) sp0 :: rest)) (binds := (s0 :: ps).zip us) hr.depth (KX _ _ lk) rfl lim (PySem.W.codeRec_of KX hcd) rfl hb S.nocell (fun y hy => S.par y.1 (List.of_mem_zip hy).1) (fun h₁ hns kp => ?_) S.co S.gen S.kind
  have CA : CellsAt [("__class__", cc)] ["__class__"] [some (.ref C)] s.heap H := by
    have e1 : s.heap.IsCell cc (some (.ref C)) := ⟨_, KX _ _ hcell, rfl⟩
    have e2 : H cc = none := (e0.bs cc _ (e0.mod.kin _ _ hcell)).2
    have lk1 : ∀ {y : Str} {c : Addr}, List.lookup y [(("__class__" : Str), cc)] = some c → y = "__class__" ∧ c = cc := fun {y c} z => by
      have z2 := PySem.mem_of_lookup z
      simp at z2
      exact z2
    refine ⟨rfl, fun y c z => ?_, fun y z c h1 h2 => ?_, fun i y h => ?_⟩
    · obtain ⟨_, rfl⟩ := lk1 z
      exact ⟨e2, _, e1⟩
    · rw [(lk1 h1).1, (lk1 h2).1]
    · have hi : i < 1 := (List.getElem?_eq_some_iff.mp h).1
      obtain rfl : i = 0 := by omega
      obtain rfl := Option.some.inj h
      refine ⟨cc, by simp [List.lookup], fun v hv => ?_⟩
      obtain rfl := Option.some.inj (Option.some.inj hv)
      exact ⟨_, rfl, e1⟩
  obtain ⟨a, ws, tt, rfl, ha, ht, hq⟩ := hbody cda cc A outer s H vs Q E (hr.deeper _) hsp
  have I : Inv (ncx CX P w K mg base N ⟨x, qual, params, [], scope, [("__class__", cc)], cda⟩ f A outer s H E) [] (startF N (.ref a :: ws) [some (.ref C)]) H { s with heap := h₁, toks := s.toks + ((s0 :: ps).zip us).length } := inv_startN S hr.hd e0 hl r CA hns kp
  obtain ⟨us0, rfl⟩ : ∃ us0, us = .ref a :: us0 := by
    cases r with
    | @cons _ u0 _ ur ra rw' =>
      obtain rfl : u0 = Value.ref a := ra
      exact ⟨ur, rfl⟩
  refine PySem.ks_wpAt_mono (Q := SP (ncx CX P w K mg base N ⟨x, qual, params, [], scope, [("__class__", cc)], cda⟩ f A outer s H E) [] { nx := fun _ H' => Q .non H', rt := Q }) (E := (ncx CX P w K mg base N ⟨x, qual, params, [], scope, [("__class__", cc)], cda⟩ f A outer s H E).xe) ?_ (fun fl s' hs => ?_) fun e s' hs => hs
  · have hc0 : ∃ cd, PySem.W.clsIn K C = some cd := by
      cases q : PySem.W.clsIn K C with
      | none =>
        have z := T.sup
        unfold PySem.W.ks_superIn at z
        rw [q] at z
        cases z
      | some cd => exact ⟨cd, rfl⟩
    obtain ⟨cd, hcd2⟩ := hc0
    have hal : PySem.W.alongIn K "__init__" ((cd.mro.dropWhile (· != .ref C)).drop 1) = some (some (.builtin "ValueError.__init__")) := by
      have z := T.sup
      unfold PySem.W.ks_superIn at z
      rw [hcd2] at z
      exact z
    have KX1 : K.In h₁ := I.kIn
    obtain ⟨oD, hD1, hD2⟩ : ∃ oD, h₁.get? C = some oD ∧ oD.data = .cls cd := by
      unfold PySem.W.clsIn at hcd2
      split at hcd2
      · rename_i c d cd' sl ho
        cases hcd2
        exact ⟨_, KX1 _ _ ho, rfl⟩
      · cases hcd2
    obtain ⟨t1, hax⟩ := exo_at I.hok ha
    have hself : scope.names.lookup s0 = some .local := S.par s0 (List.mem_cons_self ..)
    have IA : PySem.W.InstAt h₁ a { cls := .ref C, dict := none, data := .fields #[.ref t1, .none, .none, .none, .bool false, .none] } C none := ⟨hax, rfl, rfl, trivial⟩
    obtain ⟨pl, he⟩ := hev s.heap.objs.size cda cc
    refine PySem.ks_wpAt_execs_cons (PySem.ks_wpAt_Expr_any (PySem.ks_wpAt_MethodCall (pl := pl) ?_ he) I.quiet (hsw s.heap.objs.size cda cc))
    have kfr : scope.names.lookup ("__class__" : Str) = some .free := S.frk _ (List.mem_cons_self ..)
    refine PySem.ks_wpAt_super_base (f := f) hs kfr (by decide) rfl (KX1 _ _ lk) rfl hp rfl (KX1 _ _ hcode) rfl hvs hfile htop ?_
    obtain ⟨mb, hb1, hb2⟩ := I.mod.blt
    refine PySem.W.ks_loadName_global S.kind hs (PySem.Calls.loadGlobal_builtin (I.mod.glob.keeps I.bk) hmg (hb1.keeps I.bk) ((hb2 _ (by decide)).trans (by decide +kernel : bootBuiltins "super" = some (.type "super"))) ⟨rfl, ?_⟩)
    refine wpAny_loadName_free S.kind kfr rfl ⟨_, KX1 _ _ hcell, rfl⟩ ?_
    have ndP : (s0 :: ps).Nodup := by
      have q := S.nd.sublist (List.take_sublist ((s0 :: ps).length + (["__class__"] : List Str).length) N)
      rw [S.pre] at q
      exact (List.nodup_append.mp q).1
    refine wpAny_loadName_local (v := .ref a) S.kind (by rw [har]; exact hself) hns (by rw [har]; exact zip_look (i := 0) (us := Value.ref a :: us0) ndP rfl rfl) ?_
    refine PySem.ks_wpAny_isType_cls hD1 hD2 ⟨rfl, ?_⟩
    refine PySem.ks_wpAny_call_super hD1 hD2 hax rfl (fun c e => by cases e) (PySem.W.looks_mroIn KX1 T.me) (fun h2 e2 k2 => ?_)
    have I2 : Inv (ncx CX P w K mg base N ⟨x, qual, params, [], scope, [("__class__", cc)], cda⟩ f A outer s H E) [] (startF N (.ref a :: ws) [some (.ref C)]) H { s with heap := h2, toks := s.toks + ((s0 :: ps).zip (Value.ref a :: us0)).length } := I.kept k2
    have hC2 : PySem.W.Looks (model P w) h2 (mroOf (.ref C)) cd.mro := fun A Q E s k q => wpAny_bind ((PySem.W.looks_clsIn I2.kIn hcd2) A _ E s k (wpAny_pure q))
    have IA2 : PySem.W.InstAt h2 a { cls := .ref C, dict := none, data := .fields #[.ref t1, .none, .none, .none, .bool false, .none] } C none := ⟨k2 _ _ hax, rfl, rfl, trivial⟩
    refine PySem.W.kxs_getMethod PySem.W.kxs_ValueError e2 (PySem.W.looks_opaque I2.kIn T.op) hC2 rfl I2.kIn hal (IA2.type.andThen (PySem.W.looks_mroIn I2.kIn T.ve)) (PySem.W.ks_ne KX1 IA hcd2) (by decide) ?_
    -- the call of the bound __init__
    have hu0 : (h2.push (PySem.W.kxs_mw "ValueError.__init__" a)).get? h2.objs.size = some (PySem.W.kxs_mw "ValueError.__init__" a) := by heap_get
    have hn0 : H h2.objs.size = none := I2.hok.fresh (Nat.le_refl _)
    have I3 : Inv (ncx CX P w K mg base N ⟨x, qual, params, [], scope, [("__class__", cc)], cda⟩ f A outer s H E) [(h2.objs.size, PySem.W.kxs_mw "ValueError.__init__" a)] (startF N (.ref a :: ws) [some (.ref C)]) H
        { s with heap := h2.push (PySem.W.kxs_mw "ValueError.__init__" a), toks := s.toks + ((s0 :: ps).zip (Value.ref a :: us0)).length + 1 } := by
      have I3' : Inv (ncx CX P w K mg base N ⟨x, qual, params, [], scope, [("__class__", cc)], cda⟩ f A outer s H E) [] (startF N (.ref a :: ws) [some (.ref C)]) H
        { s with heap := h2.push (PySem.W.kxs_mw "ValueError.__init__" a), toks := s.toks + ((s0 :: ps).zip (Value.ref a :: us0)).length + 1 } := I2.kept (fun b o e => Heap.get?_push_of_some _ e)
      refine I3'.pins_of fun p hp => ?_
      obtain rfl : p = (h2.objs.size, PySem.W.kxs_mw "ValueError.__init__" a) := by simpa using hp
      exact ⟨hu0, hn0, Nat.ne_of_gt I2.lt, I2.nofs (Nat.le_refl _), fun v z => by cases z⟩
    refine PySem.W.kxs_callWith (i := "ValueError.__init__") (x := a) (by rfl) ?_
    have pst : ∀ X : Cx, PA X [.Constant (.str msg) j pc] (tCons (tC (.str msg)) tNil) := fun X => pa_cons pe_str pa_nil
    have ha3 := (pst (ncx CX P w K mg base N ⟨x, qual, params, [], scope, [("__class__", cc)], cda⟩ f A outer s H E)).run cp _ _ _ H (fun vs H' => vs = [.str msg] ∧ H' = H) I3 ⟨rfl, rfl⟩
    refine PySem.Calls.evalArgs_plain (thn ha3 fun vs s1 hh => ?_)
    obtain ⟨xs, H', I4, rv, rfl, rfl⟩ := hh
    have hu4 : s1.heap.get? h2.objs.size = some (PySem.W.kxs_mw "ValueError.__init__" a) := (I4.pin _ (List.mem_append_right _ (List.mem_singleton.mpr rfl))).1
    have hlen : vs.length ≤ sizeLine := by
      rw [← Paired.length rv, sizeLine_eq]
      show 1 ≤ 16777216; decide
    refine ⟨hu4, ?_⟩
    obtain ⟨nm, q, N', bs, bm, sn, sub, ab, col, dd, k0, k1, k2', k3, k5, hC, hbm⟩ := T.ox.cls
    obtain ⟨t4, hax4⟩ := exo_at I4.hok ha
    obtain ⟨hp4, g4, d4, tk4, os4⟩ := s1
    refine PySem.RSX.call_mw (I4.kIn _ _ hC) hax4 hu4 hlen fun h5 t5 k5 hx5 => ?_
    have I4' := I4.pins_of (pins' := []) (fun p hp => absurd hp (by simp))
    have J := I4'.write (t' := tk4) (x := a) (e := a) (o := exo a C none) (by rw [ha]; exact True.intro) (.inl rfl) k5 ⟨_, hx5⟩ (exo_ok hx5)
    have eu : upd H' a (exo a C none) = H' := by
      funext b
      by_cases hb : b = a
      · rw [hb, upd_same, ha]
      · rw [upd_ne hb]
    rw [eu] at J
    exact wpAt_of_wpAny (ht.run [] _ _ _ _ J hq)
  · have fin : ∀ {σ' : L2.St} {H' : Hp} {v : V} {u : Value}, Inv (ncx CX P w K mg base N ⟨x, qual, params, [], scope, [("__class__", cc)], cda⟩ f A outer s H E) [] σ' H' s' → RelV v u → Q v H' → CE outer P w H s Q u s' :=
      fun {σ' H' v u} J rv q => ⟨v, H', J.os, J.bare, J.base, J.hok, rv, q⟩
    cases fl with
    | ret u =>
      obtain ⟨v, σ', H', J, rv, q⟩ := hs
      exact fin J rv q
    | next =>
      obtain ⟨σ', H', J, q⟩ := hs
      exact fin (v := V.non) (u := Value.none) J rfl q
    | brk =>
      obtain ⟨_, _, _, q⟩ := hs
      exact False.elim q
    | cont =>
      obtain ⟨_, _, _, q⟩ := hs
      exact False.elim q
end
end RS

set_option maxRecDepth 100000
set_option maxHeartbeats 4000000
namespace RS
open PySem PySem.Spec PyProof.Rows L2
/-! ### the second family's source of draws: what its dict holds, and the draw's promise -/
/-- all that was tracked is as it was, but for the object at a -/
def Sav (a : Addr) (H H' : Hp) : Prop := ∀ b o, b ≠ a → H b = some o → H' b = some o
theorem Sav.refl (a : Addr) (H : Hp) : Sav a H H := fun _ _ _ h => h
theorem Sav.trans {a : Addr} {H H1 H2 : Hp} (x : Sav a H H1) (y : Sav a H1 H2) : Sav a H H2 := fun b o n h => y b o n (x b o n h)
theorem Sav.at {a b : Addr} {H H' : Hp} {o : HO} (x : Sav a H H') (n : b ≠ a) (h : H b = some o) : H' b = some o := x b o n h
theorem Sav.new {a p : Addr} {H : Hp} {o : HO} (h : H p = none) : Sav a H (upd H p o) := fun b u _ e => by rw [upd_ne (ne_of_none e h)]; exact e
theorem Sav.own {a : Addr} {H : Hp} {o : HO} : Sav a H (upd H a o) := fun b u n e => by rw [upd_ne n]; exact e
theorem Sav.free {a b : Addr} {H H' : Hp} (x : Sav a H H') (n : b ≠ a) (h : H' b = none) : H b = none := by
  cases q : H b with
  | none => rfl
  | some o => rw [x b o n q] at h; cases h
theorem Same.sav {a : Addr} {H H' : Hp} (x : Same H H') : Sav a H H' := fun b o _ h => x b o h
theorem upd_old {H : Hp} {p q : Addr} {o u : HO} (hp : H p = none) (hq : H q = some o) : upd H p u q = some o := by rw [upd_ne (ne_of_none hq hp)]; exact hq

def bagD (c : Addr) (a d n f : Int) : List (Key × V) := [(.inr "cells", .ref c), (.inr "at", .int a), (.inr "digits", .int d), (.inr "count", .int n), (.inr "fold", .int f)]
theorem n_cells_at : ¬ (("cells" : Str) = "at") := by decide +kernel
theorem n_cells_digits : ¬ (("cells" : Str) = "digits") := by decide +kernel
theorem n_cells_count : ¬ (("cells" : Str) = "count") := by decide +kernel
theorem n_cells_fold : ¬ (("cells" : Str) = "fold") := by decide +kernel
theorem n_at_cells : ¬ (("at" : Str) = "cells") := by decide +kernel
theorem n_at_digits : ¬ (("at" : Str) = "digits") := by decide +kernel
theorem n_at_count : ¬ (("at" : Str) = "count") := by decide +kernel
theorem n_at_fold : ¬ (("at" : Str) = "fold") := by decide +kernel
theorem n_digits_cells : ¬ (("digits" : Str) = "cells") := by decide +kernel
theorem n_digits_at : ¬ (("digits" : Str) = "at") := by decide +kernel
theorem n_digits_count : ¬ (("digits" : Str) = "count") := by decide +kernel
theorem n_digits_fold : ¬ (("digits" : Str) = "fold") := by decide +kernel
theorem n_count_cells : ¬ (("count" : Str) = "cells") := by decide +kernel
theorem n_count_at : ¬ (("count" : Str) = "at") := by decide +kernel
theorem n_count_digits : ¬ (("count" : Str) = "digits") := by decide +kernel
theorem n_count_fold : ¬ (("count" : Str) = "fold") := by decide +kernel
theorem n_fold_cells : ¬ (("fold" : Str) = "cells") := by decide +kernel
theorem n_fold_at : ¬ (("fold" : Str) = "at") := by decide +kernel
theorem n_fold_digits : ¬ (("fold" : Str) = "digits") := by decide +kernel
theorem n_fold_count : ¬ (("fold" : Str) = "count") := by decide +kernel
theorem bag_cells (c : Addr) (a d n f : Int) : valV (bagD c a d n f) (Sum.inr "cells") = some (.ref c) := by simp [valV, bagD, n_cells_at, n_cells_digits, n_cells_count, n_cells_fold, n_at_cells, n_at_digits, n_at_count, n_at_fold, n_digits_cells, n_digits_at, n_digits_count, n_digits_fold, n_count_cells, n_count_at, n_count_digits, n_count_fold, n_fold_cells, n_fold_at, n_fold_digits, n_fold_count]
theorem bag_at (c : Addr) (a d n f : Int) : valV (bagD c a d n f) (Sum.inr "at") = some (.int a) := by simp [valV, bagD, n_cells_at, n_cells_digits, n_cells_count, n_cells_fold, n_at_cells, n_at_digits, n_at_count, n_at_fold, n_digits_cells, n_digits_at, n_digits_count, n_digits_fold, n_count_cells, n_count_at, n_count_digits, n_count_fold, n_fold_cells, n_fold_at, n_fold_digits, n_fold_count]
theorem bag_digits (c : Addr) (a d n f : Int) : valV (bagD c a d n f) (Sum.inr "digits") = some (.int d) := by simp [valV, bagD, n_cells_at, n_cells_digits, n_cells_count, n_cells_fold, n_at_cells, n_at_digits, n_at_count, n_at_fold, n_digits_cells, n_digits_at, n_digits_count, n_digits_fold, n_count_cells, n_count_at, n_count_digits, n_count_fold, n_fold_cells, n_fold_at, n_fold_digits, n_fold_count]
theorem bag_count (c : Addr) (a d n f : Int) : valV (bagD c a d n f) (Sum.inr "count") = some (.int n) := by simp [valV, bagD, n_cells_at, n_cells_digits, n_cells_count, n_cells_fold, n_at_cells, n_at_digits, n_at_count, n_at_fold, n_digits_cells, n_digits_at, n_digits_count, n_digits_fold, n_count_cells, n_count_at, n_count_digits, n_count_fold, n_fold_cells, n_fold_at, n_fold_digits, n_fold_count]
theorem bag_fold (c : Addr) (a d n f : Int) : valV (bagD c a d n f) (Sum.inr "fold") = some (.int f) := by simp [valV, bagD, n_cells_at, n_cells_digits, n_cells_count, n_cells_fold, n_at_cells, n_at_digits, n_at_count, n_at_fold, n_digits_cells, n_digits_at, n_digits_count, n_digits_fold, n_count_cells, n_count_at, n_count_digits, n_count_fold, n_fold_cells, n_fold_at, n_fold_digits, n_fold_count]
theorem put_at (c : Addr) (a d n f z : Int) : putK (bagD c a d n f) (Sum.inr "at") (.int z) = bagD c z d n f := by simp [putK, bagD, n_cells_at, n_cells_digits, n_cells_count, n_cells_fold, n_at_cells, n_at_digits, n_at_count, n_at_fold, n_digits_cells, n_digits_at, n_digits_count, n_digits_fold, n_count_cells, n_count_at, n_count_digits, n_count_fold, n_fold_cells, n_fold_at, n_fold_digits, n_fold_count]
theorem put_digits (c : Addr) (a d n f z : Int) : putK (bagD c a d n f) (Sum.inr "digits") (.int z) = bagD c a z n f := by simp [putK, bagD, n_cells_at, n_cells_digits, n_cells_count, n_cells_fold, n_at_cells, n_at_digits, n_at_count, n_at_fold, n_digits_cells, n_digits_at, n_digits_count, n_digits_fold, n_count_cells, n_count_at, n_count_digits, n_count_fold, n_fold_cells, n_fold_at, n_fold_digits, n_fold_count]
theorem put_count (c : Addr) (a d n f z : Int) : putK (bagD c a d n f) (Sum.inr "count") (.int z) = bagD c a d z f := by simp [putK, bagD, n_cells_at, n_cells_digits, n_cells_count, n_cells_fold, n_at_cells, n_at_digits, n_at_count, n_at_fold, n_digits_cells, n_digits_at, n_digits_count, n_digits_fold, n_count_cells, n_count_at, n_count_digits, n_count_fold, n_fold_cells, n_fold_at, n_fold_digits, n_fold_count]
theorem put_fold (c : Addr) (a d n f z : Int) : putK (bagD c a d n f) (Sum.inr "fold") (.int z) = bagD c a d n z := by simp [putK, bagD, n_cells_at, n_cells_digits, n_cells_count, n_cells_fold, n_at_cells, n_at_digits, n_at_count, n_at_fold, n_digits_cells, n_digits_at, n_digits_count, n_digits_fold, n_count_cells, n_count_at, n_count_digits, n_count_fold, n_fold_cells, n_fold_at, n_fold_digits, n_fold_count]
section
variable {H : Hp} {p c : Addr} {a d n f z : Int}
theorem dg_cells (h : H p = some (.dK (bagD c a d n f))) : DGet H p (.str "cells") (some (.ref c)) := by rw [← bag_cells c a d n f]; exact DGet.k (k := Sum.inr "cells") h
theorem dg_at (h : H p = some (.dK (bagD c a d n f))) : DGet H p (.str "at") (some (.int a)) := by rw [← bag_at c a d n f]; exact DGet.k (k := Sum.inr "at") h
theorem dg_digits (h : H p = some (.dK (bagD c a d n f))) : DGet H p (.str "digits") (some (.int d)) := by rw [← bag_digits c a d n f]; exact DGet.k (k := Sum.inr "digits") h
theorem dg_count (h : H p = some (.dK (bagD c a d n f))) : DGet H p (.str "count") (some (.int n)) := by rw [← bag_count c a d n f]; exact DGet.k (k := Sum.inr "count") h
theorem dg_fold (h : H p = some (.dK (bagD c a d n f))) : DGet H p (.str "fold") (some (.int f)) := by rw [← bag_fold c a d n f]; exact DGet.k (k := Sum.inr "fold") h
theorem dp_at (h : H p = some (.dK (bagD c a d n f))) : DPut H p (.str "at") (.int z) (upd H p (.dK (bagD c z d n f))) := by
  rw [← put_at c a d n f z]; exact DPut.k (k := Sum.inr "at") h (by show 5 < sizeLine; rw [sizeLine_eq]; decide)
theorem dp_digits (h : H p = some (.dK (bagD c a d n f))) : DPut H p (.str "digits") (.int z) (upd H p (.dK (bagD c a z n f))) := by
  rw [← put_digits c a d n f z]; exact DPut.k (k := Sum.inr "digits") h (by show 5 < sizeLine; rw [sizeLine_eq]; decide)
theorem dp_count (h : H p = some (.dK (bagD c a d n f))) : DPut H p (.str "count") (.int z) (upd H p (.dK (bagD c a d z f))) := by
  rw [← put_count c a d n f z]; exact DPut.k (k := Sum.inr "count") h (by show 5 < sizeLine; rw [sizeLine_eq]; decide)
theorem dp_fold (h : H p = some (.dK (bagD c a d n f))) : DPut H p (.str "fold") (.int z) (upd H p (.dK (bagD c a d n z))) := by
  rw [← put_fold c a d n f z]; exact DPut.k (k := Sum.inr "fold") h (by show 5 < sizeLine; rw [sizeLine_eq]; decide)
end
/-- a bag stands at p, good for b more draws -/
structure Pen (H : Hp) (p c : Addr) (b : Nat) : Prop where
  ex : ∃ (cs : List Int) (a d n f : Int), H p = some (.dK (bagD c a d n f)) ∧ H c = some (.lst (cs.map V.int)) ∧ 0 ≤ a ∧ 0 ≤ d ∧ 0 ≤ n ∧ n + b ≤ 2 ^ 50 ∧ 0 ≤ f ∧ f < 2 ^ 32
theorem Pen.mono {H : Hp} {p c : Addr} {b b' : Nat} (x : Pen H p c b) (h : b' ≤ b) : Pen H p c b' := by
  obtain ⟨cs, a, d, n, f, h1, h2, h3, h4, h5, h6, h7⟩ := x.ex
  exact ⟨cs, a, d, n, f, h1, h2, h3, h4, h5, by omega, h7⟩
theorem Pen.dk {H : Hp} {p c : Addr} {b : Nat} (x : Pen H p c b) : ∃ kvs, H p = some (.dK kvs) := let ⟨_, _, _, _, _, h, _⟩ := x.ex; ⟨_, h⟩
/-- what stands at q is not the pen -/
theorem Pen.ne {H : Hp} {p c q : Addr} {b : Nat} {o : HO} (x : Pen H p c b) (h : H q = some o) (d : ∀ kvs, o ≠ .dK kvs) : q ≠ p := by
  obtain ⟨kvs, e⟩ := x.dk
  exact ne_of h e (d kvs)
theorem Pen.fresh_ne {H : Hp} {p c q : Addr} {b : Nat} (x : Pen H p c b) (h : H q = none) : q ≠ p := by
  obtain ⟨kvs, e⟩ := x.dk
  exact (ne_of_none e h).symm
/-- a new object beside it -/
theorem Pen.fresh_ne2 {H : Hp} {p c q : Addr} {b : Nat} (x : Pen H p c b) (h : H q = none) : q ≠ c := by
  obtain ⟨cs, a, d, n, f, h1, h2, _⟩ := x.ex
  exact (ne_of_none h2 h).symm
/-- an object that is neither the pen nor its list is written -/
theorem Pen.mut {H : Hp} {p c q : Addr} {b : Nat} {o : HO} (x : Pen H p c b) (h1 : q ≠ p) (h2 : q ≠ c) : Pen (upd H q o) p c b := by
  obtain ⟨cs, a, d, n, f, e1, e2, h3⟩ := x.ex
  exact ⟨cs, a, d, n, f, by rw [upd_ne h1.symm]; exact e1, by rw [upd_ne h2.symm]; exact e2, h3⟩
theorem Pen.old {H H' : Hp} {p c : Addr} {b : Nat} (x : Pen H p c b) (k : Same H H') : Pen H' p c b := by
  obtain ⟨cs, a, d, n, f, h1, h2, h3⟩ := x.ex
  exact ⟨cs, a, d, n, f, k _ _ h1, k _ _ h2, h3⟩
theorem Same.new {H : Hp} {p : Addr} {o : HO} (h : H p = none) : Same H (upd H p o) := fun b u e => by rw [upd_ne (ne_of_none e h)]; exact e
theorem Pen.new {H : Hp} {p c q : Addr} {b : Nat} {o : HO} (x : Pen H p c b) (h : H q = none) : Pen (upd H q o) p c b := x.old (Same.new h)
def spPen (K : PySem.W.Frag) : Sp := fun vs H Q _ => ∃ (a : Addr) (ns : List Int), vs = [.ref a] ∧ SqL K H a (ns.map V.int) ∧ ns.length ≤ 63 ∧ ∀ p c H', Same H H' → H p = none → H c = none → Pen H' p c (2 ^ 49) → Q (.ref p) H'
def spDraw : Sp := fun vs H Q _ => ∃ (p c : Addr) (m : Int) (b : Nat), vs = [.ref p, .int m] ∧ 0 < m ∧ m.natAbs.log2 < 9000 ∧ Pen H p c (b + 1) ∧
  ∀ d H', 0 ≤ d → d < m → Pen H' p c b → Sav p H H' → Q (.int d) H'
theorem dp_ints {K : PySem.W.Frag} {H : Hp} : ∀ cs : List Int, DpAll K H (cs.map V.int) (cs.map PyData.int)
  | [] => .nil
  | c :: cs => .cons (.int c) (dp_ints cs)
theorem shaped_ints (cs : List Int) : SeqAt.shaped (.list (cs.map PyData.int)) = true := PySem.W.shaped_ints cs
theorem eqv_nil (cs : List Int) : (!PyData.eqv (.list (cs.map PyData.int)) (.list [])) = !cs.isEmpty := by cases cs <;> rfl
theorem at_mod {cs : List Int} {a : Int} (h : 0 < cs.length) : ∃ z, atI (cs.map V.int) (a % (((cs.map V.int).length : Nat) : Int)) = some (.int z) := by
  rw [List.length_map]
  have h1 : 0 ≤ a % (cs.length : Int) := Int.emod_nonneg a (by omega)
  have h2 : a % (cs.length : Int) < cs.length := Int.emod_lt_of_pos a (by omega)
  generalize a % (cs.length : Int) = j at *
  obtain ⟨n, rfl⟩ : ∃ n : Nat, j = (n : Int) := ⟨j.toNat, by omega⟩
  have hn : n < cs.length := by omega
  exact ⟨cs[n], atI_nat (by rw [List.getElem?_map, List.getElem?_eq_getElem hn]; rfl)⟩
theorem mul_mod {x y m : Int} (h : 0 < m) (h2 : m < 2 ^ 64) : CMul (x % m) y := .inl ⟨by have := Int.emod_nonneg x (show m ≠ 0 by omega); omega, by have := Int.emod_lt_of_pos x h; omega⟩
theorem Same.mut {H H' : Hp} {p : Addr} {o : HO} (e : Same H H') (h : H p = none) : Same H (upd H' p o) := fun a u ha => by
  rw [upd_ne (ne_of_none ha h)]
  exact e a u ha
theorem cut63 (ns : List Int) : ∃ cs : List Int, cutV (ns.map V.int) none (some 63) = cs.map V.int ∧ cs.length ≤ 63 := by
  refine ⟨ns.take (min 63 ns.length), ?_, by rw [List.length_take]; omega⟩
  show ((ns.map V.int).drop 0).take (HT.sIx (ns.map V.int).length (ns.map V.int).length (some ((63 : Nat) : Int)) - 0) = _
  rw [HT.sIx_nat, List.drop_zero, Nat.sub_zero, List.length_map, List.map_take]
theorem ints_at {cs : List Int} {i : Nat} {x : V} (h : (cs.map V.int)[i]? = some x) : ∃ z, cs[i]? = some z ∧ x = .int z := by
  rw [List.getElem?_map] at h
  cases e : cs[i]? with
  | none => rw [e] at h; cases h
  | some z => rw [e] at h; exact ⟨z, rfl, (Option.some.inj h).symm⟩
theorem take_int {cs : List Int} {i : Nat} {z : Int} (h : cs[i]? = some z) : (cs.take (i + 1)).map V.int = (cs.take i).map V.int ++ [V.int z] := by
  rw [List.take_succ, h, List.map_append]
  rfl
theorem merge_bag (D : Addr) (f : Int) : mergeK [] [(Sum.inr ("cells" : Str), V.ref D), (Sum.inr "at", .int 0), (Sum.inr "digits", .int 0), (Sum.inr "count", .int 0), (Sum.inr "fold", .int f)] = bagD D 0 0 0 f := by
  simp [mergeK, putK, bagD, n_cells_at, n_cells_digits, n_cells_count, n_cells_fold, n_at_cells, n_at_digits, n_at_count, n_at_fold, n_digits_cells, n_digits_at, n_digits_count, n_digits_fold, n_count_cells, n_count_at, n_count_digits, n_count_fold, n_fold_cells, n_fold_at, n_fold_digits, n_fold_count]
theorem free2 {H : Hp} {p q D : Addr} {o u : HO} (hp : H p = none) (hq : (upd H p o) q = none) (hD : (upd (upd H p o) q u) D = none) : H D = none := by
  have n1 : D ≠ q := fun z => by rw [z, upd_same] at hD; cases hD
  rw [upd_ne n1] at hD
  have n2 : D ≠ p := fun z => by rw [z, upd_same] at hD; cases hD
  rw [upd_ne n2] at hD
  exact hD
theorem mod_in {x m : Int} (h : 0 < m) : 0 ≤ x % m ∧ x % m < m := ⟨Int.emod_nonneg x (by omega), Int.emod_lt_of_pos x h⟩
end RS

set_option maxRecDepth 100000
set_option maxHeartbeats 4000000
namespace RS
open PySem PySem.Spec PyProof.Rows L2 NdefX He
/-! ### the facts of an own exception class, as Bools -/
def oexB (K : Frg) (C : Addr) : Bool := match K.lookup C with
  | some ⟨.type "type", _, .cls cd, sl⟩ => (match cd.mro, sl.toList with
    | .ref C' :: bm, [_, _, _, _, some (.builtin n), _] => C' == C && n == "ValueError.__new__" && !cd.hasDel && cd.hasDict && PySem.HandSPX.refsVE bm
    | _, _ => false)
  | _ => false
theorem oexB_ok {K : Frg} {C : Addr} (q : oexB K C = true) : ∃ nm q N bs bm sn sub ab col dd k0 k1 k2 k3 k5, K.lookup C = some (excClassObj nm q C N bs bm true sn sub ab col dd k0 k1 k2 k3 k5 "ValueError.__new__") ∧ PySem.HandSPX.refsVE bm = true := by
  unfold oexB at q
  split at q
  · rename_i dd cd sl ho
    split at q
    · rename_i C' bm k0 k1 k2 k3 n k5 hm hs
      simp only [Bool.and_eq_true, beq_iff_eq, Bool.not_eq_true'] at q
      obtain ⟨⟨⟨⟨rfl, rfl⟩, hdel⟩, hdc⟩, ht⟩ := q
      obtain ⟨nm, bs, mro, ns, qn, hd, sn, sub, ab, col, del⟩ := cd
      dsimp only at hm hdel hdc
      subst hm hdel hdc
      have hsl : sl = #[k0, k1, k2, k3, some (.builtin "ValueError.__new__"), k5] := by
        obtain ⟨l⟩ := sl
        simp only at hs
        rw [hs]
      subst hsl
      exact ⟨nm, qn, ns, bs, bm, sn, sub, ab, col, dd, k0, k1, k2, k3, k5, ho, ht⟩
    · cases q
  · cases q
/-- C: an own exception class, with the names of its fields -/
structure ExcT (K : Frg) (C : Addr) : Prop where
  sup : SupC K C
  xf : XfC K C
  is : ExcC K C
def excB (K : Frg) (x : Str) : Bool := oexB K (ga K x) && (eqO (PySem.W.findIn K (.ref (ga K x)) "__setattr__") (some (some (.builtin "object.__setattr__"))) && (decide (PySem.W.subIn K (.ref (ga K x)) (.type "BaseException") = some true) &&
  (decide (PySem.W.typeIn K (.ref (ga K x)) = some (.type "type")) && (PySem.W.keepIn K (.ref (ga K x)) && (eqO (PySem.W.ks_superIn K (ga K x) (ga K x) "__init__") (some (some (.builtin "ValueError.__init__"))) &&
  (eqO (PySem.W.nsIn K cStatics "thirdparty.any") (some none) && (decide (PySem.W.mroIn K (ga K x) (.type "ValueError") = some true) && (decide (PySem.W.mroIn K (ga K x) (.ref (ga K x)) = some true) && (xfB K (ga K x) &&
  (eqO (PySem.W.findIn K (.ref (ga K x)) "__class__") (some (some (.builtin "object.__class__"))) && (eqO (PySem.W.specialIn K (.builtin "object.__class__") "__get__") (some (some (.builtin "getset_descriptor.__get__"))) &&
  (decide (PySem.W.takesIn K (.builtin "object.__class__") = some true) && decide (PySem.W.mroIn K (ga K x) (.type "object") = some true)))))))))))))
theorem excB_ok {K : Frg} {x : Str} (h : excB K x = true) : ExcT K (ga K x) := by
  obtain ⟨h1, h⟩ := ba h
  obtain ⟨h2, h⟩ := ba h
  obtain ⟨h3, h⟩ := ba h
  obtain ⟨h4, h⟩ := ba h
  obtain ⟨h5, h⟩ := ba h
  obtain ⟨h6, h⟩ := ba h
  obtain ⟨h7, h⟩ := ba h
  obtain ⟨h8, h⟩ := ba h
  obtain ⟨h9, h⟩ := ba h
  obtain ⟨h10, h⟩ := ba h
  obtain ⟨h11, h⟩ := ba h
  obtain ⟨h12, h⟩ := ba h
  obtain ⟨h13, h14⟩ := ba h
  have X := xfB_ok h10
  exact ⟨⟨⟨oexB_ok h1, eqO_ok h2, of_decide_eq_true h3, of_decide_eq_true h4, h5⟩, eqO_ok h6, eqO_ok h7, of_decide_eq_true h8, of_decide_eq_true h9⟩, X, ⟨X.ga, X.gg, X.exC, X.hdC, eqO_ok h11, eqO_ok h12, of_decide_eq_true h13, of_decide_eq_true h14⟩⟩
/-- the __init__ of such a class: it stands in the fragment, closed over the class's cell -/
def inA (K : Frg) (x : Str) : Addr := ma K (ga K x) "__init__"
def clxB (K : Frg) (x file : Str) : Bool := PySem.W.keepIn K (.ref (inA K x)) && (eqO (PySem.W.findIn K (.ref (ga K x)) "__init__") (some (some (.ref (inA K x)))) && (decide (PySem.W.typeIn K (.ref (inA K x)) = some (.type "function")) &&
  (match K.lookup (inA K x) with
  | some ⟨_, _, .func fd, _⟩ => eqO (some (some fd.defaults)) (some (some .none)) && (eqO (some (some fd.kwdefaults)) (some (some .none)) && (match fd.code with
    | .ref c => PySem.W.codeIn K (.ref c) fd.qualname && (match K.lookup c with
      | some ⟨_, _, .fields vs, _⟩ => (match vs[2]? with | some (Value.str fl _) => decide (fl = file) | _ => false)
      | _ => false)
    | _ => false) && (match fd.closure with
    | [(_, cc)] => (match K.lookup cc with
      | some ⟨_, _, .cell (some (.ref C)), _⟩ => decide (C = ga K x)
      | _ => false)
    | _ => false))
  | _ => false)))
theorem clxB_ok {K : Frg} {x file : Str} {d : DefR} {P : Program} (h : clxB K x file = true) (ha : d.adr K = inA K x) (e : fnA K (d.adr K) = d.val) (hclo : d.clo = (["__class__"] : List Str)) (hf : P.main.file = file) :
    ∃ fd, FunX K P d.name d.qual d.params d.body d.scope (ga K x) (inA K x) fd ∧ PySem.W.findIn K (.ref (ga K x)) "__init__" = some (some (.ref (inA K x))) ∧ PySem.W.typeIn K (.ref (inA K x)) = some (.type "function") := by
  obtain ⟨h1, h⟩ := ba h
  obtain ⟨h2, h⟩ := ba h
  obtain ⟨h3, c2⟩ := ba h
  rw [ha] at e
  unfold fnA at e
  cases q : K.lookup (inA K x) with
  | none =>
    rw [q] at c2
    cases c2
  | some o =>
    obtain ⟨oc, od, dt, osl⟩ := o
    rw [q] at c2 e
    cases dt with
    | func fd =>
      obtain ⟨n1, n2, n3, n4, n5, n6, n7, n8, n9, n10, n11, n12, n13, n14, n15⟩ := fd
      have e2 : (some (n1, n2, n3, n4, n5, n6, n7.map (·.1), n15) : FnZ) = some (d.name, d.qual, d.params, .stmts d.body, d.scope, mainGlobals, d.clo, builtinsNs) := e
      rw [hclo] at e2
      simp only [Option.some.injEq, Prod.mk.injEq] at e2
      obtain ⟨g1, g2, g3, g4, g5, g6, g7, g8⟩ := e2
      subst g1 g2 g3 g4 g5 g6 g8
      obtain ⟨c3, c4⟩ := ba c2
      have d8 : n8 = .none := Option.some.inj (Option.some.inj (eqO_ok c3))
      obtain ⟨c6, c8⟩ := ba c4
      obtain ⟨c5, c7⟩ := ba c6
      have d9 : n9 = .none := Option.some.inj (Option.some.inj (eqO_ok c5))
      subst d8 d9
      dsimp only at c7 c8
      split at c7
      · rename_i c
        obtain ⟨c9, c10⟩ := ba c7
        split at c10
        · rename_i _ _ vs _ hc
          split at c10
          · rename_i fl _ hv
            split at c8
            · rename_i nm cc
              simp only [List.map_cons, List.map_nil, List.cons.injEq, and_true] at g7
              subst g7
              split at c8
              · rename_i _ _ CC _ hcc
                have z := of_decide_eq_true c8
                subst z
                refine ⟨_, ⟨⟨oc, od, _, _, _, _, c, cc, osl, rfl, q, c9, ⟨_, _, vs, _, fl, _, hc, hv, ?_⟩, _, _, _, hcc⟩, h1⟩, eqO_ok h2, of_decide_eq_true h3⟩
                rw [hf, of_decide_eq_true c10]
                simp
              · cases c8
            · cases c8
          · cases c10
        · cases c10
      · cases c7
    | _ => cases c2
end RS

set_option maxRecDepth 100000
set_option maxHeartbeats 4000000
namespace PySem.RSX
open PySem PySem.Spec PySem.W PySem.Calls PyProof.Rows
section
variable {prog : Program} {w : World} {A : Around} {E : Value → Shared → Prop} {s : Shared} {K : Frag} {x D : Addr} {ox : Obj} {odx : Option Obj}
theorem findObj_dataX {C : Addr} {name : Str} {a g : Value} {od : Option Obj} (hc : (clsIn K C).isSome = true) (ha : findIn K (.ref C) name = some (some a)) (hg : specialIn K a "__get__" = some (some g)) (ht : takesIn K a = some true) : findObj K C od name = some (.bind g a) := by
  obtain ⟨cd, hc⟩ := Option.isSome_iff_exists.mp hc
  unfold findObj
  rw [hc, Option.bind_some, ha, Option.bind_some]
  simp [hg, ht]
theorem kin_classX {Q : Option Value → Shared → Prop} (hga : findIn K (.ref D) "__getattribute__" = some (some (.builtin "BaseException.__getattribute__"))) (hgt : findIn K (.ref D) "__getattr__" = some none) (hsub : subIn K (.ref D) (.type "BaseException") = some true)
    (hdct : hasDictIn K D = true) (ha : findIn K (.ref D) "__class__" = some (some (.builtin "object.__class__")))
    (hn : specialIn K (.builtin "object.__class__") "__get__" = some (some (.builtin "getset_descriptor.__get__"))) (htk : takesIn K (.builtin "object.__class__") = some true) (hm : mroIn K D (.type "object") = some true)
    (X : K.In s.heap) (I : InstAt s.heap x ox D odx) (h : Q (some (.ref D)) { s with toks := s.toks + 1 }) : wpAny (model prog w) A (getAttr? (.ref x) "__class__") Q E s := by
  have hf : findObj K D odx "__class__" = some (.bind (.builtin "getset_descriptor.__get__") (.builtin "object.__class__")) := findObj_dataX (by obtain ⟨cd, hc, _⟩ := any_some hdct; rw [hc]; rfl) ha hn htk
  obtain ⟨hp, g, d, t, os⟩ := s
  have L0 := I.type (M := model prog w)
  have L1 := looks_findIn (M := model prog w) X hga
  have L2 := looks_findIn (M := model prog w) X hgt
  have L3 := looks_find (M := model prog w) X I hf
  have sub : Looks (model prog w) hp (isInstance (.ref x) (.type "BaseException")) true := L0.andThen (looks_subIn X hsub)
  have hx0 : (false && onTheHeap (Value.builtin "BaseException.__getattribute__")) = false := rfl
  have hx2 : (Value.builtin "BaseException.__getattribute__" == Value.builtin "object.__getattribute__") = false := by decide +kernel
  have hx1 : (onTheHeap (Value.ref D) && Value.builtin "BaseException.__getattribute__" == Value.builtin "object.__getattribute__") = false := by rw [hx2]; rfl
  unfold getAttr? getAttrBy? getAttrBy
  refine wpAny_bind (wpAny_mkText (wpAny_bind (wpAny_attempt (wpAny_holding (wpAny_bind (L0.at (wpAny_bind (L1.at ?_))))))))
  show wpAny _ _ (if (onTheHeap (Value.ref D) && Value.builtin "BaseException.__getattribute__" == Value.builtin "object.__getattribute__") = true then _ else _) _ _ _
  rw [hx1, if_neg Bool.false_ne_true]
  unfold getAttrByItsOwn hookBefore
  refine wpAny_bind ?_
  rw [if_pos (show onTheHeap (Value.ref D) = true from rfl)]
  refine L2.at ?_
  refine wpAny_bind (wpAny_attempt (wpAny_holding ?_))
  unfold callGetattribute
  rw [hx0, if_neg Bool.false_ne_true]
  unfold boundAndCalled
  rw [PySem.F.excAttr_ValueError.ga.bind (.ref x)]
  refine wpAny_bind (wpAny_pure ?_)
  show wpAny _ _ (call (.builtin "BaseException.__getattribute__") [.ref x, .str "__class__" t]) _ _ _
  refine wpAny_call (codeAny_call_builtin PySem.F.excAttr_ValueError.ga.plain PySem.F.entry_bexc_ga ?_)
  refine @check_slot (model prog w) _ _ ⟨hp, g, d, t + 1, os⟩ "BaseException.__getattribute__" "BaseException" "__getattribute__" (.ref x) [.str "__class__" t] [] _ (by decide +kernel) (by decide +kernel) sub (PySem.F.args_bexc_ga (.ref x) (.str "__class__" t)) ?_
  unfold Builtin.«object.__getattribute__»
  refine wpAny_bind (wpAny_of_eq (a := ((Value.ref x : Value), [Value.str "__class__" t])) (by first | rfl | (simp only [slotArgs]; rfl)) ?_)
  refine wpAny_bind (wpAny_pure (wpAny_bind (L0.at (wpAny_bind (L3.at ?_)))))
  show wpAny _ _ (holding [Value.builtin "object.__class__"] (call (.builtin "getset_descriptor.__get__") [.builtin "object.__class__", .ref x, .ref D]) >>= ret) _ _ _
  refine wpAny_bind (wpAny_holding (wpAny_call (class_get (s := ⟨hp, g, d, t + 1, os⟩) (ox := ox) (od := odx) X I hm ?_)))
  refine wpAny_pure ?_
  show wpAny _ _ (handedOut (.ref D)) _ _ _
  rw [handedOut_of (v := .ref D) rfl]
  first
    | exact wpAny_pure (wpAny_pure h)
    | exact wpAny_pure h
    | exact wpAny_pure (wpAny_bind (wpAny_pure (wpAny_pure h)))
theorem kitx_excX (hga : findIn K (.ref D) "__getattribute__" = some (some (.builtin "BaseException.__getattribute__"))) (hgt : findIn K (.ref D) "__getattr__" = some none) (hsub : subIn K (.ref D) (.type "BaseException") = some true) (hdct : hasDictIn K D = true) (ha : findIn K (.ref D) "__class__" = some (some (.builtin "object.__class__")))
    (hn : specialIn K (.builtin "object.__class__") "__get__" = some (some (.builtin "getset_descriptor.__get__"))) (htk : takesIn K (.builtin "object.__class__") = some true) (hm : mroIn K D (.type "object") = some true) :
    KitX K (.ref x) (.ref D) (fun h => ∃ odx, InstAt h x ox D odx) where
  ty := fun _ _ _ ⟨_, I⟩ => I.type
  it := fun _ _ X _ => by
    obtain ⟨cdD, hcD, _⟩ := any_some hdct
    unfold clsIn at hcD
    split at hcD
    · rename_i c' d' cd' sl' ho
      intro A' Q' E' s' k q
      unfold isType loadHead
      exact wpAny_bind (wpAny_loadPart (k _ _ (X _ _ ho)) (wpAny_pure q))
    · cases hcD
  ne := fun h tp dd its n sl X htp => by
    obtain ⟨cdD, hcD, _⟩ := any_some hdct
    refine Bool.eq_false_iff.mpr fun q => ?_
    have e : D = tp := Value.ref.inj (beq_iff_eq.mp q)
    subst e
    unfold clsIn at hcD
    split at hcD
    · rename_i c' d' cd' sl' ho
      have z := (X _ _ ho).symm.trans htp
      cases z
    · cases hcD
  ca := fun X ⟨_, I⟩ k => kin_classX hga hgt hsub hdct ha hn htk hm X I k
end
end PySem.RSX
namespace RS
open PySem PySem.Spec PyProof.Rows L2 NdefX He
/-- isinstance(e, c), e the exception that the suite holds, with its fields or without -/
theorem call_isX {X : Cx} {a D : Addr} {cls : Value} {oe : Obj} {d : Option Addr} {pn : List (Addr × Obj)} (C : ExcC X.K D) (hz : Zc cls d oe) (hf : ∃ vs, oe.data = .fields vs) : CallR (X.suite a ((a, oe) :: pn)) (.builtin "isinstance") (fun xs H Q => cls = .ref D ∧ (∀ dd, d = some dd → ∃ fs, H dd = some (.xd fs)) ∧ rIsE X.K D a xs H Q) := by
  intro pins s σ H xs us Q I r h
  obtain ⟨rfl, hd, c, cv, b, rfl, hcv, e, q⟩ := h
  cases r with
  | cons rx rr =>
    cases rr with
    | cons rt rr =>
      cases rr
      cases rx
      have ec := hcv _ rt
      subst ec
      obtain ⟨hget, _⟩ := I.pin (a, oe) (List.mem_append.mpr (.inl List.mem_cons_self))
      obtain ⟨vs, hv⟩ := hf
      have J : ∃ odx, PySem.W.InstAt s.heap a oe D odx := by
        obtain ⟨oc, od, oda, osl⟩ := oe
        obtain ⟨h1, h2⟩ := hz
        dsimp only at h1 h2 hv
        subst h1 h2 hv
        cases od with
        | none => exact ⟨none, hget, rfl, rfl, trivial⟩
        | some dd =>
          obtain ⟨fs, e⟩ := hd dd rfl
          have hx : ObjOk X.prog X.w H s.heap dd (.xd fs) := I.hok dd _ e
          obtain ⟨mA, hns, hr⟩ := hx
          obtain ⟨od, ho, hl⟩ := lookIn_ns hns
          exact ⟨some od, hget, rfl, rfl, ho⟩
      exact PySem.W.kia_one (PySem.RSX.kitx_excX C.hg C.hk C.hs C.hd C.ha C.hn C.ht C.hm) I.kIn J e (fun z => nomatch z) fun tk => ⟨.bl b, H, I.kept (t' := tk) fun _ _ z => z, rfl, q⟩
/-! ### the promise of an own exception's __init__: names, its fields -/
def spEx (C : Addr) (names : List Str) : Sp := fun vs H Q _ => ∃ (a : Addr) (ws : List V), vs = .ref a :: ws ∧ ws.length = names.length ∧ H a = some (exo a C none) ∧ (names = [] → Q .non H) ∧
  (names ≠ [] → ∀ dx H2, H dx = none → dx ≠ a → H2 a = some (exo a C (some dx)) → H2 dx = some (exd dx ((names.zip ws).reverse)) → (∀ b, b ≠ a → b ≠ dx → H2 b = H b) → Q .non H2)
theorem mkEx {C : Addr} {names : List Str} {vs : List V} {H1 : Hp} {Q : XK} (hl : vs.length = names.length) (hn : names ≠ []) (h2 : vs.length ≤ 1000) (k : ∀ d, H1 d = none → Q (.ref C) (some d) (upd H1 d (.xd ((names.zip vs).reverse)))) :
    vs.length ≤ 1000 ∧ ∀ a, H1 a = none → spEx C names (.ref a :: (vs ++ [])) (upd H1 a (exo a C none))
      (fun v H2 => v = .non ∧ ∃ (d : Addr) (fs : List (Str × V)), H2 a = some (exo a C (some d)) ∧ H2 d = some (exd d fs) ∧ H1 d = none ∧ Q (.ref C) (some d) (upd (del H2 a) d (.xd fs))) (fun _ _ _ => False) := by
  refine ⟨h2, fun a ha => ⟨a, vs, by rw [List.append_nil], hl, upd_same, fun z => absurd z hn, fun _ dx H2 hd hne e1 e2 e3 => ⟨rfl, dx, _, e1, e2, ?_, ?_⟩⟩⟩
  · rw [upd_ne hne] at hd
    exact hd
  · have e : upd (del H2 a) dx (.xd ((names.zip vs).reverse)) = upd H1 dx (.xd ((names.zip vs).reverse)) := by
      funext b
      by_cases hb : b = dx
      · rw [hb, upd_same, upd_same]
      · rw [upd_ne hb, upd_ne hb]
        by_cases hba : b = a
        · rw [hba, del_same, ha]
        · rw [del_ne hba, e3 b hba hb, upd_ne hba]
    rw [e]
    refine k dx ?_
    rw [upd_ne hne] at hd
    exact hd
/-- the exception class x, at C, by name -/
structure Exk (P : Program) (w : World) (K : Frg) (mg : Str → Option Value) (base : Heap) (x : Str) (C : Addr) (names : List Str) : Prop where
  ex : ∃ (fI : Addr) (fd : FuncData) (ps : List Str), FnOk P w K mg base CX0 1 fI fd ps (spEx C names) ∧ Binds K fd ps [] ∧ PySem.W.findIn K (.ref C) "__init__" = some (some (.ref fI)) ∧ PySem.W.typeIn K (.ref fI) = some (.type "function")
  g : mg x = some (.ref C)
  T : ExcT K C
theorem FunX.bindsN {P : Program} {K : Frg} {x qual : Str} {params : Arguments} {body : List Stmt} {scope : Scope} {C f : Addr} {fd : FuncData} {ps : List Str} (F : FunX K P x qual params body scope C f fd)
    (h : ∀ (doc pm ct : Value) (an : Option Addr) (cda cc : Addr) (us : List Value), us.length = ps.length → bindArgs (PySem.W.fnX x qual params body scope [("__class__", cc)] .none .none doc pm an (.ref cda) ct) ⟨us, []⟩ = pure (ps.zip us)) : Binds K fd ps [] := by
  obtain ⟨oc, od, doc, pm, ct, an, cda, cc, osl, rfl, _⟩ := F.ex
  exact .all (h doc pm ct an cda cc)
section
variable {X : Cx} {x : Str} {C : Addr} {names : List Str} {e : Expr} {es : List Expr} {ta : TA} {p pos : Pos}
/-- x(e, ..) to be raised -/
theorem pmk_ex (F : Exk X.prog X.w X.K X.mg X.base x C names) (hr : Room 2 X.A) (ha : PA X (e :: es) ta) (hg : Gl X x := by rfl)
    (hdb : (x == ("__debug__" : Str)) = false := by decide) (he : starEach (e :: es) X.env = (false, eval e X.env) :: starEach es X.env := by rfl) (hpl : (backTo pos (starEach es X.env)).any (·.1) = false := by rfl) :
    PMk X (.Call (.Name x p) (e :: es) [] pos) (tMkO C (spEx C names) [] ta) := by
  obtain ⟨fI, fd, ps, G, b, i, t⟩ := F.ex
  exact pmk_oex F.T.sup.ox i t G hr b .nil pass0 hg F.g ha hdb he hpl
/-- x(e, ..) in a try's body, x a def that may raise -/
theorem pe_fnS {CX : CXT} {lv : Nat} {ps : List Str} {sp : Sp} {E : L2.St → XK} (F : Cal X.prog X.w X.K X.mg X.base CX lv x ps [] sp) (hr : Room lv X.A) (hx : ∀ σ, PassesAt CX X σ (E σ)) (ha : PA X (e :: es) ta) (hg : Gl X x := by rfl) (hdb : (x == ("__debug__" : Str)) = false := by decide)
    (he : starEach (e :: es) X.env = (false, eval e X.env) :: starEach es X.env := by rfl) (hpl : (backTo pos (starEach es X.env)).any (·.1) = false := by rfl) : PE X (.Call (.Name x p) (e :: es) [] pos) (tCallS sp E ta) := by
  obtain ⟨f, fd, ds, G, m, k, v, b⟩ := F.ex
  cases v
  exact pe_callS G hr hg m k b hx ha hdb he hpl
/-- == and != of data, the fragment named (within an except suite) -/
theorem op_eqDs {K : Frg} (hk : X.K = K) (hu : X.A.units + 64 < cLine) : OpR X (compareOp .Eq) (rEqD K) := hk ▸ op_eqD hu
theorem op_neDs {K : Frg} (hk : X.K = K) (hu : X.A.units + 64 < cLine) : OpR X (compareOp .NotEq) (rNeD K) := hk ▸ op_neD hu
/-- // by a divisor that is not 0, of up to 9000 bits -/
theorem op_fdivNW : OpR X (binaryOp .FloorDiv) (rI (fun _ j => j ≠ 0 ∧ j.natAbs.log2 < 9000) fun i j => .int (i.fdiv j)) := opI fun _ _ _ _ _ _ _ hc q => floordiv_int hc.1 q (.inl (PyProof.noPylong_of_log2 hc.2))
end
end RS

set_option maxRecDepth 100000
set_option maxHeartbeats 4000000
namespace RS
open PySem PySem.Spec PyProof.Rows L2 NdefX He PySem.W
/-! ### data of tuples, with a Lean type -/
mutual
inductive Td (H : Hp) : V → PyData → Prop
  | non : Td H .non .none
  | bl (b : Bool) : Td H (.bl b) (.bool b)
  | int (i : Int) : Td H (.int i) (.int i)
  | str (x : Str) : Td H (.str x) (.str x)
  | tup {a : Addr} {xs : List V} {ds : List PyData} : H a = some (.tup xs) → TdAll H xs ds → Td H (.ref a) (.tuple ds)
inductive TdAll (H : Hp) : List V → List PyData → Prop
  | nil : TdAll H [] []
  | cons {v : V} {vs : List V} {d : PyData} {ds : List PyData} : Td H v d → TdAll H vs ds → TdAll H (v :: vs) (d :: ds)
end
/-- all tuples stand as they were -/
def TK (H H' : Hp) : Prop := ∀ r xs, H r = some (.tup xs) → H' r = some (.tup xs)
theorem TK.refl (H : Hp) : TK H H := fun _ _ h => h
theorem TK.trans {H H1 H2 : Hp} (x : TK H H1) (y : TK H1 H2) : TK H H2 := fun r xs h => y r xs (x r xs h)
theorem Same.tk {H H' : Hp} (x : L2.Same H H') : TK H H' := fun r xs h => x _ _ h
mutual
theorem Td.keep {H H' : Hp} (k : TK H H') : ∀ {v : V} {d : PyData}, Td H v d → Td H' v d
  | _, _, .non => .non
  | _, _, .bl b => .bl b
  | _, _, .int i => .int i
  | _, _, .str x => .str x
  | _, _, .tup e a => .tup (k _ _ e) (TdAll.keep k a)
theorem TdAll.keep {H H' : Hp} (k : TK H H') : ∀ {vs : List V} {ds : List PyData}, TdAll H vs ds → TdAll H' vs ds
  | _, _, .nil => .nil
  | _, _, .cons x y => .cons (Td.keep k x) (TdAll.keep k y)
end
mutual
theorem Td.dp {K : Frg} {H : Hp} : ∀ {v : V} {d : PyData}, Td H v d → Dp K H v d
  | _, _, .non => .non
  | _, _, .bl b => .bl b
  | _, _, .int i => .int i
  | _, _, .str x => .str x
  | _, _, .tup e a => .tup (SqT.of e) (TdAll.dp a)
theorem TdAll.dp {K : Frg} {H : Hp} : ∀ {vs : List V} {ds : List PyData}, TdAll H vs ds → DpAll K H vs ds
  | _, _, .nil => .nil
  | _, _, .cons x y => .cons (Td.dp x) (TdAll.dp y)
end
theorem TdAll.len {H : Hp} : ∀ {vs : List V} {ds : List PyData}, TdAll H vs ds → vs.length = ds.length
  | _, _, .nil => rfl
  | _, _, .cons _ y => by rw [List.length_cons, List.length_cons, TdAll.len y]
theorem TdAll.snoc {H : Hp} : ∀ {vs : List V} {ds : List PyData} {v : V} {d : PyData}, TdAll H vs ds → Td H v d → TdAll H (vs ++ [v]) (ds ++ [d])
  | _, _, _, _, .nil, x => .cons x .nil
  | _, _, _, _, .cons y ys, x => .cons y (TdAll.snoc ys x)
theorem TdAll.at {H : Hp} : ∀ {vs : List V} {ds : List PyData} {i : Nat} {v : V}, TdAll H vs ds → vs[i]? = some v → ∃ d, ds[i]? = some d ∧ Td H v d
  | _, _, i, _, .nil, h => by simp at h
  | _, _, 0, _, .cons y _, h => by
    simp at h
    subst h
    exact ⟨_, rfl, y⟩
  | _, _, i + 1, _, .cons _ ys, h => by
    simp at h
    obtain ⟨d, e, t⟩ := TdAll.at ys h
    exact ⟨d, by simpa using e, t⟩
section
variable {X : Cx}
/-- == and != of such data -/
def rEqT (α : Type) [DecidableEq α] [Datum α] (K : Frg) : R2 := fun x y H Q => ∃ a b : α, Dp K H x (Datum.toD a) ∧ Dp K H y (Datum.toD b) ∧ Q (.bl (decide (a = b))) H
def rNeT (α : Type) [DecidableEq α] [Datum α] (K : Frg) : R2 := fun x y H Q => ∃ a b : α, Dp K H x (Datum.toD a) ∧ Dp K H y (Datum.toD b) ∧ Q (.bl (!decide (a = b))) H
theorem op_eqT (α : Type) [DecidableEq α] [Datum α] (hu : X.A.units + 64 < cLine) (hd : Datum.depth α ≤ 64 := by decide) : OpR X (compareOp .Eq) (rEqT α X.K) := by
  intro pins s σ H x y v u Q I rx ry h
  obtain ⟨d, e, hd', he, q⟩ := h
  obtain ⟨as, r1⟩ := Dp.reads I _ x v hd' rx
  obtain ⟨bs, r2⟩ := Dp.reads I _ y u he ry
  exact eq_datum ⟨as, r1⟩ ⟨bs, r2⟩ (by omega) ⟨.bl _, H, I, rfl, q⟩
theorem op_neT (α : Type) [DecidableEq α] [Datum α] (hu : X.A.units + 64 < cLine) (hd : Datum.depth α ≤ 64 := by decide) : OpR X (compareOp .NotEq) (rNeT α X.K) := by
  intro pins s σ H x y v u Q I rx ry h
  obtain ⟨d, e, hd', he, q⟩ := h
  obtain ⟨as, r1⟩ := Dp.reads I _ x v hd' rx
  obtain ⟨bs, r2⟩ := Dp.reads I _ y u he ry
  exact ne_datum ⟨as, r1⟩ ⟨bs, r2⟩ (by omega) ⟨.bl (!decide (d = e)), H, I, by show _ = Value.bool _; rw [← decide_not], q⟩
/-- either of two rules -/
theorem opOr {f : Value → Value → Sem Value} {r r' : R2} (h : OpR X f r) (h' : OpR X f r') : OpR X f (fun x y H Q => r x y H Q ∨ r' x y H Q) := by
  intro pins s σ H x y v u Q I rx ry q
  rcases q with q | q
  · exact h pins s σ H x y v u Q I rx ry q
  · exact h' pins s σ H x y v u Q I rx ry q
/-- a, b, .. = a tuple, the fragment named (within a comprehension) -/
theorem pg_tupK {K : Frg} (hk : X.K = K) {es : List Expr} {k : Nat} {t : TGs} {n : Nat} {pos : Pos} (hc : X.calm = true) (h : PGs X es t)
    (hn : (assignEach es X.env).length = n := by rfl) (hst : (assignEach es X.env).findIdx? (·.1) = none := by rfl) : PG X (.Tuple es k pos) (gTup K n t) := by
  subst hk
  exact pg_tup hc h hn hst
/-- a, b, .. = a tuple or a list -/
def gUnp (K : Frg) (n : Nat) (t : TGs) : TG := fun v σ H Q => ∃ a xs, v = .ref a ∧ (SqT K H a xs ∨ SqL K H a xs) ∧ xs.length = n ∧ t xs σ H Q
theorem pg_unp {K : Frg} (hk : X.K = K) {es : List Expr} {k : Nat} {t : TGs} {n : Nat} {pos : Pos} (hc : X.calm = true) (h : PGs X es t)
    (hn : (assignEach es X.env).length = n := by rfl) (hst : (assignEach es X.env).findIdx? (·.1) = none := by rfl) : PG X (.Tuple es k pos) (gUnp K n t) := by
  subst hk
  refine ⟨fun pins s σ H v u Q I r hw => ?_⟩
  obtain ⟨a, xs, e1, hq | hq, hl, hw⟩ := hw
  · exact (pg_tup hc h hn hst).run pins s σ H v u Q I r ⟨a, xs, e1, hq, hl, hw⟩
  · exact (pg_lst hc h hn hst).run pins s σ H v u Q I r ⟨a, xs, e1, hq, hl, hw⟩
/-- list(x) within a comprehension -/
theorem call_listK {K : Frg} (hk : X.K = K) : CallR X (.type "list") (fun xs H Q => ∃ p ys, xs = [.ref p] ∧ (SqL K H p ys ∨ SqT K H p ys) ∧ ∀ l, H l = none → Q (.ref l) (upd H l (.lst ys))) := by
  subst hk
  exact call_list_of
/-- a sign n times -/
theorem rep_sign (c : Nat) : ∀ n : Nat, (List.replicate n #[c]).foldl (· ++ ·) #[] = (List.replicate n c).toArray := fun n => by
  have key : ∀ (n : Nat) (a : Array Nat), (List.replicate n #[c]).foldl (· ++ ·) a = a ++ (List.replicate n c).toArray := by
    intro n
    induction n with
    | zero => intro a; simp
    | succ n ih =>
      intro a
      rw [List.replicate_succ, List.foldl_cons, ih, List.replicate_succ]
      apply Array.ext'
      simp
  rw [key n #[]]
  simp
theorem op_mulS : OpR X (binaryOp .Mult) (fun x y H Q => ∃ (c : Nat) (n : Int), x = .str ⟨#[c]⟩ ∧ y = .int n ∧ 1 ≤ n ∧ n ≤ 1000 ∧ Q (.str ⟨(List.replicate n.toNat c).toArray⟩) H) := by
  intro pins s σ H x y v u Q I rx ry h
  obtain ⟨c, n, rfl, rfl, h1, h2, q⟩ := h
  obtain ⟨t, rfl⟩ := rx
  obtain ⟨t', rfl⟩ := ry
  refine PySem.P.mul_str ?_ (fun _ _ => ?_) (fun _ _ => ?_) ?_
  · rw [decide_eq_false (by omega), decide_eq_false (by omega)]
    rfl
  · show ¬ (((1 : Nat) : Int) > (2 ^ 63 - 1) / n)
    have : 1 ≤ (2 ^ 63 - 1) / n := (Int.le_ediv_iff_mul_le (by omega)).mpr (by omega)
    omega
  · exact decide_eq_false (show ¬ (1 * n.toNat > sizeLine) by rw [sizeLine_eq]; omega)
  · rw [if_neg (by omega)]
    split
    · rename_i hn
      have e : n = 1 := by
        rcases Bool.or_eq_true_iff.mp hn with z | z
        · exact beq_iff_eq.mp z
        · exact absurd (beq_iff_eq.mp z) (by show ¬ (1 = 0); decide)
      subst e
      exact ⟨.str ⟨#[c]⟩, H, I, ⟨_, rfl⟩, q⟩
    · rw [rep_sign]
      refine ⟨?_, ⟨.str _, H, I.tok _, ⟨_, rfl⟩, q⟩⟩
      show (List.replicate n.toNat c).toArray.size ≤ sizeLine
      rw [sizeLine_eq]
      simp
      omega
/-- a row that is not reached -/
theorem ps_never {st : Stmt} : PS X st (fun _ _ _ => False) := ⟨fun _ _ _ _ _ _ h => h.elim⟩
end
/-! ### a class whose __init__ may raise, called in a try's body -/
def tMakeS (C : Addr) (sp : Sp) (E : L2.St → XK) (t : TA) : TE := fun σ H Q => t σ H fun vs H1 => ∀ x dx, H1 x = none → H1 dx = none → dx ≠ x → sp (.ref x :: vs) (upd (upd H1 dx (.own x)) x (.ins C dx [])) (fun v H2 => v = .non ∧ Q (.ref x) H2) (E σ)
theorem pe_mkS {X : Cx} {CX : CXT} {lv : Nat} {x : Str} {C : Addr} {ps : List Str} {sp : Sp} {E : L2.St → XK} {p pos : Pos} {e : Expr} {es : List Expr} {t : TA} (F : Mkr X.prog X.w X.K X.mg X.base CX lv x C ps [] sp) (hr : Room (lv + 1) X.A)
    (hx : ∀ (σ : L2.St) (pins : List (Addr × Obj)) (H : Hp) (s : Shared) (e : Value) (s' : Shared), Inv X pins σ H s → CX X.stack H s (E σ) e s' → X.xe e s') (ha : PA X (e :: es) t) (hg : Gl X x := by rfl) (hdb : (x == ("__debug__" : Str)) = false := by decide)
    (he : starEach (e :: es) X.env = (false, eval e X.env) :: starEach es X.env := by rfl) (hpl : (backTo pos (starEach es X.env)).any (·.1) = false := by rfl) : PE X (.Call (.Name x p) (e :: es) [] pos) (tMakeS C sp E t) := by
  obtain ⟨f, fd, ds, G, M, hm, v, b⟩ := F.ex
  cases v
  refine ⟨fun pins s σ H Q I h => ?_⟩
  refine wpAny_Call_Name_kw (ld_glob I hg hm ?_ hdb)
  refine PySem.W.callWith_K (h₀ := X.base) I.ok.mod.kin M.kp (thn (ha.run pos pins s σ H _ I h) fun us s1 ⟨vs, H1, I1, r, h1⟩ => ⟨I1.kIn, ?_⟩) he hpl
  have hq := h1 (s1.heap.objs.size + 1) s1.heap.objs.size (I1.hok.fresh (Nat.le_succ _)) (I1.hok.fresh (Nat.le_refl _)) (Nat.ne_of_lt (Nat.lt_succ_self _))
  have I2 := Inv.made (C := C) I1
  have r2 : Vals (V.ref (s1.heap.objs.size + 1) :: vs) (Value.ref (s1.heap.objs.size + 1) :: us) := .cons rfl r
  have hl : (Value.ref (s1.heap.objs.size + 1) :: us).length = ps.length := by
    have e := r2.length
    rw [G.len _ _ _ _ hq] at e
    exact e.symm
  have bb := b _ (Value.ref (s1.heap.objs.size + 1) :: us) I2.kIn (by rw [List.append_nil]; exact hl)
  rw [List.append_nil] at bb
  refine wpAny_call (make_map (f := f) I1.kIn M.makes M.init (beq_iff_eq.mp M.fn) (codeAny_mono (G.run _ X.stack _ _ ⟨Value.ref (s1.heap.objs.size + 1) :: us, []⟩ (Value.ref (s1.heap.objs.size + 1) :: us) _ _ (E σ) (hr.make C us [])
    (I2.env0.make C us []) bb r2 hq) fun r s' hq' => ?_))
  cases r with
  | error e => exact hx σ pins _ _ e s' I2 hq'
  | ok fl =>
    cases fl with
    | ret u =>
      obtain ⟨v, H', I3, rv, ev, q3⟩ := I2.after hq'
      subst ev
      exact ⟨rv, ⟨V.ref (s1.heap.objs.size + 1), H', I3, rfl, q3⟩⟩
    | next => exact False.elim hq'
    | brk => exact False.elim hq'
    | cont => exact False.elim hq'
/-! ### an instance that is called -/
theorem fnR_of {P : Program} {w : World} {K : Frg} {mg : Str → Option Value} {base : Heap} {CX : CXT} {k : Nat} {f : Addr} {fd : FuncData} {ps : List Str} {sp : Sp} {ds : List Value} {dvs : List V} (F : FnOk P w K mg base CX k f fd ps sp) (hb : Binds K fd ps ds) (hd : Vals dvs ds) :
    FnR P w K mg base CX k f (fun vs H Q E => sp (vs ++ dvs) H Q E) := fun A outer s H us vs Q E hr e0 r hs => by
  have r2 : Vals (vs ++ dvs) (us ++ ds) := r.append hd
  have hl : (us ++ ds).length = ps.length := by rw [← r2.length]; exact F.len _ _ _ _ hs
  have KX : K.In s.heap := e0.mod.kin.keeps fun b o e => (e0.bs b o e).1
  exact F.run A outer s H ⟨us, []⟩ (us ++ ds) (vs ++ dvs) Q E hr e0 (hb s us KX hl) r2 hs
/-- instances of C may be called -/
structure Clo (P : Program) (w : World) (K : Frg) (mg : Str → Option Value) (base : Heap) (CX : CXT) (lv : Nat) (C : Addr) (sp : Sp) : Prop where
  ex : ∃ g, StX.CallO K C g ∧ FnR P w K mg base CX lv g sp
theorem pe_cl {X : Cx} {CX : CXT} {lv : Nat} {C : Addr} {sp : Sp} {E : XK} {fe e : Expr} {es : List Expr} {tf : TE} {t : TA} {pos : Pos} (F : Clo X.prog X.w X.K X.mg X.base CX lv C sp) (hr : Room lv X.A) (hx : Passes CX X E) (hf : PE X fe tf) (ha : PA X (e :: es) t)
    (ht : eval (.Call fe (e :: es) [] pos) X.env = (do callWith pos (← eval fe X.env) [] (backTo pos (starEach (e :: es) X.env)) (backToKw pos (keywordEach [] X.env))) := by rfl)
    (he : starEach (e :: es) X.env = (false, eval e X.env) :: starEach es X.env := by rfl) (hpl : (backTo pos (starEach es X.env)).any (·.1) = false := by rfl) : PE X (.Call fe (e :: es) [] pos) (StX.tCallO X C sp E tf t) := by
  obtain ⟨g, c, G⟩ := F.ex
  exact StX.pe_callO hf c G hr hx ha ht he hpl
/-- over the signs of a text -/
theorem lc_str {x : Str} {g : TG} {tt : TT} {te : TE} {vs : List Nat} {σ : L2.St} {H1 : Hp} {D : Addr} {Qd : Hp → Prop} (Pv : Nat → Hp → Prop) (h0 : Pv 0 (upd H1 D (.lst [])))
    (hs : ∀ i c H, x.cps[i]? = some c → Pv i H → g (.str ⟨#[c]⟩) (wipe σ vs) H fun σ2 H2 => wipe σ2 vs = wipe σ vs ∧ tt σ2 H2 fun b H3 =>
      if b = true then te σ2 H3 fun y H4 => ∃ acc, H4 D = some (.lst acc) ∧ acc.length < sizeLine ∧ Pv (i + 1) (upd H4 D (.lst (acc ++ [y]))) else Pv (i + 1) H3) (hd : ∀ H, Pv x.cps.size H → Qd H) :
    ∃ W : Nat → Nat → Hp → Prop, (∃ m, W 0 m (upd H1 D (.lst []))) ∧ ∀ i m H, W i m H →
      ((L2.Its x).stop i H ∧ Qd H) ∨ ((L2.Its x).go i H ∧ ∃ Nx : Hp → Prop, (∀ H', Nx H' → ∃ m', m' < m ∧ W (i + 1) m' H') ∧ ∀ v H', (L2.Its x).yld i H v H' → g v (wipe σ vs) H' fun σ2 H2 => wipe σ2 vs = wipe σ vs ∧ tt σ2 H2 fun b H3 =>
        if b = true then te σ2 H3 fun y H4 => ∃ acc, H4 D = some (.lst acc) ∧ acc.length < sizeLine ∧ Nx (upd H4 D (.lst (acc ++ [y]))) else Nx H3) := by
  refine ⟨fun i m H => m = x.cps.size - i ∧ i ≤ x.cps.size ∧ Pv i H, ⟨x.cps.size, by simp, Nat.zero_le _, h0⟩, ?_⟩
  rintro i m H ⟨rfl, hi, p⟩
  by_cases hlt : i < x.cps.size
  · refine .inr ⟨hlt, Pv (i + 1), fun H' p' => ⟨x.cps.size - (i + 1), by omega, rfl, hlt, p'⟩, ?_⟩
    rintro v H' ⟨rfl, c, hc, rfl⟩
    exact hs i c _ hc p
  · have e : i = x.cps.size := by omega
    subst e
    exact .inl ⟨Nat.le_refl _, hd H p⟩
end RS

set_option maxRecDepth 100000
set_option maxHeartbeats 4000000
namespace RS
open PySem PySem.Spec PyProof.Rows L2 NdefX He PySem.W
/-! ### walking a list or a tuple, not known which -/
def SqLT (K : Frg) (H : Hp) (a : Addr) (xs : List V) : Prop := SqL K H a xs ∨ SqT K H a xs
def iSq (K : Frg) (tl : TE) : TI := fun σ H R => tl σ H fun x H1 => ∃ a, x = .ref a ∧ (((∃ xs, SqL K H1 a xs) ∧ R (Itl K a) H1) ∨ ((∃ xs, SqT K H1 a xs) ∧ R (Itt K a) H1))
theorem pi_sq {X : Cx} {tg : Expr} {l : Expr} {tl : TE} (hl : PE X l tl) : PI X tg l (iSq X.K tl) := by
  refine ⟨fun pins s σ H R I h => ?_⟩
  refine thn (hl.run pins s σ H _ I h) fun v s1 ⟨x, H1, I1, r1, q1⟩ => ?_
  obtain ⟨a, e, ⟨⟨xs, hq⟩, q⟩ | ⟨⟨xs, hq⟩, q⟩⟩ := q1
  · subst e
    cases r1
    obtain ⟨its, rv, p, hz⟩ := I1.list hq
    refine wpAny_pyIter_list p.isList ?_
    refine ⟨s1.heap.objs.size, [s1.heap.objs.size], _, _, H1, rfl, I1.kept (t' := s1.toks) fun b o e => Heap.get?_push_of_some _ e, turn_list a _, ⟨_, Heap.get?_push_size _ rfl, rfl, rfl⟩, fun b hb => ?_, q⟩
    have e : b = s1.heap.objs.size := by simpa using hb
    subst e
    exact I1.fpOk (Nat.le_refl _) (I1.hok.fresh (Nat.le_refl _))
  · subst e
    cases r1
    obtain ⟨its, rv, p, hz⟩ := I1.tuple hq
    refine wpAny_pyIter_tuple (show s1.heap.IsTuple a its.toArray from p) ?_
    refine ⟨s1.heap.objs.size, [s1.heap.objs.size], _, _, H1, rfl, I1.kept (t' := s1.toks) fun b o e => Heap.get?_push_of_some _ e, turn_tuple a _, ⟨_, Heap.get?_push_size _ rfl, rfl, rfl⟩, fun b hb => ?_, q⟩
    have e : b = s1.heap.objs.size := by simpa using hb
    subst e
    exact I1.fpOk (Nat.le_refl _) (I1.hok.fresh (Nat.le_refl _))
/-- a list or a tuple, or a tuple of the module (a default) -/
def SqO (K : Frg) (H : Hp) (a : Addr) (xs : List V) : Prop := H a = some (.lst xs) ∨ H a = some (.tup xs) ∨ ∀ H', SqT K H' a xs
theorem SqO.old {K : Frg} {H H' : Hp} {a : Addr} {xs : List V} (x : SqO K H a xs) (k : ∀ o, H a = some o → H' a = some o) : SqO K H' a xs := x.imp (k _) (Or.imp (k _) id)
theorem SqO.sq {K : Frg} {H : Hp} {r : Addr} {ys : List V} (x : SqO K H r ys) : SqL K H r ys ∨ SqT K H r ys := x.imp SqL.of fun z => z.elim SqT.of fun k => k H
theorem for_sq {K : Frg} {a : Addr} {xs : List V} {g : TG} {tb : TS} {D : Ends} {σ : L2.St} {H0 H : Hp} (hq : SqO K H0 a xs) (Pv : Nat → L2.St → Hp → Prop) (h0 : Pv 0 σ H)
    (hl : ∀ i σ H', i ≤ xs.length → Pv i σ H' → ∀ o, H0 a = some o → H' a = some o)
    (hs : ∀ i x σ H, xs[i]? = some x → Pv i σ H → g x σ H fun σ2 H2 => tb { D with nx := Pv (i + 1), ct := Pv (i + 1), bk := D.nx } σ2 H2) (hd : ∀ σ H, Pv xs.length σ H → D.nx σ H) :
    ((∃ xs, SqL K H a xs) ∧ ∃ W : Nat → Nat → L2.St → Hp → Prop, (∃ m, W 0 m σ H) ∧ ∀ i m σ H, W i m σ H →
      ((Itl K a).stop i H ∧ D.nx σ H) ∨ ((Itl K a).go i H ∧ ∃ N : L2.St → Hp → Prop, (∀ σ' H', N σ' H' → ∃ m', m' < m ∧ W (i + 1) m' σ' H') ∧ ∀ x H', (Itl K a).yld i H x H' → g x σ H' fun σ2 H2 => tb { D with nx := N, ct := N, bk := D.nx } σ2 H2)) ∨
    ((∃ xs, SqT K H a xs) ∧ ∃ W : Nat → Nat → L2.St → Hp → Prop, (∃ m, W 0 m σ H) ∧ ∀ i m σ H, W i m σ H →
      ((Itt K a).stop i H ∧ D.nx σ H) ∨ ((Itt K a).go i H ∧ ∃ N : L2.St → Hp → Prop, (∀ σ' H', N σ' H' → ∃ m', m' < m ∧ W (i + 1) m' σ' H') ∧ ∀ x H', (Itt K a).yld i H x H' → g x σ H' fun σ2 H2 => tb { D with nx := N, ct := N, bk := D.nx } σ2 H2)) := by
  rcases hq with h | h | h
  · exact .inl ⟨⟨_, SqL.of (hl 0 σ H (Nat.zero_le _) h0 _ h)⟩, for_list Pv h0 (fun i σ H' hi p => SqL.of (hl i σ H' hi p _ h)) hs hd⟩
  · exact .inr ⟨⟨_, SqT.of (hl 0 σ H (Nat.zero_le _) h0 _ h)⟩, for_tup Pv h0 (fun i σ H' hi p => SqT.of (hl i σ H' hi p _ h)) hs hd⟩
  · exact .inr ⟨⟨_, h H⟩, for_tup Pv h0 (fun i σ H' hi p => h H') hs hd⟩
end RS

set_option maxRecDepth 100000
set_option maxHeartbeats 4000000
namespace RS
open PySem PySem.Spec PyProof.Rows L2 NdefX He PySem.W
/-! ### len(x), x[k], str(x) of an instance by its own defs -/
section
variable {X : Cx} {CX : CXT} {lv : Nat} {C : Addr} {ps : List Str} {sp : Sp} {E : XK}
def rLenOwn (C : Addr) (sp : Sp) (E : XK) : List V → Hp → VK → Prop := fun xs H Q => ∃ a dx fs, xs = [.ref a] ∧ H a = some (.ins C dx fs) ∧ sp [.ref a] H (fun v H' => ∃ n : Int, v = .int n ∧ 0 ≤ n ∧ n < 2 ^ 63 ∧ Q (.int n) H') E
theorem call_lenOwn (F : Mtd X.prog X.w X.K X.mg X.base CX lv C "__len__" ps [] sp) (hr : Room (lv + 1) X.A) (hx : Passes CX X E) : CallR X (.builtin "len") (rLenOwn C sp E) := by
  intro pins s σ H xs us Q I r h
  obtain ⟨a, dx, fs, rfl, ea, q⟩ := h
  obtain ⟨f, fd, ds, G, k, vd, bb⟩ := F.ex
  cases vd
  obtain ⟨u, rfl, ru⟩ := vals1 r
  cases (show u = Value.ref a from ru)
  obtain ⟨od, J⟩ := inst_at I ea
  obtain ⟨mm, hF⟩ := I.fr
  refine PySem.W.len_K hF I.ok.mod.kin J k.at_ k.fn ?_
  refine thn (run_in1 (us := [.ref a]) (vs := [.ref a]) G hr bb hx I (.cons rfl .nil) q) fun w s' ⟨z, H', I', rz, n, ez, h0, h1, qz⟩ => ?_
  subst ez
  obtain ⟨t, rfl⟩ := rz
  exact ⟨⟨h0, h1⟩, .int n, H', I'.tok _, ⟨_, rfl⟩, qz⟩
def rStrOwn (C : Addr) (sp : Sp) (E : XK) : List V → Hp → VK → Prop := fun xs H Q => ∃ a dx fs, xs = [.ref a] ∧ H a = some (.ins C dx fs) ∧ sp [.ref a] H (fun v H' => ∃ x : Str, v = .str x ∧ Q (.str x) H') E
theorem call_strOwn (F : Mtd X.prog X.w X.K X.mg X.base CX lv C "__str__" ps [] sp) (hr : Room (lv + 2) X.A) (hx : Passes CX X E) : CallR X (.type "str") (rStrOwn C sp E) := by
  intro pins s σ H xs us Q I r h
  obtain ⟨a, dx, fs, rfl, ea, q⟩ := h
  obtain ⟨f, fd, ds, G, k, vd, bb⟩ := F.ex
  cases vd
  obtain ⟨u, rfl, ru⟩ := vals1 r
  cases (show u = Value.ref a from ru)
  obtain ⟨od, J⟩ := inst_at I ea
  have hr2 : Room lv X.A.in1.in1 := (show Room (lv + 1) X.A.in1 from Room.in1 hr).in1
  refine PySem.W.kso_call (by have := hr2.units; omega) I.kIn J k.at_ k.fn ?_
  have hl : (([.ref a] : List Value) ++ []).length = ps.length := (G.len _ _ _ _ q)
  have hb2 := bb s [.ref a] I.kIn hl
  rw [List.append_nil] at hb2
  refine wpAny_call (codeAny_mono (G.run X.A.in1.in1 X.stack s H ⟨[.ref a], []⟩ [.ref a] [.ref a] _ E hr2 I.env0.in1.in1 hb2 (.cons rfl .nil) q) fun r s' hq => ?_)
  cases r with
  | error e => exact hx pins σ H s e s' I hq
  | ok fl =>
    cases fl with
    | ret u =>
      obtain ⟨z, H', I', rz, x, ez, qz⟩ := I.after hq
      subst ez
      obtain ⟨t, rfl⟩ := (show ∃ t, u = Value.str x t from rz)
      exact ⟨.str x, H', I', ⟨t, rfl⟩, qz⟩
    | next => exact False.elim hq
    | brk => exact False.elim hq
    | cont => exact False.elim hq
/-- the own __getitem__ is a def -/
def getIn (K : Frg) (C : Addr) : Bool := match PySem.W.findIn K (.ref C) "__getitem__" with
  | some (some (.ref f)) => PySem.W.fnIn K f
  | _ => false
theorem getIn_of {K : Frg} {C f : Addr} (h : getIn K C = true) (e : PySem.W.findIn K (.ref C) "__getitem__" = some (some (.ref f))) : PySem.W.fnIn K f = true := by
  unfold getIn at h
  rw [e] at h
  exact h
def rIxOwn (C : Addr) (sp : Sp) (E : XK) : R2 := fun x y H Q => ∃ a dx fs, x = .ref a ∧ H a = some (.ins C dx fs) ∧ sp [.ref a, y] H Q E
theorem pe_ixOwn {a b : Expr} {ta tb : TE} {pos : Pos} (g : getIn X.K C = true) (F : Mtd X.prog X.w X.K X.mg X.base CX lv C "__getitem__" ps [] sp) (hr : Room (lv + 1) X.A) (hx : Passes CX X E) (ha : PE X a ta) (hb : PE X b tb)
    (hs : ∀ o i, subscripted b true o i = runValue (.builtin "lifetime.subscript" ⟨[o, i], []⟩) := by intro _ _; with_unfolding_all rfl) : PE X (.Subscript a b pos) (tOp (rIxOwn C sp E) ta tb) := by
  refine ⟨fun pins s σ H Q I h => ?_⟩
  refine Subscript_ (binT ha hb I h fun v u s2 x y H2 I2 rx ry q => ?_)
  obtain ⟨p, dx, fs, rfl, ea, q⟩ := q
  obtain ⟨f, fd, ds, G, k, vd, bb⟩ := F.ex
  cases vd
  cases (show v = Value.ref p from rx)
  obtain ⟨od, J⟩ := inst_at I2 ea
  obtain ⟨mm, hF⟩ := I2.fr
  refine PySem.W.sub_K hF I2.ok.mod.kin J k.at_ (getIn_of g k.at_) k.fn ?_ (hs _ _)
  exact run_in1 (us := [.ref p, u]) (vs := [.ref p, y]) G hr bb hx I2 (.cons rfl (.cons ry .nil)) q
end
end RS

namespace RS
/-- the tables of code objects of the law's defs that make lambdas: where, and the lambda's qualified name -/
class Tbls where
  tls : List (PySem.Addr × PySem.Str)
abbrev TL [t : Tbls] : List (PySem.Addr × PySem.Str) := t.tls
end RS

set_option maxRecDepth 100000
set_option maxHeartbeats 4000000
namespace RS
open PySem PySem.Spec PyProof.Rows L2 NdefX He PySem.W
/-! ### values as data: what does not change is a tree, what changes stands at an address -/
/-- built-in types that are asked by name -/
inductive BT where
  | int | bool | str | tuple | list | dict | none | verr
def BT.name : BT → String
  | .int => "int" | .bool => "bool" | .str => "str" | .tuple => "tuple" | .list => "list" | .dict => "dict" | .none => "NoneType" | .verr => "ValueError"
inductive D where
  | non | bl (b : Bool) | int (i : Int) | str (x : Str) | ty (n : BT) | ref (a : Addr)
  | tup (xs : List D) | lst (xs : List D) | dct (ks : List (Key × D)) | ins (C : Addr) (fs : List (Str × D))
  /-- the exception at a that is handled, its own dict at d -/
  | exc (a : Addr) (d : Option Addr) (C : Addr) (fs : List (Str × D))
  /-- the script -/
  | scr (ns : List Int)
mutual
inductive Rv (K : Frg) (F : Hp) : V → D → Prop
  | non : Rv K F .non .non
  | bl (b : Bool) : Rv K F (.bl b) (.bl b)
  | int (i : Int) : Rv K F (.int i) (.int i)
  | str (x : Str) : Rv K F (.str x) (.str x)
  | ty (n : BT) : Rv K F (.ty n.name) (.ty n)
  | ref (a : Addr) : Rv K F (.ref a) (.ref a)
  | tup {a : Addr} {vs : List V} {ds : List D} : SqT K F a vs → Rvs K F vs ds → Rv K F (.ref a) (.tup ds)
  | lst {a : Addr} {vs : List V} {ds : List D} : F a = some (.lst vs) → Rvs K F vs ds → Rv K F (.ref a) (.lst ds)
  | dct {a : Addr} {kvs : List (Key × V)} {ks : List (Key × D)} : F a = some (.dK kvs) → Rks K F kvs ks → Rv K F (.ref a) (.dct ks)
  | ins {a C dx : Addr} {fs : List (Str × V)} {gs : List (Str × D)} : F a = some (.ins C dx fs) → Rfs K F fs gs → (gs.map (·.1)).Nodup → Rv K F (.ref a) (.ins C gs)
  | exc0 (a C : Addr) : Rv K F (.ref a) (.exc a none C [])
  | exc1 {a C d : Addr} {fs : List (Str × V)} {gs : List (Str × D)} : F d = some (.xd fs) → Rfs K F fs gs → Rv K F (.ref a) (.exc a (some d) C gs)
  | scr {a : Addr} {ns : List Int} : SqL K F a (ns.map V.int) → Rv K F (.ref a) (.scr ns)
inductive Rvs (K : Frg) (F : Hp) : List V → List D → Prop
  | nil : Rvs K F [] []
  | cons {v : V} {vs : List V} {d : D} {ds : List D} : Rv K F v d → Rvs K F vs ds → Rvs K F (v :: vs) (d :: ds)
inductive Rks (K : Frg) (F : Hp) : List (Key × V) → List (Key × D) → Prop
  | nil : Rks K F [] []
  | cons {k : Key} {v : V} {vs : List (Key × V)} {d : D} {ds : List (Key × D)} : Rv K F v d → Rks K F vs ds → Rks K F ((k, v) :: vs) ((k, d) :: ds)
inductive Rfs (K : Frg) (F : Hp) : List (Str × V) → List (Str × D) → Prop
  | nil : Rfs K F [] []
  | cons {k : Str} {v : V} {vs : List (Str × V)} {d : D} {ds : List (Str × D)} : Rv K F v d → Rfs K F vs ds → Rfs K F ((k, v) :: vs) ((k, d) :: ds)
end
theorem Same.sqT {K : Frg} {H H' : Hp} {a : Addr} {xs : List V} (e : L2.Same H H') (h : SqT K H a xs) : SqT K H' a xs := by
  rcases h with (h | ⟨o, h⟩) | h
  · exact .inl (.inl (e _ _ h))
  · exact .inl (.inr ⟨o, e _ _ h⟩)
  · exact .inr h
mutual
theorem Rv.mono {K : Frg} {F F' : Hp} (k : L2.Same F F') : ∀ {v : V} {d : D}, Rv K F v d → Rv K F' v d
  | _, _, .non => .non
  | _, _, .bl b => .bl b
  | _, _, .int i => .int i
  | _, _, .str x => .str x
  | _, _, .ty n => .ty n
  | _, _, .ref a => .ref a
  | _, _, .tup e a => .tup (Same.sqT k e) (Rvs.mono k a)
  | _, _, .lst e a => .lst (k _ _ e) (Rvs.mono k a)
  | _, _, .dct e a => .dct (k _ _ e) (Rks.mono k a)
  | _, _, .ins e a n => .ins (k _ _ e) (Rfs.mono k a) n
  | _, _, .exc0 a C => .exc0 a C
  | _, _, .exc1 e a => .exc1 (k _ _ e) (Rfs.mono k a)
  | _, _, .scr e => .scr (k.seq e)
theorem Rvs.mono {K : Frg} {F F' : Hp} (k : L2.Same F F') : ∀ {v : List V} {d : List D}, Rvs K F v d → Rvs K F' v d
  | _, _, .nil => .nil
  | _, _, .cons x y => .cons (Rv.mono k x) (Rvs.mono k y)
theorem Rks.mono {K : Frg} {F F' : Hp} (k : L2.Same F F') : ∀ {v : List (Key × V)} {d : List (Key × D)}, Rks K F v d → Rks K F' v d
  | _, _, .nil => .nil
  | _, _, .cons x y => .cons (Rv.mono k x) (Rks.mono k y)
theorem Rfs.mono {K : Frg} {F F' : Hp} (k : L2.Same F F') : ∀ {v : List (Str × V)} {d : List (Str × D)}, Rfs K F v d → Rfs K F' v d
  | _, _, .nil => .nil
  | _, _, .cons x y => .cons (Rv.mono k x) (Rfs.mono k y)
end
section
variable {K : Frg} {F : Hp}
theorem Rvs.len : ∀ {vs : List V} {ds : List D}, Rvs K F vs ds → vs.length = ds.length
  | _, _, .nil => rfl
  | _, _, .cons _ y => by rw [List.length_cons, List.length_cons, Rvs.len y]
theorem Rks.len : ∀ {vs : List (Key × V)} {ds : List (Key × D)}, Rks K F vs ds → vs.length = ds.length
  | _, _, .nil => rfl
  | _, _, .cons _ y => by rw [List.length_cons, List.length_cons, Rks.len y]
theorem Rfs.len : ∀ {vs : List (Str × V)} {ds : List (Str × D)}, Rfs K F vs ds → vs.length = ds.length
  | _, _, .nil => rfl
  | _, _, .cons _ y => by rw [List.length_cons, List.length_cons, Rfs.len y]
theorem Rfs.keys : ∀ {vs : List (Str × V)} {ds : List (Str × D)}, Rfs K F vs ds → vs.map (·.1) = ds.map (·.1)
  | _, _, .nil => rfl
  | _, _, .cons _ y => by rw [List.map_cons, List.map_cons, Rfs.keys y]
theorem Rvs.append : ∀ {vs ws : List V} {ds es : List D}, Rvs K F vs ds → Rvs K F ws es → Rvs K F (vs ++ ws) (ds ++ es)
  | _, _, _, _, .nil, x => x
  | _, _, _, _, .cons y ys, x => .cons y (Rvs.append ys x)
theorem Rvs.snoc {vs : List V} {ds : List D} {v : V} {d : D} (x : Rvs K F vs ds) (y : Rv K F v d) : Rvs K F (vs ++ [v]) (ds ++ [d]) := x.append (.cons y .nil)
theorem Rvs.at : ∀ {vs : List V} {ds : List D} {i : Nat} {v : V}, Rvs K F vs ds → vs[i]? = some v → ∃ d, ds[i]? = some d ∧ Rv K F v d
  | _, _, i, _, .nil, h => by simp at h
  | _, _, 0, _, .cons y _, h => by
    simp at h
    subst h
    exact ⟨_, rfl, y⟩
  | _, _, i + 1, _, .cons _ ys, h => by
    simp at h
    obtain ⟨d, e, t⟩ := Rvs.at ys h
    exact ⟨d, by simpa using e, t⟩
theorem Rvs.atD : ∀ {vs : List V} {ds : List D} {i : Nat} {d : D}, Rvs K F vs ds → ds[i]? = some d → ∃ v, vs[i]? = some v ∧ Rv K F v d
  | _, _, i, _, .nil, h => by simp at h
  | _, _, 0, _, .cons y _, h => by
    simp at h
    subst h
    exact ⟨_, rfl, y⟩
  | _, _, i + 1, _, .cons _ ys, h => by
    simp at h
    obtain ⟨d, e, t⟩ := Rvs.atD ys h
    exact ⟨d, by simpa using e, t⟩
theorem Rvs.take : ∀ {vs : List V} {ds : List D} (n : Nat), Rvs K F vs ds → Rvs K F (vs.take n) (ds.take n)
  | _, _, 0, _ => .nil
  | _, _, _ + 1, .nil => .nil
  | _, _, n + 1, .cons x y => .cons x (Rvs.take n y)
theorem Rvs.drop : ∀ {vs : List V} {ds : List D} (n : Nat), Rvs K F vs ds → Rvs K F (vs.drop n) (ds.drop n)
  | _, _, 0, x => x
  | _, _, _ + 1, .nil => .nil
  | _, _, n + 1, .cons x y => Rvs.drop n y
theorem Rvs.set {v : V} {d : D} (r : Rv K F v d) : ∀ {vs : List V} {ds : List D} (n : Nat), Rvs K F vs ds → Rvs K F (vs.set n v) (ds.set n d)
  | _, _, _, .nil => .nil
  | _, _, 0, .cons x y => .cons r y
  | _, _, n + 1, .cons x y => .cons x (Rvs.set r n y)
theorem Rvs.dropLast : ∀ {vs : List V} {ds : List D}, Rvs K F vs ds → Rvs K F vs.dropLast ds.dropLast
  | _, _, .nil => .nil
  | _, _, .cons x .nil => .nil
  | _, _, .cons x (.cons y z) => .cons x (Rvs.dropLast (.cons y z))
theorem Rvs.ints : ∀ (ns : List Int), Rvs K F (ns.map V.int) (ns.map D.int)
  | [] => .nil
  | n :: ns => .cons (.int n) (Rvs.ints ns)
end
/-! ### what changes -/
inductive MO where
  | lst (xs : List D) | dct (ks : List (Key × D)) | ins (C : Addr) (fs : List (Str × D))
def MO.d : MO → D
  | .lst xs => .lst xs
  | .dct ks => .dct ks
  | .ins C fs => .ins C fs
abbrev MS := Addr → Option MO
def updM (M : MS) (a : Addr) (m : MO) : MS := fun b => if b = a then some m else M b
def delM (M : MS) (a : Addr) : MS := fun b => if b = a then none else M b
theorem updM_same {M : MS} {a : Addr} {m : MO} : updM M a m a = some m := if_pos rfl
theorem updM_ne {M : MS} {a b : Addr} {m : MO} (h : b ≠ a) : updM M a m b = M b := if_neg h
theorem delM_same {M : MS} {a : Addr} : delM M a a = none := if_pos rfl
theorem delM_ne {M : MS} {a b : Addr} (h : b ≠ a) : delM M a b = M b := if_neg h
theorem updM_updM {M : MS} {a : Addr} {m n : MO} : updM (updM M a m) a n = updM M a n := by
  funext b; unfold updM; split <;> rfl
theorem updM_comm {M : MS} {a b : Addr} {m n : MO} (h : a ≠ b) : updM (updM M a m) b n = updM (updM M b n) a m := by
  funext c; unfold updM
  by_cases h1 : c = a
  · subst h1; rw [if_neg h, if_pos rfl, if_pos rfl]
  · rw [if_neg h1, if_neg h1]
theorem delM_updM {M : MS} {a : Addr} {m : MO} (h : M a = none) : delM (updM M a m) a = M := by
  funext b; unfold delM updM
  split
  · rename_i e; rw [e, h]
  · rfl
theorem delM_updM_ne {M : MS} {a b : Addr} {m : MO} (h : b ≠ a) : delM (updM M b m) a = updM (delM M a) b m := by
  funext c
  by_cases h1 : c = a
  · subst h1; rw [delM_same, updM_ne (Ne.symm h), delM_same]
  · rw [delM_ne h1]
    by_cases h2 : c = b
    · subst h2; rw [updM_same, updM_same]
    · rw [updM_ne h2, updM_ne h2, delM_ne h1]
def RepO (K : Frg) (F : Hp) : Option HO → MO → Prop
  | some (.lst vs), .lst ds => Rvs K F vs ds
  | some (.dK kvs), .dct ks => Rks K F kvs ks
  | some (.ins C _ fs), .ins C' gs => C = C' ∧ Rfs K F fs gs ∧ (gs.map (·.1)).Nodup
  | _, _ => False
theorem RepO.mono {K : Frg} {F F' : Hp} (k : L2.Same F F') {o : Option HO} {m : MO} (h : RepO K F o m) : RepO K F' o m := by
  unfold RepO at h ⊢
  split at h
  · exact h.mono k
  · exact h.mono k
  · exact ⟨h.1, h.2.1.mono k, h.2.2⟩
  · exact h.elim
theorem RepO.some {K : Frg} {F : Hp} {o : Option HO} {m : MO} (h : RepO K F o m) : ∃ u, o = some u := by
  cases o with
  | none => exact h.elim
  | some u => exact ⟨u, rfl⟩
/-- no table of code objects; neither that nor anything opaque -/
def Hd : HO → Prop
  | .tbl _ => False
  | _ => True
def Pl : HO → Prop
  | .tbl _ => False
  | .ext _ => False
  | _ => True
theorem RepO.hd {K : Frg} {F : Hp} {u : HO} {m : MO} (h : RepO K F (Option.some u) m) : Hd u ∧ Pl u := by
  cases u <;> first | exact ⟨True.intro, True.intro⟩ | exact h.elim
theorem Pl.hd {u : HO} (h : Pl u) : Hd u := by
  cases u <;> first | exact True.intro | exact h.elim
section
variable [Tbls]
theorem tabs_new {H : Hp} {p : Addr} {o : HO} (t : LamX.Tabs TL H) (h : H p = none) : LamX.Tabs TL (upd H p o) := t.ext fun b u e => by
  have hb : b ≠ p := by rintro rfl; rw [h] at e; cases e
  rw [upd_ne hb]; exact e
theorem tabs_but {H H' : Hp} {p : Addr} {u : HO} (t : LamX.Tabs TL H) (h : H p = some u) (pl : Pl u) (k : ∀ b o, b ≠ p → H b = some o → H' b = some o) : LamX.Tabs TL H' := fun q hq => by
  obtain ⟨ps, h1, h2, h3⟩ := t q hq
  have e1 : q.1 ≠ p := fun e => by
    rw [e, h] at h1; cases h1; exact pl
  refine ⟨ps, k _ _ e1 h1, h2, fun pos cv hc => ?_⟩
  obtain ⟨c, x, y⟩ := h3 pos cv hc
  have e2 : c ≠ p := fun e => by
    rw [e, h] at y
    have z := Option.some.inj y
    rw [z] at pl
    exact pl
  exact ⟨c, x, k _ _ e2 y⟩
theorem tabs_put {H : Hp} {p : Addr} {o u : HO} (t : LamX.Tabs TL H) (h : H p = some u) (pl : Pl u) : LamX.Tabs TL (upd H p o) := tabs_but t h pl fun b v hb e => by rw [upd_ne hb]; exact e
/-- frozen F, changing M, set aside G, all in the heap H -/
structure Rep (K : Frg) (F : Hp) (M : MS) (G H : Hp) : Prop where
  fz : L2.Same F H
  mu : ∀ a m, M a = some m → F a = none ∧ G a = none ∧ RepO K F (H a) m
  fr : ∀ a o, G a = some o → H a = some o ∧ F a = none
  nt : ∀ a o, F a = some o → Hd o
  ng : ∀ a o, G a = some o → Pl o
  tb : LamX.Tabs TL H
section
variable {K : Frg} {F : Hp} {M : MS} {G H : Hp} {p a : Addr} {o : HO} {m m' : MO}
theorem Rep.freeF (R : Rep K F M G H) (h : H p = none) : F p = none := by
  cases e : F p with
  | none => rfl
  | some o => rw [R.fz _ _ e] at h; cases h
theorem Rep.freeG (R : Rep K F M G H) (h : H p = none) : G p = none := by
  cases e : G p with
  | none => rfl
  | some o => rw [(R.fr _ _ e).1] at h; cases h
theorem Rep.freeM (R : Rep K F M G H) (h : H p = none) : M p = none := by
  cases e : M p with
  | none => rfl
  | some m =>
    obtain ⟨u, hu⟩ := (R.mu _ _ e).2.2.some
    rw [h] at hu; cases hu
theorem Rep.newF (R : Rep K F M G H) (h : H p = none) (hd : Hd o := by exact True.intro) : Rep K (upd F p o) M G (upd H p o) ∧ L2.Same F (upd F p o) := by
  have s : L2.Same F (upd F p o) := Same.new (R.freeF h)
  refine ⟨⟨fun b u e => ?_, fun b m e => ?_, fun b u e => ?_, fun b u e => ?_, R.ng, tabs_new R.tb h⟩, s⟩
  · by_cases hb : b = p
    · subst hb; rw [upd_same] at e ⊢; exact e
    · rw [upd_ne hb] at e ⊢; exact R.fz _ _ e
  · obtain ⟨x, y, z⟩ := R.mu b m e
    have hb : b ≠ p := by rintro rfl; rw [R.freeM h] at e; cases e
    rw [upd_ne hb, upd_ne hb]
    exact ⟨x, y, z.mono s⟩
  · obtain ⟨x, y⟩ := R.fr b u e
    have hb : b ≠ p := by rintro rfl; rw [R.freeG h] at e; cases e
    rw [upd_ne hb, upd_ne hb]
    exact ⟨x, y⟩
  · by_cases hb : b = p
    · subst hb; rw [upd_same] at e; cases e; exact hd
    · rw [upd_ne hb] at e; exact R.nt b u e
/-- something new that nobody holds -/
theorem Rep.newN (R : Rep K F M G H) (h : H p = none) : Rep K F M G (upd H p o) := by
  refine ⟨fun b u e => ?_, fun b m e => ?_, fun b u e => ?_, R.nt, R.ng, tabs_new R.tb h⟩
  · have hb : b ≠ p := by rintro rfl; rw [R.freeF h] at e; cases e
    rw [upd_ne hb]; exact R.fz _ _ e
  · have hb : b ≠ p := by rintro rfl; rw [R.freeM h] at e; cases e
    rw [upd_ne hb]; exact R.mu b m e
  · have hb : b ≠ p := by rintro rfl; rw [R.freeG h] at e; cases e
    rw [upd_ne hb]; exact R.fr b u e
theorem Rep.newM (R : Rep K F M G H) (h : H p = none) (ro : RepO K F (some o) m) : Rep K F (updM M p m) G (upd H p o) := by
  refine ⟨(R.newN h).fz, fun b n e => ?_, (R.newN (o := o) h).fr, R.nt, R.ng, tabs_new R.tb h⟩
  by_cases hb : b = p
  · subst hb
    rw [updM_same] at e; cases e
    rw [upd_same]
    exact ⟨R.freeF h, R.freeG h, ro⟩
  · rw [updM_ne hb] at e
    rw [upd_ne hb]
    exact R.mu b n e
theorem Rep.newG (R : Rep K F M G H) (h : H p = none) (pl : Pl o := by exact True.intro) : Rep K F M (upd G p o) (upd H p o) := by
  refine ⟨(R.newN h).fz, fun b n e => ?_, fun b u e => ?_, R.nt, fun b u e => ?_, tabs_new R.tb h⟩
  · have hb : b ≠ p := by rintro rfl; rw [R.freeM h] at e; cases e
    rw [upd_ne hb, upd_ne hb]; exact R.mu b n e
  · by_cases hb : b = p
    · subst hb
      rw [upd_same] at e ⊢; cases e
      exact ⟨rfl, R.freeF h⟩
    · rw [upd_ne hb] at e ⊢
      exact R.fr b u e
  · by_cases hb : b = p
    · subst hb; rw [upd_same] at e; cases e; exact pl
    · rw [upd_ne hb] at e; exact R.ng b u e
theorem Rep.putG {u : HO} (R : Rep K F M (upd G p u) H) (pl : Pl o := by exact True.intro) : Rep K F M (upd G p o) (upd H p o) := by
  have hp := R.fr p u upd_same
  refine ⟨fun b v e => ?_, fun b n e => ?_, fun b v e => ?_, R.nt, fun b v e => ?_, tabs_put R.tb hp.1 (R.ng p u upd_same)⟩
  · have hb : b ≠ p := by rintro rfl; rw [hp.2] at e; cases e
    rw [upd_ne hb]; exact R.fz _ _ e
  · obtain ⟨x, y, z⟩ := R.mu b n e
    have hb : b ≠ p := by rintro rfl; rw [upd_same] at y; cases y
    rw [upd_ne hb] at y
    rw [upd_ne hb, upd_ne hb]
    exact ⟨x, y, z⟩
  · by_cases hb : b = p
    · subst hb
      rw [upd_same] at e ⊢; cases e
      exact ⟨rfl, hp.2⟩
    · rw [upd_ne hb] at e ⊢
      exact R.fr b v (by rw [upd_ne hb]; exact e)
  · by_cases hb : b = p
    · subst hb; rw [upd_same] at e; cases e; exact pl
    · rw [upd_ne hb] at e; exact R.ng b v (by rw [upd_ne hb]; exact e)
/-- what was set aside is frozen -/
theorem Rep.frzG (R : Rep K F M (upd G p o) H) (h : G p = none) : Rep K (upd F p o) M G H ∧ L2.Same F (upd F p o) := by
  have hp := R.fr p o upd_same
  have s : L2.Same F (upd F p o) := Same.new hp.2
  refine ⟨⟨fun b v e => ?_, fun b n e => ?_, fun b v e => ?_, fun b v e => ?_, fun b v e => ?_, R.tb⟩, s⟩
  · by_cases hb : b = p
    · subst hb; rw [upd_same] at e; cases e; exact hp.1
    · rw [upd_ne hb] at e; exact R.fz _ _ e
  · obtain ⟨x, y, z⟩ := R.mu b n e
    have hb : b ≠ p := by rintro rfl; rw [upd_same] at y; cases y
    rw [upd_ne hb] at y
    rw [upd_ne hb]
    exact ⟨x, y, z.mono s⟩
  · have hb : b ≠ p := by rintro rfl; rw [h] at e; cases e
    rw [upd_ne hb]
    exact R.fr b v (by rw [upd_ne hb]; exact e)
  · by_cases hb : b = p
    · subst hb; rw [upd_same] at e; cases e; exact (R.ng b o upd_same).hd
    · rw [upd_ne hb] at e; exact R.nt b v e
  · have hb : b ≠ p := by rintro rfl; rw [h] at e; cases e
    exact R.ng b v (by rw [upd_ne hb]; exact e)
theorem Rep.put (R : Rep K F M G H) (e : M a = some m) (ro : RepO K F (some o) m') : Rep K F (updM M a m') G (upd H a o) := by
  obtain ⟨x, y, w⟩ := R.mu a m e
  obtain ⟨u0, hu⟩ := w.some
  rw [hu] at w
  refine ⟨fun b u z => ?_, fun b n z => ?_, fun b u z => ?_, R.nt, R.ng, tabs_put R.tb hu w.hd.2⟩
  · have hb : b ≠ a := by rintro rfl; rw [x] at z; cases z
    rw [upd_ne hb]; exact R.fz _ _ z
  · by_cases hb : b = a
    · subst hb
      rw [updM_same] at z; cases z
      rw [upd_same]
      exact ⟨x, y, ro⟩
    · rw [updM_ne hb] at z
      rw [upd_ne hb]
      exact R.mu b n z
  · have hb : b ≠ a := by rintro rfl; rw [y] at z; cases z
    rw [upd_ne hb]; exact R.fr b u z
theorem tabs_rep {H' : Hp} (R : Rep K F M G H) (e : M a = some m) (k : ∀ b o, b ≠ a → H b = some o → H' b = some o) : LamX.Tabs TL H' := by
  obtain ⟨_, _, w⟩ := R.mu a m e
  obtain ⟨u, hu⟩ := w.some
  rw [hu] at w
  exact tabs_but R.tb hu w.hd.2 k
theorem Rep.weak {M' : MS} (R : Rep K F M G H) (h : ∀ a m, M' a = some m → M a = some m) : Rep K F M' G H := ⟨R.fz, fun a m e => R.mu a m (h a m e), R.fr, R.nt, R.ng, R.tb⟩
/-- what changed is frozen -/
theorem Rep.frz (R : Rep K F M G H) (e : M a = some m) : ∃ F', L2.Same F F' ∧ Rep K F' (delM M a) G H ∧ Rv K F' (.ref a) m.d := by
  obtain ⟨x, y, z⟩ := R.mu a m e
  obtain ⟨u, hu⟩ := z.some
  have s : L2.Same F (upd F a u) := Same.new x
  refine ⟨upd F a u, s, ⟨fun b v q => ?_, fun b n q => ?_, fun b v q => ?_, fun b v q => ?_, R.ng, R.tb⟩, ?_⟩
  · by_cases hb : b = a
    · subst hb; rw [upd_same] at q; cases q; exact hu
    · rw [upd_ne hb] at q; exact R.fz _ _ q
  · have hb : b ≠ a := by rintro rfl; rw [delM_same] at q; cases q
    rw [delM_ne hb] at q
    obtain ⟨x', y', z'⟩ := R.mu b n q
    rw [upd_ne hb]
    exact ⟨x', y', z'.mono s⟩
  · have hb : b ≠ a := by rintro rfl; rw [y] at q; cases q
    rw [upd_ne hb]; exact R.fr b v q
  · by_cases hb : b = a
    · subst hb; rw [upd_same] at q; cases q; rw [hu] at z; exact z.hd.1
    · rw [upd_ne hb] at q; exact R.nt b v q
  · rw [hu] at z
    cases m with
    | lst ds =>
      cases u <;> try exact z.elim
      exact .lst upd_same (Rvs.mono s z)
    | dct ks =>
      cases u <;> try exact z.elim
      exact .dct upd_same (Rks.mono s z)
    | ins C gs =>
      cases u <;> try exact z.elim
      obtain ⟨rfl, z, n⟩ := z
      exact .ins upd_same (z.mono s) n
end
section
variable {K : Frg} {F : Hp} {M : MS} {G H : Hp} {a : Addr}
theorem Rvs.empty {vs : List V} {ds : List D} (r : Rvs K F vs ds) : vs.isEmpty = ds.isEmpty := by cases r <;> rfl
theorem Rks.empty {vs : List (Key × V)} {ds : List (Key × D)} (r : Rks K F vs ds) : vs.isEmpty = ds.isEmpty := by cases r <;> rfl
theorem Rep.lst (R : Rep K F M G H) {xs : List D} (e : M a = some (.lst xs)) : ∃ vs, H a = some (.lst vs) ∧ Rvs K F vs xs := by
  obtain ⟨_, _, z⟩ := R.mu a _ e
  obtain ⟨u, hu⟩ := z.some
  rw [hu] at z
  cases u <;> try exact z.elim
  exact ⟨_, hu, z⟩
theorem Rep.dct (R : Rep K F M G H) {ks : List (Key × D)} (e : M a = some (.dct ks)) : ∃ vs, H a = some (.dK vs) ∧ Rks K F vs ks := by
  obtain ⟨_, _, z⟩ := R.mu a _ e
  obtain ⟨u, hu⟩ := z.some
  rw [hu] at z
  cases u <;> try exact z.elim
  exact ⟨_, hu, z⟩
theorem Rep.ins (R : Rep K F M G H) {C : Addr} {gs : List (Str × D)} (e : M a = some (.ins C gs)) : ∃ dx fs, H a = some (.ins C dx fs) ∧ Rfs K F fs gs ∧ (gs.map (·.1)).Nodup := by
  obtain ⟨_, _, z⟩ := R.mu a _ e
  obtain ⟨u, hu⟩ := z.some
  rw [hu] at z
  cases u <;> try exact z.elim
  obtain ⟨rfl, z, n⟩ := z
  exact ⟨_, _, hu, z, n⟩
end
end
/-! ### slots -/
abbrev SD := List (Option D)
inductive Rs (K : Frg) (F : Hp) : L2.St → SD → Prop
  | nil : Rs K F [] []
  | cons {v : Option V} {vs : L2.St} {d : Option D} {ds : SD} : (∀ e, d = some e → ∃ u, v = some u ∧ Rv K F u e) → Rs K F vs ds → Rs K F (v :: vs) (d :: ds)
section
variable {K : Frg} {F F' : Hp}
theorem Rs.mono (k : L2.Same F F') : ∀ {σ : L2.St} {τ : SD}, Rs K F σ τ → Rs K F' σ τ
  | _, _, .nil => .nil
  | _, _, .cons x y => .cons (fun e h => let ⟨u, a, b⟩ := x e h; ⟨u, a, b.mono k⟩) (Rs.mono k y)
theorem Rs.at : ∀ {σ : L2.St} {τ : SD} {i : Nat} {d : D}, Rs K F σ τ → τ[i]? = some (some d) → ∃ v, σ[i]? = some (some v) ∧ Rv K F v d
  | _, _, i, _, .nil, h => by simp at h
  | _, _, 0, _, .cons x _, h => by
    simp at h
    obtain ⟨u, e, r⟩ := x _ h
    exact ⟨u, by simpa using e, r⟩
  | _, _, i + 1, _, .cons _ y, h => by
    simp at h
    obtain ⟨v, e, r⟩ := Rs.at y h
    exact ⟨v, by simpa using e, r⟩
theorem Rs.set {v : V} {d : D} (r : Rv K F v d) : ∀ {σ : L2.St} {τ : SD} (i : Nat), Rs K F σ τ → Rs K F (σ.set i (some v)) (τ.set i (some d))
  | _, _, _, .nil => .nil
  | _, _, 0, .cons _ y => .cons (fun e h => by cases h; exact ⟨v, rfl, r⟩) y
  | _, _, i + 1, .cons x y => .cons x (Rs.set r i y)
theorem Rs.none {v : Option V} : ∀ {σ : L2.St} {τ : SD} (i : Nat), Rs K F σ τ → Rs K F (σ.set i v) (τ.set i none)
  | _, _, _, .nil => .nil
  | _, _, 0, .cons _ y => .cons (fun e h => nomatch h) y
  | _, _, i + 1, .cons x y => .cons x (Rs.none i y)
theorem Rs.forget : ∀ {σ : L2.St} {τ : SD} (i : Nat), Rs K F σ τ → Rs K F σ (τ.set i Option.none)
  | _, _, _, .nil => .nil
  | _, _, 0, .cons _ y => .cons (fun e h => nomatch h) y
  | _, _, i + 1, .cons x y => .cons x (Rs.forget i y)
theorem Rs.start {N : List Str} {vs : List V} {ds : List D} (h : Rvs K F vs ds) : Rs K F (start N vs) (ds.map some ++ List.replicate (N.length - ds.length) Option.none) := by
  have nones : ∀ n : Nat, Rs K F (List.replicate n Option.none) (List.replicate n Option.none) := by
    intro n
    induction n with
    | zero => exact .nil
    | succ n ih => exact .cons (fun e h => nomatch h) ih
  have key : ∀ {vs : List V} {ds : List D} (n : Nat), Rvs K F vs ds → Rs K F (vs.map Option.some ++ List.replicate n Option.none) (ds.map Option.some ++ List.replicate n Option.none) := by
    intro vs ds n h
    induction vs generalizing ds with
    | nil => cases h; exact nones n
    | cons v vs ih =>
      cases h with
      | cons x y => exact .cons (fun e h => by cases h; exact ⟨v, rfl, x⟩) (ih y)
  unfold L2.start
  rw [h.len]
  exact key _ h
end
def wipeD (τ : SD) : List Nat → SD
  | [] => τ
  | i :: is => (wipeD τ is).set i none
theorem Rs.wipe {K : Frg} {F : Hp} {σ : L2.St} {τ : SD} (h : Rs K F σ τ) : ∀ vs : List Nat, Rs K F (L2.wipe σ vs) (wipeD τ vs)
  | [] => h
  | i :: is => Rs.none i (Rs.wipe h is)
end RS

set_option maxRecDepth 100000
set_option maxHeartbeats 4000000
namespace RS
open PySem PySem.Spec PyProof.Rows L2 NdefX He PySem.W
variable [Tbls]
/-! ### readings over data -/
abbrev XD := Addr → List (Str × D) → MS → Prop
abbrev TD := SD → MS → (D → MS → Prop) → XD → Prop
abbrev TTD := SD → MS → (Bool → MS → Prop) → XD → Prop
abbrev TAD := SD → MS → (List D → MS → Prop) → XD → Prop
structure EndsD where
  nx : SD → MS → Prop
  rt : D → MS → Prop
  bk : SD → MS → Prop := fun _ _ => False
  ct : SD → MS → Prop := fun _ _ => False
  ex : SD → XD := fun _ _ _ _ => False
abbrev TSD := EndsD → SD → MS → Prop
abbrev XF : XD := fun _ _ _ => False
/-- an exception's fields -/
def Rx (K : Frg) (F : Hp) (a : Option Addr) (fs : List (Str × D)) : Prop := match a with
  | none => fs = []
  | some d => ∃ gs, F d = some (.xd gs) ∧ Rfs K F gs fs
theorem Rx.mono {K : Frg} {F F' : Hp} (k : L2.Same F F') {a : Option Addr} {fs : List (Str × D)} (h : Rx K F a fs) : Rx K F' a fs := by
  cases a with
  | none => exact h
  | some d => obtain ⟨gs, e, r⟩ := h; exact ⟨gs, k _ _ e, r.mono k⟩
/-! ### wishes -/
def KQ (K : Frg) (F G : Hp) (R : D → MS → Prop) (Q : VK) : Prop := ∀ d M' F' H' v, R d M' → L2.Same F F' → Rep K F' M' G H' → Rv K F' v d → Q v H'
def KB (K : Frg) (F G : Hp) (R : Bool → MS → Prop) (Q : Bool → Hp → Prop) : Prop := ∀ b M' F' H', R b M' → L2.Same F F' → Rep K F' M' G H' → Q b H'
def KA (K : Frg) (F G : Hp) (R : List D → MS → Prop) (Q : List V → Hp → Prop) : Prop := ∀ ds M' F' H' vs, R ds M' → L2.Same F F' → Rep K F' M' G H' → Rvs K F' vs ds → Q vs H'
def KN (K : Frg) (F G : Hp) (n : SD → MS → Prop) (q : L2.St → Hp → Prop) : Prop := ∀ σ' τ' M' F' H', n τ' M' → L2.Same F F' → Rep K F' M' G H' → Rs K F' σ' τ' → q σ' H'
def KX (K : Frg) (F G : Hp) (W : XD) (E : XK) : Prop := ∀ C fs M' F' H' a, W C fs M' → L2.Same F F' → Rep K F' M' G H' → Rx K F' a fs → E (.ref C) a H'
def KE (K : Frg) (F G : Hp) (x : SD → XD) (E : L2.St → XK) : Prop := ∀ σ' τ' F', L2.Same F F' → Rs K F' σ' τ' → KX K F' G (x τ') (E σ')
section
variable {K : Frg} {F F' G : Hp}
theorem KQ.le {R : D → MS → Prop} {Q : VK} (k : L2.Same F F') (h : KQ K F G R Q) : KQ K F' G R Q := fun d M' F1 H' v r s => h d M' F1 H' v r (k.trans s)
theorem KB.le {R : Bool → MS → Prop} {Q : Bool → Hp → Prop} (k : L2.Same F F') (h : KB K F G R Q) : KB K F' G R Q := fun d M' F1 H' r s => h d M' F1 H' r (k.trans s)
theorem KA.le {R : List D → MS → Prop} {Q : List V → Hp → Prop} (k : L2.Same F F') (h : KA K F G R Q) : KA K F' G R Q := fun d M' F1 H' v r s => h d M' F1 H' v r (k.trans s)
theorem KN.le {n : SD → MS → Prop} {q : L2.St → Hp → Prop} (k : L2.Same F F') (h : KN K F G n q) : KN K F' G n q := fun σ' τ' M' F1 H' r s => h σ' τ' M' F1 H' r (k.trans s)
theorem KX.le {W : XD} {E : XK} (k : L2.Same F F') (h : KX K F G W E) : KX K F' G W E := fun C fs M' F1 H' a r s => h C fs M' F1 H' a r (k.trans s)
theorem KE.le {x : SD → XD} {E : L2.St → XK} (k : L2.Same F F') (h : KE K F G x E) : KE K F' G x E := fun σ' τ' F1 s => h σ' τ' F1 (k.trans s)
theorem KE.at {x : SD → XD} {E : L2.St → XK} (h : KE K F G x E) {σ : L2.St} {τ : SD} (r : Rs K F σ τ) : KX K F G (x τ) (E σ) := h σ τ F (L2.Same.refl F) r
theorem KX.none {E : XK} : KX K F G XF E := fun _ _ _ _ _ _ h => h.elim
end
/-- all wishes of a statement -/
structure LkS (K : Frg) (F G : Hp) (N : EndsD) (D : Ends) (E : L2.St → XK) : Prop where
  nx : KN K F G N.nx D.nx
  rt : KQ K F G N.rt D.rt
  bk : KN K F G N.bk D.bk
  ct : KN K F G N.ct D.ct
  ex : KE K F G N.ex E
theorem LkS.le {K : Frg} {F F' G : Hp} {N : EndsD} {D : Ends} {E : L2.St → XK} (k : L2.Same F F') (h : LkS K F G N D E) : LkS K F' G N D E := ⟨h.nx.le k, h.rt.le k, h.bk.le k, h.ct.le k, h.ex.le k⟩
/-! ### the judgements -/
def up (K : Frg) (E : L2.St → XK) (T : TD) : TE := fun σ H Q => ∃ F M G τ R W, Rs K F σ τ ∧ Rep K F M G H ∧ T τ M R W ∧ KQ K F G R Q ∧ KX K F G W (E σ)
def upT (K : Frg) (E : L2.St → XK) (T : TTD) : TT := fun σ H Q => ∃ F M G τ R W, Rs K F σ τ ∧ Rep K F M G H ∧ T τ M R W ∧ KB K F G R Q ∧ KX K F G W (E σ)
def upA (K : Frg) (E : L2.St → XK) (T : TAD) : TA := fun σ H Q => ∃ F M G τ R W, Rs K F σ τ ∧ Rep K F M G H ∧ T τ M R W ∧ KA K F G R Q ∧ KX K F G W (E σ)
def upS (K : Frg) (E : L2.St → XK) (T : TSD) : TS := fun D σ H => ∃ F M G τ N, Rs K F σ τ ∧ Rep K F M G H ∧ T N τ M ∧ LkS K F G N D E
structure DE (X : Cx) (E : L2.St → XK) (e : Expr) (T : TD) : Prop where
  p : PE X e (up X.K E T)
structure DT (X : Cx) (E : L2.St → XK) (e : Expr) (T : TTD) : Prop where
  p : PT X e (upT X.K E T)
/-- a test whatever its whole is -/
structure DW (X : Cx) (E : L2.St → XK) (e : Expr) (T : TTD) : Prop where
  p : PW X e (upT X.K E T)
structure DAs (X : Cx) (E : L2.St → XK) (es : List Expr) (T : TAD) : Prop where
  p : PA X es (upA X.K E T)
structure DS (X : Cx) (E : L2.St → XK) (st : Stmt) (T : TSD) : Prop where
  p : PS X st (upS X.K E T)
structure DSs (X : Cx) (E : L2.St → XK) (st : List Stmt) (T : TSD) : Prop where
  p : PSs X st (upS X.K E T)
theorem _root_.L2.PE.imp {X : Cx} {e : Expr} {t t' : TE} (h : PE X e t) (i : ∀ σ H Q, t' σ H Q → t σ H Q) : PE X e t' := ⟨fun pins s σ H Q I q => h.run pins s σ H Q I (i _ _ _ q)⟩
theorem _root_.L2.PT.imp {X : Cx} {e : Expr} {t t' : TT} (h : PT X e t) (i : ∀ σ H Q, t' σ H Q → t σ H Q) : PT X e t' := ⟨fun pins s σ H Q I q => h.run pins s σ H Q I (i _ _ _ q)⟩
theorem _root_.L2.PW.imp {X : Cx} {e : Expr} {t t' : TT} (h : PW X e t) (i : ∀ σ H Q, t' σ H Q → t σ H Q) : PW X e t' := ⟨fun wh pins s σ H Q I q => h.run wh pins s σ H Q I (i _ _ _ q)⟩
theorem _root_.L2.PA.imp {X : Cx} {e : List Expr} {t t' : TA} (h : PA X e t) (i : ∀ σ H Q, t' σ H Q → t σ H Q) : PA X e t' := ⟨fun pos pins s σ H Q I q => h.run pos pins s σ H Q I (i _ _ _ q)⟩
theorem _root_.L2.PS.imp {X : Cx} {e : Stmt} {t t' : TS} (h : PS X e t) (i : ∀ D σ H, t' D σ H → t D σ H) : PS X e t' := ⟨fun pins s σ H D I q => h.run pins s σ H D I (i _ _ _ q)⟩
theorem _root_.L2.PSs.imp {X : Cx} {e : List Stmt} {t t' : TS} (h : PSs X e t) (i : ∀ D σ H, t' D σ H → t D σ H) : PSs X e t' := ⟨fun pins s σ H D I q => h.run pins s σ H D I (i _ _ _ q)⟩
/-! ### names and constants -/
section
variable {X : Cx} {E : L2.St → XK} {pos : Pos}
def dVar (i : Nat) : TD := fun τ M R _ => match τ[i]? with
  | some (some d) => R d M
  | _ => False
theorem de_v (i : Nat) {x : Str} (hN : X.N[i]? = some x := by rfl) (hv : Vis X.env.scope x := by first | exact Or.inl rfl | exact Or.inr (Or.inl rfl) | exact Or.inr (Or.inr rfl)) (hd : (x == ("__debug__" : Str)) = false := by decide)
    (hcd : (x == ("__classdict__" : Str)) = false := by decide) : DE X E (.Name x pos) (dVar i) := by
  refine ⟨(pe_var hN hv hd hcd).imp fun σ H Q ⟨F, M, G, τ, R, W, rs, rep, h, k, kx⟩ => ?_⟩
  unfold dVar at h
  split at h
  · rename_i d e
    obtain ⟨v, ev, r⟩ := rs.at e
    exact ⟨v, ev, k d M F H v h (L2.Same.refl F) rep r⟩
  · exact h.elim
/-- a name whose object is frozen -/
def dVarF (i : Nat) : TD := fun τ M R _ => match τ[i]? with
  | some (some (.ref a)) => (match M a with
    | some m => R m.d (delM M a)
    | none => R (.ref a) M)
  | some (some d) => R d M
  | _ => False
theorem de_f (i : Nat) {x : Str} (hN : X.N[i]? = some x := by rfl) (hv : Vis X.env.scope x := by first | exact Or.inl rfl | exact Or.inr (Or.inl rfl) | exact Or.inr (Or.inr rfl)) (hd : (x == ("__debug__" : Str)) = false := by decide)
    (hcd : (x == ("__classdict__" : Str)) = false := by decide) : DE X E (.Name x pos) (dVarF i) := by
  refine ⟨(pe_var hN hv hd hcd).imp fun σ H Q ⟨F, M, G, τ, R, W, rs, rep, h, k, kx⟩ => ?_⟩
  unfold dVarF at h
  split at h
  · rename_i a e
    obtain ⟨v, ev, r⟩ := rs.at e
    split at h
    · rename_i m em
      cases r
      obtain ⟨F', s, rep', r'⟩ := rep.frz em
      exact ⟨_, ev, k _ _ F' H _ h s rep' r'⟩
    · exact ⟨v, ev, k _ M F H v h (L2.Same.refl F) rep r⟩
  · rename_i d _ e
    obtain ⟨v, ev, r⟩ := rs.at e
    exact ⟨v, ev, k d M F H v h (L2.Same.refl F) rep r⟩
  · exact h.elim
def dC (d : D) : TD := fun _ M R _ => R d M
theorem de_c {e : Expr} {v : V} {d : D} (h : PE X e (tC v)) (r : ∀ F, Rv X.K F v d) : DE X E e (dC d) :=
  ⟨h.imp fun σ H Q ⟨F, M, G, τ, R, W, rs, rep, h, k, kx⟩ => k d M F H v h (L2.Same.refl F) rep (r F)⟩
theorem de_int {i j} : DE X E (.Constant (.int i) j pos) (dC (.int i)) := de_c pe_int fun _ => .int i
theorem de_bl {i j} : DE X E (.Constant (.bool i) j pos) (dC (.bl i)) := de_c pe_bl fun _ => .bl i
theorem de_non {j} : DE X E (.Constant .none j pos) (dC .non) := de_c pe_non fun _ => .non
theorem de_str {i j} : DE X E (.Constant (.str i) j pos) (dC (.str i)) := de_c pe_str fun _ => .str i
/-- a class, a def of the module -/
theorem de_cls {x : Str} {C : Addr} (hm : X.mg x = some (.ref C)) (hg : Gl X x := by rfl) (hd : (x == ("__debug__" : Str)) = false := by decide) : DE X E (.Name x pos) (dC (.ref C)) := de_c (pe_glob (v := .ref C) hg hm rfl hd) fun _ => .ref C
/-- a constant of the module -/
theorem de_con {x : Str} {v : V} {u : Value} {d : D} (hm : X.mg x = some u) (r : RelV v u) (rd : ∀ F, Rv X.K F v d) (hg : Gl X x := by rfl) (hd : (x == ("__debug__" : Str)) = false := by decide) : DE X E (.Name x pos) (dC d) := de_c (pe_glob hg hm r hd) rd
/-- int, str, .. as a value -/
theorem de_ty {x : Str} {n : BT} (hm : X.mg x = none) (hv : bootBuiltins x = some (.type n.name)) (hg : Gl X x := by rfl) (hn : x ≠ "__name__" := by decide) (hd : (x == ("__debug__" : Str)) = false := by decide) : DE X E (.Name x pos) (dC (.ty n)) :=
  de_c (pe_bltn (v := .ty n.name) hg hm hv rfl hn hd) fun _ => .ty n
/-! ### arguments -/
def dNil : TAD := fun _ M R _ => R [] M
def dCons (T : TD) (U : TAD) : TAD := fun τ M R W => T τ M (fun d M1 => U τ M1 (fun ds M2 => R (d :: ds) M2) W) W
theorem da_nil : DAs X E [] dNil := ⟨(pa_nil).imp fun σ H Q ⟨F, M, G, τ, R, W, rs, rep, h, k, kx⟩ => k [] M F H [] h (L2.Same.refl F) rep .nil⟩
theorem da_cons {e : Expr} {es : List Expr} {T : TD} {U : TAD} (h1 : DE X E e T) (h2 : DAs X E es U) (hs : starEach (e :: es) X.env = (false, eval e X.env) :: starEach es X.env := by rfl) : DAs X E (e :: es) (dCons T U) := by
  refine ⟨(pa_cons h1.p h2.p hs).imp fun σ H Q ⟨F, M, G, τ, R, W, rs, rep, h, k, kx⟩ => ?_⟩
  refine ⟨F, M, G, τ, _, W, rs, rep, h, fun d M1 F1 H1 v q s1 rep1 r1 => ?_, kx⟩
  refine ⟨F1, M1, G, τ, _, W, rs.mono s1, rep1, q, fun ds M2 F2 H2 vs q2 s2 rep2 r2 => ?_, kx.le s1⟩
  exact k _ M2 F2 H2 _ q2 (s1.trans s2) rep2 (.cons (r1.mono s2) r2)
/-! ### operators -/
/-- an operator's answer over data -/
def RO (K : Frg) (r : R2) (f : D → D → MS → (D → MS → Prop) → XD → Prop) : Prop := ∀ F M G H x y v u R W Q, Rv K F v x → Rv K F u y → Rep K F M G H → f x y M R W → KQ K F G R Q → r v u H Q
def dBin (f : D → D → MS → (D → MS → Prop) → XD → Prop) (Ta Tb : TD) : TD := fun τ M R W => Ta τ M (fun x M1 => Tb τ M1 (fun y M2 => f x y M2 R W) W) W
theorem up_bin {a b : Expr} {Ta Tb : TD} {r : R2} {f : D → D → MS → (D → MS → Prop) → XD → Prop} (hf : RO X.K r f) {σ : L2.St} {H : Hp} {Q : VK} (h : up X.K E (dBin f Ta Tb) σ H Q) : tOp r (up X.K E Ta) (up X.K E Tb) σ H Q := by
  obtain ⟨F, M, G, τ, R, W, rs, rep, h, k, kx⟩ := h
  refine ⟨F, M, G, τ, _, W, rs, rep, h, fun d M1 F1 H1 v q s1 rep1 r1 => ?_, kx⟩
  refine ⟨F1, M1, G, τ, _, W, rs.mono s1, rep1, q, fun e M2 F2 H2 u q2 s2 rep2 r2 => ?_, kx.le s1⟩
  exact hf F2 M2 G H2 d e v u R W Q (r1.mono s2) r2 rep2 q2 (k.le (s1.trans s2))
theorem de_op {a b : Expr} {Ta Tb : TD} {op : Operator} {r : R2} {f : D → D → MS → (D → MS → Prop) → XD → Prop} (ho : OpR X (binaryOp op) r) (hf : RO X.K r f) (ha : DE X E a Ta) (hb : DE X E b Tb) : DE X E (.BinOp a op b pos) (dBin f Ta Tb) :=
  ⟨(pe_op ho ha.p hb.p).imp fun σ H Q h => up_bin (a := a) (b := b) hf h⟩
theorem de_cmp {a b : Expr} {Ta Tb : TD} {op : CmpOp} {r : R2} {f : D → D → MS → (D → MS → Prop) → XD → Prop} (ho : OpR X (compareOp op) r) (hf : RO X.K r f) (ha : DE X E a Ta) (hb : DE X E b Tb) (hm : behindInMarks op b = false) : DE X E (.Compare a [op] [b] pos) (dBin f Ta Tb) :=
  ⟨(pe_cmpR ho ha.p hb.p hm).imp fun σ H Q h => up_bin (a := a) (b := b) hf h⟩
/-- a value that is a bool, as a test -/
def dTB (T : TD) : TTD := fun τ M R W => T τ M (fun d M1 => match d with
  | .bl b => R b M1
  | _ => False) W
theorem dt_cmp {a b : Expr} {Ta Tb : TD} {op : CmpOp} {r : R2} {f : D → D → MS → (D → MS → Prop) → XD → Prop} (ho : OpR X (compareOp op) r) (hf : RO X.K r f) (ha : DE X E a Ta) (hb : DE X E b Tb) (hm : behindInMarks op b = false) : DT X E (.Compare a [op] [b] pos) (dTB (dBin f Ta Tb)) := by
  refine ⟨(pt_cmpR ho ha.p hb.p hm).imp fun σ H Q h => ?_⟩
  obtain ⟨F, M, G, τ, R, W, rs, rep, h, k, kx⟩ := h
  refine up_bin (a := a) (b := b) hf ⟨F, M, G, τ, _, W, rs, rep, h, fun d M1 F1 H1 v q s1 rep1 r1 => ?_, kx⟩
  cases d <;> try exact q.elim
  cases r1
  exact ⟨_, rfl, k _ M1 F1 H1 q s1 rep1⟩
/-- any expression that is a bool, as a test -/
theorem dt_val {e : Expr} {T : TD} (h : DE X E e T) (he : ∀ whole, isTrue e X.env whole = (do let v ← whole; standAt e.pos; holding [v] (truthy v)) := by intro _; rfl) : DT X E e (dTB T) := by
  refine ⟨(pt_val h.p he).imp fun σ H Q h => ?_⟩
  obtain ⟨F, M, G, τ, R, W, rs, rep, h, k, kx⟩ := h
  refine ⟨F, M, G, τ, _, W, rs, rep, h, fun d M1 F1 H1 v q s1 rep1 r1 => ?_, kx⟩
  cases d <;> try exact q.elim
  cases r1
  exact ⟨_, rfl, k _ M1 F1 H1 q s1 rep1⟩
/-- the truth of data -/
def dTru (M : MS) : D → (Bool → Prop) → Prop
  | .non, q => q false
  | .bl b, q => q b
  | .int i, q => q (i != 0)
  | .str x, q => x.length ≤ sizeLine ∧ q ((x.length : Int) != 0)
  | .tup xs, q => q (!xs.isEmpty)
  | .lst xs, q => q (!xs.isEmpty)
  | .dct ks, q => q (!ks.isEmpty)
  | .ref a, q => match M a with
    | some (.lst xs) => q (!xs.isEmpty)
    | some (.dct ks) => q (!ks.isEmpty)
    | _ => False
  | _, _ => False
def dTr (T : TD) : TTD := fun τ M R W => T τ M (fun d M1 => dTru M1 d (fun b => R b M1)) W
end
/-! ### tests -/
structure dIte (b : Bool) (p q : Prop) : Prop where
  t : b = true → p
  f : b = false → q
theorem dIte_t {p q : Prop} (h : p) : dIte true p q := ⟨fun _ => h, fun z => nomatch z⟩
theorem dIte_f {p q : Prop} (h : q) : dIte false p q := ⟨fun z => (nomatch z), fun _ => h⟩
theorem dIte_no {b : Bool} {p q : Prop} (h : b = true → False) (k : q) : dIte b p q := ⟨fun z => (h z).elim, fun _ => k⟩
theorem dIte_yes {b : Bool} {p q : Prop} (h : b = true) (k : p) : dIte b p q := ⟨fun _ => k, fun z => (by rw [h] at z; cases z)⟩
theorem dIte_d {c p q : Prop} [Decidable c] (h1 : c → p) (h2 : ¬ c → q) : dIte (decide c) p q := ⟨fun z => h1 (of_decide_eq_true z), fun z => h2 (of_decide_eq_false z)⟩
theorem dIte_nd {c p q : Prop} [Decidable c] (h1 : ¬ c → p) (h2 : c → q) : dIte (!decide c) p q := ⟨fun z => h1 (by simpa using z), fun z => h2 (by simpa using z)⟩
theorem dIte_T {c p q : Prop} [Decidable c] (hc : c) (h : p) : dIte (decide c) p q := ⟨fun _ => h, fun z => absurd hc (of_decide_eq_false z)⟩
theorem dIte_F {c p q : Prop} [Decidable c] (hc : ¬ c) (h : q) : dIte (decide c) p q := ⟨fun z => absurd (of_decide_eq_true z) hc, fun _ => h⟩
theorem dIte_nT {c p q : Prop} [Decidable c] (hc : ¬ c) (h : p) : dIte (!decide c) p q := ⟨fun _ => h, fun z => absurd (by simpa using z) hc⟩
theorem dIte_nF {c p q : Prop} [Decidable c] (hc : c) (h : q) : dIte (!decide c) p q := ⟨fun z => absurd hc (by simpa using z), fun _ => h⟩
theorem dIte_at {b c : Bool} {p q : Prop} (e : b = c) (h : if c then p else q) : dIte b p q := by
  subst e
  cases b with
  | true => exact dIte_t (by simpa using h)
  | false => exact dIte_f (by simpa using h)
theorem dIte.ite {b : Bool} {p q : Prop} (h : dIte b p q) : if b = true then p else q := by
  cases b with
  | true => exact iteT (h.1 rfl)
  | false => exact iteF (h.2 rfl)
section
variable {X : Cx} {E : L2.St → XK} {pos : Pos} {a b c : Expr} {rest : List Expr} {A B : TTD} {Ta Tb : TD}
def dAnd (A B : TTD) : TTD := fun τ M R W => A τ M (fun b M1 => dIte b (B τ M1 R W) (R false M1)) W
def dOr (A B : TTD) : TTD := fun τ M R W => A τ M (fun b M1 => dIte b (R true M1) (B τ M1 R W)) W
def dNot (A : TTD) : TTD := fun τ M R W => A τ M (fun b M1 => R (!b) M1) W
theorem DW.t (h : DW X E a A) : DT X E a A := ⟨h.p.pt⟩
theorem dw_and1 (h : DT X E a A) : DW X E (.BoolOp .And [a] pos) A := ⟨pw_and1 h.p⟩
theorem dw_or1 (h : DT X E a A) : DW X E (.BoolOp .Or [a] pos) A := ⟨pw_or1 h.p⟩
theorem dw_and (ha : DT X E a A) (hb : DW X E (.BoolOp .And (b :: rest) pos) B) : DW X E (.BoolOp .And (a :: b :: rest) pos) (dAnd A B) := by
  refine ⟨(pw_and ha.p hb.p).imp fun σ H Q ⟨F, M, G, τ, R, W, rs, rep, h, k, kx⟩ => ?_⟩
  refine ⟨F, M, G, τ, _, W, rs, rep, h, fun d M1 F1 H1 q s1 rep1 => ?_, kx⟩
  cases d with
  | true => exact iteT ⟨F1, M1, G, τ, R, W, rs.mono s1, rep1, q.1 rfl, k.le s1, kx.le s1⟩
  | false => exact iteF (k false M1 F1 H1 (q.2 rfl) s1 rep1)
theorem dw_or (ha : DT X E a A) (hb : DW X E (.BoolOp .Or (b :: rest) pos) B) : DW X E (.BoolOp .Or (a :: b :: rest) pos) (dOr A B) := by
  refine ⟨(pw_or ha.p hb.p).imp fun σ H Q ⟨F, M, G, τ, R, W, rs, rep, h, k, kx⟩ => ?_⟩
  refine ⟨F, M, G, τ, _, W, rs, rep, h, fun d M1 F1 H1 q s1 rep1 => ?_, kx⟩
  cases d with
  | true => exact iteT (k true M1 F1 H1 (q.1 rfl) s1 rep1)
  | false => exact iteF ⟨F1, M1, G, τ, R, W, rs.mono s1, rep1, q.2 rfl, k.le s1, kx.le s1⟩
theorem dt_not (ha : DT X E a A) : DT X E (.UnaryOp .Not a pos) (dNot A) := by
  refine ⟨(pt_not ha.p).imp fun σ H Q ⟨F, M, G, τ, R, W, rs, rep, h, k, kx⟩ => ?_⟩
  exact ⟨F, M, G, τ, _, W, rs, rep, h, fun d M1 F1 H1 q s1 rep1 => k (!d) M1 F1 H1 q s1 rep1, kx⟩
theorem dt_tru (ha : DE X E a Ta) (he : ∀ whole, isTrue a X.env whole = (do let v ← whole; standAt a.pos; holding [v] (truthy v)) := by intro _; rfl) : DT X E a (dTr Ta) := by
  refine ⟨(pt_truth ha.p he).imp fun σ H Q ⟨F, M, G, τ, R, W, rs, rep, h, k, kx⟩ => ?_⟩
  refine ⟨F, M, G, τ, _, W, rs, rep, h, fun d M1 F1 H1 v q s1 rep1 r1 => ?_, kx⟩
  unfold dTru at q
  cases r1 with
  | non => exact ⟨_, rfl, k _ M1 F1 H1 q s1 rep1⟩
  | bl b => exact ⟨_, rfl, k _ M1 F1 H1 q s1 rep1⟩
  | int i => exact ⟨_, rfl, k _ M1 F1 H1 q s1 rep1⟩
  | str x => exact ⟨_, ⟨q.1, rfl⟩, k _ M1 F1 H1 q.2 s1 rep1⟩
  | ty n => exact q.elim
  | tup e r =>
    refine ⟨_, .inr (.inl ⟨_, Same.sqT rep1.fz e, rfl⟩), ?_⟩
    rw [r.empty]
    exact k _ M1 F1 H1 q s1 rep1
  | lst e r =>
    refine ⟨_, .inl ⟨_, SqL.of (rep1.fz _ _ e), rfl⟩, ?_⟩
    rw [r.empty]
    exact k _ M1 F1 H1 q s1 rep1
  | dct e r =>
    refine ⟨_, .inr (.inr ⟨_, rep1.fz _ _ e, rfl⟩), ?_⟩
    rw [r.empty]
    exact k _ M1 F1 H1 q s1 rep1
  | ins e r => exact q.elim
  | exc0 a => exact q.elim
  | exc1 e r => exact q.elim
  | scr e => exact q.elim
  | ref a =>
    dsimp only at q
    split at q
    · rename_i xs em
      obtain ⟨vs, hv, r⟩ := rep1.lst em
      refine ⟨_, .inl ⟨_, SqL.of hv, rfl⟩, ?_⟩
      rw [r.empty]
      exact k _ M1 F1 H1 q s1 rep1
    · rename_i ks em
      obtain ⟨vs, hv, r⟩ := rep1.dct em
      refine ⟨_, .inr (.inr ⟨_, hv, rfl⟩), ?_⟩
      rw [r.empty]
      exact k _ M1 F1 H1 q s1 rep1
    · exact q.elim
end
end RS

set_option maxRecDepth 100000
set_option maxHeartbeats 4000000
namespace RS
open PySem PySem.Spec PyProof.Rows L2 NdefX He PySem.W
/-! ### plain data and its == -/
mutual
def D.py : D → PyData
  | .non => .none
  | .bl b => .bool b
  | .int i => .int i
  | .str x => .str x
  | .tup xs => .tuple (D.pys xs)
  | .lst xs => .list (D.pys xs)
  | .ty _ => .none
  | .ref _ => .none
  | .dct _ => .none
  | .ins _ _ => .none
  | .exc _ _ _ _ => .none
  | .scr _ => .none
def D.pys : List D → List PyData
  | [] => []
  | x :: xs => D.py x :: D.pys xs
end
def PD : Nat → D → Prop
  | _, .non => True
  | _, .bl _ => True
  | _, .int _ => True
  | _, .str _ => True
  | n + 1, .tup xs => ∀ x ∈ xs, PD n x
  | n + 1, .lst xs => ∀ x ∈ xs, PD n x
  | _, _ => False
theorem D.pys_map : ∀ xs : List D, D.pys xs = xs.map D.py
  | [] => rfl
  | x :: xs => by rw [D.pys, D.pys_map xs]; rfl
section
variable {K : Frg} {F H : Hp}
theorem rv_dp (s : L2.Same F H) : ∀ (n : Nat) {v : V} {d : D}, PD n d → Rv K F v d → Dp K H v d.py ∧ d.py.plain = true ∧ d.py.depth ≤ n := by
  intro n
  induction n with
  | zero =>
    intro v d p r
    cases r <;> first
      | exact p.elim
      | exact ⟨.non, rfl, Nat.le_refl _⟩
      | exact ⟨.bl _, rfl, Nat.le_refl _⟩
      | exact ⟨.int _, rfl, Nat.le_refl _⟩
      | exact ⟨.str _, rfl, Nat.le_refl _⟩
  | succ n ih =>
    have all : ∀ {vs : List V} {ds : List D}, (∀ x ∈ ds, PD n x) → Rvs K F vs ds → DpAll K H vs (D.pys ds) ∧ PyData.plainAll (D.pys ds) = true ∧ PyData.depthAll (D.pys ds) ≤ n := by
      intro vs ds
      induction ds generalizing vs with
      | nil => intro _ r; cases r; exact ⟨.nil, rfl, Nat.zero_le _⟩
      | cons d ds ihd =>
        intro p r
        cases r with
        | cons x y =>
          obtain ⟨a1, a2, a3⟩ := ih (p d (List.mem_cons_self ..)) x
          obtain ⟨b1, b2, b3⟩ := ihd (fun x hx => p x (List.mem_cons_of_mem _ hx)) y
          refine ⟨.cons a1 b1, ?_, ?_⟩
          · rw [D.pys, PyData.plainAll, a2, b2]; rfl
          · rw [D.pys, PyData.depthAll]; exact Nat.max_le.mpr ⟨a3, b3⟩
    intro v d p r
    cases r with
    | non => exact ⟨.non, rfl, Nat.zero_le _⟩
    | bl b => exact ⟨.bl _, rfl, Nat.zero_le _⟩
    | int i => exact ⟨.int _, rfl, Nat.zero_le _⟩
    | str x => exact ⟨.str _, rfl, Nat.zero_le _⟩
    | ty => exact p.elim
    | ref => exact p.elim
    | dct _ _ => exact p.elim
    | ins _ _ _ => exact p.elim
    | exc0 _ => exact p.elim
    | exc1 _ _ => exact p.elim
    | scr _ => exact p.elim
    | tup e r =>
      obtain ⟨b1, b2, b3⟩ := all p r
      refine ⟨.tup (Same.sqT s e) b1, ?_, ?_⟩
      · rw [D.py, PyData.plain]; exact b2
      · rw [D.py, PyData.depth]; exact Nat.succ_le_succ b3
    | lst e r =>
      obtain ⟨b1, b2, b3⟩ := all p r
      refine ⟨.lst (SqL.of (s _ _ e)) b1, ?_, ?_⟩
      · rw [D.py, PyData.plain]; exact b2
      · rw [D.py, PyData.depth]; exact Nat.succ_le_succ b3
end
/-- == of data -/
def dEqB : D → D → Bool
  | .int i, .int j => decide (i = j)
  | .str i, .str j => decide (i = j)
  | .bl i, .bl j => decide (i = j)
  | .non, .non => true
  | x, y => PyData.eqv x.py y.py
theorem dEqB_eq (x y : D) : dEqB x y = PyData.eqv x.py y.py := by
  unfold dEqB
  split
  · simp only [D.py]; exact (Datum.eqv (α := Int) _ _).symm
  · simp only [D.py]; exact (Datum.eqv (α := Str) _ _).symm
  · simp only [D.py]; exact (Datum.eqv (α := Bool) _ _).symm
  · simp only [D.py]; exact (Datum.eqv (α := Unit) () ()).symm
  · rfl
/-- data with a Lean type -/
class Dt (α : Type) [DecidableEq α] extends Datum α where
  d : α → D
  dpy : ∀ a, (d a).py = toDatum.toD a
  pd : ∀ a, PD toDatum.depth (d a)
theorem PD.up : ∀ {n m : Nat} {d : D}, n ≤ m → PD n d → PD m d := by
  intro n
  induction n with
  | zero =>
    intro m d _ p
    cases d <;> first | exact p.elim | (cases m <;> trivial)
  | succ n ih =>
    intro m d h p
    obtain ⟨m, rfl⟩ : ∃ k, m = k + 1 := ⟨m - 1, by omega⟩
    cases d <;> first | exact p.elim | trivial | (exact fun x hx => ih (by omega) (p x hx))
theorem dEqB_d {α : Type} [DecidableEq α] [Dt α] (a b : α) : dEqB (Dt.d a) (Dt.d b) = decide (a = b) := by
  rw [dEqB_eq, Dt.dpy, Dt.dpy, Datum.eqv]
instance : Dt Int where
  d := .int
  dpy _ := rfl
  pd _ := trivial
instance : Dt Bool where
  d := .bl
  dpy _ := rfl
  pd _ := trivial
instance : Dt Str where
  d := .str
  dpy _ := rfl
  pd _ := trivial
section
variable {α β : Type} [DecidableEq α] [Dt α] [DecidableEq β] [Dt β]
theorem pys_map (xs : List α) : D.pys (xs.map Dt.d) = xs.map Datum.toD := by
  rw [D.pys_map, List.map_map]
  exact List.map_congr_left fun a _ => Dt.dpy a
instance : Dt (List α) where
  d xs := .lst (xs.map Dt.d)
  dpy xs := by rw [D.py, pys_map]; rfl
  pd xs := fun x hx => by
    obtain ⟨a, _, rfl⟩ := List.mem_map.mp hx
    exact Dt.pd a
instance : Dt (Tup α) where
  d xs := .tup (xs.items.map Dt.d)
  dpy xs := by rw [D.py, pys_map]; rfl
  pd xs := fun x hx => by
    obtain ⟨a, _, rfl⟩ := List.mem_map.mp hx
    exact Dt.pd a
instance : Dt (α × β) where
  d p := .tup [Dt.d p.1, Dt.d p.2]
  dpy p := by
    rw [D.py, D.pys, D.pys, D.pys, Dt.dpy, Dt.dpy]
    rfl
  pd p := fun x hx => by
    rcases List.mem_cons.mp hx with rfl | hx
    · exact (Dt.pd p.1).up (by first | exact Nat.le_max_left _ _ | (show _ ≤ max _ _; exact Nat.le_max_left _ _))
    · rw [List.mem_singleton] at hx
      subst hx
      exact (Dt.pd p.2).up (by first | exact Nat.le_max_right _ _ | (show _ ≤ max _ _; exact Nat.le_max_right _ _))
end
section
variable {X : Cx}
def rEqP (K : Frg) (neg : Bool) : R2 := fun x y H Q => ∃ d e, Dp K H x d ∧ Dp K H y e ∧ d.plain = true ∧ e.plain = true ∧ d.depth ≤ 64 ∧ Q (.bl (if neg then !PyData.eqv d e else PyData.eqv d e)) H
theorem op_eqP (hu : X.A.units + 64 < cLine) : OpR X (compareOp .Eq) (rEqP X.K false) := by
  intro pins s σ H x y v u Q I rx ry h
  obtain ⟨d, e, hd, he, pd, pe, dp, q⟩ := h
  obtain ⟨as, r1⟩ := Dp.reads I _ x v hd rx
  obtain ⟨bs, r2⟩ := Dp.reads I _ y u he ry
  exact SeqAt.eq_plain r1 r2 pd pe (by omega) ⟨.bl _, H, I, rfl, q⟩
theorem op_neP (hu : X.A.units + 64 < cLine) : OpR X (compareOp .NotEq) (rEqP X.K true) := by
  intro pins s σ H x y v u Q I rx ry h
  obtain ⟨d, e, hd, he, pd, pe, dp, q⟩ := h
  obtain ⟨as, r1⟩ := Dp.reads I _ x v hd rx
  obtain ⟨bs, r2⟩ := Dp.reads I _ y u he ry
  exact SeqAt.ne_plain r1 r2 pd pe (by omega) ⟨.bl (!PyData.eqv d e), H, I, rfl, q⟩
end
/-- what a list that may change, or a frozen one, holds -/
def vw (M : MS) : D → D
  | .ref a => match M a with
    | some m => m.d
    | none => .ref a
  | d => d
variable [Tbls]
theorem rv_vw {K : Frg} {F : Hp} {M : MS} {G H : Hp} {v : V} {d : D} (R : Rep K F M G H) (r : Rv K F v d) : ∃ F', L2.Same F F' ∧ L2.Same F' H ∧ Rv K F' v (vw M d) := by
  unfold vw
  split
  · rename_i a
    split
    · rename_i m e
      obtain ⟨F', s, R', r'⟩ := R.frz e
      cases r
      exact ⟨F', s, R'.fz, r'⟩
    · exact ⟨F, L2.Same.refl F, R.fz, r⟩
  · exact ⟨F, L2.Same.refl F, R.fz, r⟩
section
variable {K : Frg} {F : Hp} {M : MS} {G H : Hp} {v : V} {d : D}
theorem vw_lst (R : Rep K F M G H) (r : Rv K F v d) {ds : List D} (e : vw M d = .lst ds) : ∃ a vs, v = .ref a ∧ H a = some (.lst vs) ∧ Rvs K F vs ds := by
  unfold vw at e
  split at e
  · rename_i a
    cases r
    split at e
    · rename_i m em
      cases m with
      | lst _ =>
        cases e
        obtain ⟨vs, h1, h2⟩ := R.lst em
        exact ⟨a, vs, rfl, h1, h2⟩
      | dct _ => cases e
      | ins _ _ => cases e
    · cases e
  · subst e
    cases r with
    | lst h1 h2 => exact ⟨_, _, rfl, R.fz _ _ h1, h2⟩
theorem vw_tup (R : Rep K F M G H) (r : Rv K F v d) {ds : List D} (e : vw M d = .tup ds) : ∃ a vs, v = .ref a ∧ SqT K F a vs ∧ Rvs K F vs ds := by
  unfold vw at e
  split at e
  · rename_i a
    cases r
    split at e
    · rename_i m em
      cases m <;> exact nomatch e
    · cases e
  · subst e
    cases r with
    | tup h1 h2 => exact ⟨_, _, rfl, h1, h2⟩
theorem vw_dct (R : Rep K F M G H) (r : Rv K F v d) {ks : List (Key × D)} (e : vw M d = .dct ks) : ∃ a kvs, v = .ref a ∧ H a = some (.dK kvs) ∧ Rks K F kvs ks := by
  unfold vw at e
  split at e
  · rename_i a
    cases r
    split at e
    · rename_i m em
      cases m with
      | lst _ => cases e
      | dct _ =>
        cases e
        obtain ⟨vs, h1, h2⟩ := R.dct em
        exact ⟨a, vs, rfl, h1, h2⟩
      | ins _ _ => cases e
    · cases e
  · subst e
    cases r with
    | dct h1 h2 => exact ⟨_, _, rfl, R.fz _ _ h1, h2⟩
theorem vw_ins (R : Rep K F M G H) (r : Rv K F v d) {C : Addr} {gs : List (Str × D)} (e : vw M d = .ins C gs) : ∃ a dx fs, v = .ref a ∧ H a = some (.ins C dx fs) ∧ Rfs K F fs gs ∧ (gs.map (·.1)).Nodup := by
  unfold vw at e
  split at e
  · rename_i a
    cases r
    split at e
    · rename_i m em
      cases m with
      | lst _ => cases e
      | dct _ => cases e
      | ins _ _ =>
        cases e
        obtain ⟨dx, fs, h1, h2, h3⟩ := R.ins em
        exact ⟨a, dx, fs, rfl, h1, h2, h3⟩
    · cases e
  · subst e
    cases r with
    | ins h1 h2 h3 => exact ⟨_, _, _, rfl, R.fz _ _ h1, h2, h3⟩
theorem vw_int (r : Rv K F v d) {i : Int} (e : vw M d = .int i) : v = .int i := by
  unfold vw at e
  split at e
  · split at e
    · rename_i m em
      cases m <;> exact nomatch e
    · cases e
  · subst e; cases r; rfl
theorem vw_str (r : Rv K F v d) {i : Str} (e : vw M d = .str i) : v = .str i := by
  unfold vw at e
  split at e
  · split at e
    · rename_i m em
      cases m <;> exact nomatch e
    · cases e
  · subst e; cases r; rfl
end
def dEq (neg : Bool) (x y : D) (M : MS) (R : D → MS → Prop) (_ : XD) : Prop := PD 64 (vw M x) ∧ PD 64 (vw M y) ∧ R (.bl (if neg then !dEqB (vw M x) (vw M y) else dEqB (vw M x) (vw M y))) M
theorem ro_eq {K : Frg} (neg : Bool) : RO K (rEqP K neg) (dEq neg) := fun F M G H x y v u R W Q rx ry rep h k => by
  obtain ⟨p1, p2, h⟩ := h
  obtain ⟨F1, _, s1, r1⟩ := rv_vw rep rx
  obtain ⟨F2, _, s2, r2⟩ := rv_vw rep ry
  obtain ⟨a1, a2, a3⟩ := rv_dp s1 64 p1 r1
  obtain ⟨b1, b2, b3⟩ := rv_dp s2 64 p2 r2
  refine ⟨_, _, a1, b1, a2, b2, a3, ?_⟩
  rw [dEqB_eq] at h
  exact k _ M F H _ h (L2.Same.refl F) rep (.bl _)
/-! ### numbers -/
def dII (f : Int → Int → D) (C : Int → Int → Prop) (x y : D) (M : MS) (R : D → MS → Prop) (_ : XD) : Prop := match x, y with
  | .int i, .int j => C i j ∧ R (f i j) M
  | _, _ => False
def dI0 (f : Int → Int → D) (x y : D) (M : MS) (R : D → MS → Prop) (_ : XD) : Prop := match x, y with
  | .int i, .int j => R (f i j) M
  | _, _ => False
theorem ro_ii {K : Frg} {C : Int → Int → Prop} {f : Int → Int → Int} : RO K (rI C fun i j => .int (f i j)) (dII (fun i j => .int (f i j)) C) := fun F M G H x y v u R W Q rx ry rep h k => by
  unfold dII at h
  split at h
  · cases rx; cases ry
    exact ⟨_, _, rfl, rfl, h.1, k _ M F H _ h.2 (L2.Same.refl F) rep (.int _)⟩
  · exact h.elim
theorem ro_i0 {K : Frg} {f : Int → Int → Int} : RO K (rI0 fun i j => .int (f i j)) (dI0 fun i j => .int (f i j)) := fun F M G H x y v u R W Q rx ry rep h k => by
  unfold dI0 at h
  split at h
  · cases rx; cases ry
    exact ⟨_, _, rfl, rfl, k _ M F H _ h (L2.Same.refl F) rep (.int _)⟩
  · exact h.elim
theorem ro_b0 {K : Frg} {f : Int → Int → Bool} : RO K (rI0 fun i j => .bl (f i j)) (dI0 fun i j => .bl (f i j)) := fun F M G H x y v u R W Q rx ry rep h k => by
  unfold dI0 at h
  split at h
  · cases rx; cases ry
    exact ⟨_, _, rfl, rfl, k _ M F H _ h (L2.Same.refl F) rep (.bl _)⟩
  · exact h.elim
theorem RO.or {K : Frg} {r r' : R2} {f g : D → D → MS → (D → MS → Prop) → XD → Prop} (h : RO K r f) (h' : RO K r' g) : RO K (fun x y H Q => r x y H Q ∨ r' x y H Q) (fun x y M R W => f x y M R W ∨ g x y M R W) := fun F M G H x y v u R W Q rx ry rep z k => by
  rcases z with z | z
  · exact .inl (h F M G H x y v u R W Q rx ry rep z k)
  · exact .inr (h' F M G H x y v u R W Q rx ry rep z k)
theorem RO.imp {K : Frg} {r : R2} {f g : D → D → MS → (D → MS → Prop) → XD → Prop} (h : RO K r f) (i : ∀ x y M R W, g x y M R W → f x y M R W) : RO K r g := fun F M G H x y v u R W Q rx ry rep z k => h F M G H x y v u R W Q rx ry rep (i _ _ _ _ _ z) k
end RS

set_option maxRecDepth 100000
set_option maxHeartbeats 4000000
namespace RS
open PySem PySem.Spec PyProof.Rows L2 NdefX He PySem.W
variable [Tbls]
section
variable {K : Frg} {F : Hp} {M : MS} {G H : Hp}
/-- a new list, a new tuple -/
theorem new_lst {p : Addr} {vs : List V} {ds : List D} {R : D → MS → Prop} {Q : VK} (rep : Rep K F M G H) (hp : H p = none) (r : Rvs K F vs ds) (k : KQ K F G R Q) (h : R (.lst ds) M) : Q (.ref p) (upd H p (.lst vs)) := by
  obtain ⟨rep', s⟩ := rep.newF (o := .lst vs) hp
  exact k _ M _ _ _ h s rep' (.lst upd_same (r.mono s))
theorem new_tup {p : Addr} {vs : List V} {ds : List D} {R : D → MS → Prop} {Q : VK} (rep : Rep K F M G H) (hp : H p = none) (r : Rvs K F vs ds) (k : KQ K F G R Q) (h : R (.tup ds) M) : Q (.ref p) (upd H p (.tup vs)) := by
  obtain ⟨rep', s⟩ := rep.newF (o := .tup vs) hp
  exact k _ M _ _ _ h s rep' (.tup (SqT.of upd_same) (r.mono s))
theorem new_mlst {p : Addr} {vs : List V} {ds : List D} {R : D → MS → Prop} {Q : VK} (rep : Rep K F M G H) (hp : H p = none) (r : Rvs K F vs ds) (k : KQ K F G R Q) (h : ∀ q, M q = none → R (.ref q) (updM M q (.lst ds))) : Q (.ref p) (upd H p (.lst vs)) :=
  k _ _ F _ _ (h p (rep.freeM hp)) (L2.Same.refl F) (rep.newM (o := .lst vs) (m := .lst ds) hp r) (.ref p)
end
/-! ### + and * -/
def dAdd (x y : D) (M : MS) (R : D → MS → Prop) (_ : XD) : Prop := match vw M x, vw M y with
  | .int i, .int j => R (.int (i + j)) M
  | .str i, .str j => i.length + j.length ≤ sizeLine ∧ R (.str (i ++ j)) M
  | .lst i, .lst j => i.length + j.length ≤ sizeLine ∧ R (.lst (i ++ j)) M
  | .tup i, .tup j => i.length + j.length ≤ sizeLine ∧ R (.tup (i ++ j)) M
  | _, _ => False
def rAddD (K : Frg) : R2 := fun x y H Q => (∃ i j, x = .int i ∧ y = .int j ∧ Q (.int (i + j)) H) ∨ (∃ i j, x = .str i ∧ y = .str j ∧ i.length + j.length ≤ sizeLine ∧ Q (.str (i ++ j)) H) ∨ rCat x y H Q ∨ rCatA K x y H Q
theorem op_addD {X : Cx} : OpR X (binaryOp .Add) (rAddD X.K) := OpR.or op_add (OpR.or op_add_str (OpR.or op_cat op_catA))
theorem ro_add {K : Frg} : RO K (rAddD K) dAdd := fun F M G H x y v u R W Q rx ry rep h k => by
  unfold dAdd at h
  split at h
  · rename_i e1 e2
    cases vw_int rx e1; cases vw_int ry e2
    exact .inl ⟨_, _, rfl, rfl, k _ M F H _ h (L2.Same.refl F) rep (.int _)⟩
  · rename_i e1 e2
    cases vw_str rx e1; cases vw_str ry e2
    exact .inr (.inl ⟨_, _, rfl, rfl, h.1, k _ M F H _ h.2 (L2.Same.refl F) rep (.str _)⟩)
  · rename_i e1 e2
    obtain ⟨a, vs, rfl, h1, r1⟩ := vw_lst rep rx e1
    obtain ⟨b, ws, rfl, h2, r2⟩ := vw_lst rep ry e2
    exact .inr (.inr (.inl ⟨a, b, vs, ws, rfl, rfl, h1, h2, by rw [r1.len, r2.len]; exact h.1, fun p hp => new_lst rep hp (r1.append r2) k h.2⟩))
  · rename_i i j e1 e2
    obtain ⟨a, vs, rfl, h1, r1⟩ := vw_tup rep rx e1
    obtain ⟨b, ws, rfl, h2, r2⟩ := vw_tup rep ry e2
    refine .inr (.inr (.inr ⟨a, b, vs, ws, rfl, rfl, Same.sqT rep.fz h1, Same.sqT rep.fz h2, by rw [r1.len, r2.len]; exact h.1, fun e => ?_, fun _ e => ?_, fun _ _ p hp => new_tup rep hp (r1.append r2) k h.2⟩))
    · subst e
      cases r1
      exact k _ M F H _ h.2 (L2.Same.refl F) rep (.tup h2 r2)
    · subst e
      cases r2
      have := h.2
      rw [List.append_nil] at this
      exact k _ M F H _ this (L2.Same.refl F) rep (.tup h1 r1)
  · exact h.elim
theorem op_mulI {X : Cx} : OpR X (binaryOp .Mult) (rI IntMulOk fun i j => .int (i * j)) := opI fun _ _ _ _ _ _ _ hc q => mul_int q hc
def dMul (x y : D) (M : MS) (R : D → MS → Prop) (_ : XD) : Prop := match vw M x, vw M y with
  | .int i, .int j => IntMulOk i j ∧ R (.int (i * j)) M
  | .str s, .int n => ∃ c, s = ⟨#[c]⟩ ∧ 1 ≤ n ∧ n ≤ 1000 ∧ R (.str ⟨(List.replicate n.toNat c).toArray⟩) M
  | .lst xs, .int n => -(2 ^ 63) ≤ n ∧ n < 2 ^ 63 ∧ xs.length * n.toNat ≤ sizeLine ∧ R (.lst (List.replicate n.toNat xs).flatten) M
  | _, _ => False
def rMulD : R2 := fun x y H Q => rI IntMulOk (fun i j => .int (i * j)) x y H Q ∨ (∃ (c : Nat) (n : Int), x = .str ⟨#[c]⟩ ∧ y = .int n ∧ 1 ≤ n ∧ n ≤ 1000 ∧ Q (.str ⟨(List.replicate n.toNat c).toArray⟩) H) ∨ rRep x y H Q
theorem op_mulD {X : Cx} : OpR X (binaryOp .Mult) rMulD := OpR.or op_mulI (OpR.or op_mulS op_rep)
theorem Rvs.rep {K : Frg} {F : Hp} {vs : List V} {ds : List D} (r : Rvs K F vs ds) : ∀ n : Nat, Rvs K F (List.replicate n vs).flatten (List.replicate n ds).flatten
  | 0 => .nil
  | n + 1 => by
    rw [List.replicate_succ, List.replicate_succ, List.flatten_cons, List.flatten_cons]
    exact r.append (Rvs.rep r n)
theorem ro_mul {K : Frg} : RO K rMulD dMul := fun F M G H x y v u R W Q rx ry rep h k => by
  unfold dMul at h
  split at h
  · rename_i e1 e2
    cases vw_int rx e1; cases vw_int ry e2
    exact .inl ⟨_, _, rfl, rfl, h.1, k _ M F H _ h.2 (L2.Same.refl F) rep (.int _)⟩
  · rename_i e1 e2
    cases vw_str rx e1; cases vw_int ry e2
    obtain ⟨c, rfl, h1, h2, h⟩ := h
    exact .inr (.inl ⟨c, _, rfl, rfl, h1, h2, k _ M F H _ h (L2.Same.refl F) rep (.str _)⟩)
  · rename_i e1 e2
    obtain ⟨a, vs, rfl, h1, r1⟩ := vw_lst rep rx e1
    cases vw_int ry e2
    obtain ⟨b1, b2, b3, h⟩ := h
    exact .inr (.inr ⟨a, _, vs, rfl, rfl, h1, b1, b2, by rw [r1.len]; exact b3, fun p hp => new_lst rep hp (r1.rep _) k h⟩)
  · exact h.elim
def CDivW (i j : Int) : Prop := j ≠ 0 ∧ j.natAbs.log2 < 9000
/-! ### is None, in -/
def dNonB : D → Bool
  | .non => true
  | _ => false
def dIs (neg : Bool) (x y : D) (M : MS) (R : D → MS → Prop) (_ : XD) : Prop := match y with
  | .non => R (.bl (if neg then !dNonB x else dNonB x)) M
  | _ => False
theorem rv_non {K : Frg} {F : Hp} {v : V} {x : D} (r : Rv K F v x) : decide (v = .non) = dNonB x := by cases r <;> rfl
theorem ro_isN {K : Frg} : RO K (fun x y H Q => y = .non ∧ Q (.bl (decide (x = .non))) H) (dIs false) := fun F M G H x y v u R W Q rx ry rep h k => by
  unfold dIs at h
  split at h
  · cases ry
    refine ⟨rfl, ?_⟩
    rw [rv_non rx]
    exact k _ M F H _ h (L2.Same.refl F) rep (.bl _)
  · exact h.elim
theorem ro_notN {K : Frg} : RO K (fun x y H Q => y = .non ∧ Q (.bl (!decide (x = .non))) H) (dIs true) := fun F M G H x y v u R W Q rx ry rep h k => by
  unfold dIs at h
  split at h
  · cases ry
    refine ⟨rfl, ?_⟩
    rw [rv_non rx]
    exact k _ M F H _ h (L2.Same.refl F) rep (.bl _)
  · exact h.elim
def rInP (K : Frg) (neg : Bool) : R2 := fun x y H Q => ∃ d ds, Dp K H x d ∧ (Dp K H y (.list ds) ∨ Dp K H y (.tuple ds)) ∧ d.plain = true ∧ d.depth ≤ 63 ∧ PyData.plainAll ds = true ∧ Q (.bl (if neg then !ds.any fun z => PyData.eqv z d else ds.any fun z => PyData.eqv z d)) H
theorem op_inP {X : Cx} (hu : X.A.units + 64 < cLine) : OpR X (compareOp .In) (rInP X.K false) := by
  intro pins s σ H x y v u Q I rx ry h
  obtain ⟨d, ds, hd, he, pd, dd, pe, q⟩ := h
  obtain ⟨as, r1⟩ := Dp.reads I d x v hd rx
  rcases he with he | he
  · obtain ⟨bs, r2⟩ := Dp.reads I (.list ds) y u he ry
    exact SeqAt.in_list_data r2 r1 pe pd (by omega) ⟨.bl _, H, I, rfl, q⟩
  · obtain ⟨bs, r2⟩ := Dp.reads I (.tuple ds) y u he ry
    exact SeqAt.in_tuple_data r2 r1 pe pd (by omega) ⟨.bl _, H, I, rfl, q⟩
theorem op_notInP {X : Cx} (hu : X.A.units + 64 < cLine) : OpR X (compareOp .NotIn) (rInP X.K true) := by
  intro pins s σ H x y v u Q I rx ry h
  obtain ⟨d, ds, hd, he, pd, dd, pe, q⟩ := h
  obtain ⟨as, r1⟩ := Dp.reads I d x v hd rx
  rcases he with he | he
  · obtain ⟨bs, r2⟩ := Dp.reads I (.list ds) y u he ry
    exact SeqAt.notIn_list_data r2 r1 pe pd (by omega) ⟨.bl _, H, I, rfl, q⟩
  · obtain ⟨bs, r2⟩ := Dp.reads I (.tuple ds) y u he ry
    exact SeqAt.notIn_tuple_data r2 r1 pe pd (by omega) ⟨.bl _, H, I, rfl, q⟩
def inB (x : D) (xs : List D) : Bool := xs.any fun z => dEqB z x
def dIn (neg : Bool) (x y : D) (M : MS) (R : D → MS → Prop) (_ : XD) : Prop := match vw M y with
  | .lst ds => PD 63 x ∧ (∀ d ∈ ds, PD 63 d) ∧ R (.bl (if neg then !inB x ds else inB x ds)) M
  | .tup ds => PD 63 x ∧ (∀ d ∈ ds, PD 63 d) ∧ R (.bl (if neg then !inB x ds else inB x ds)) M
  | .str z => (match x with
    | .str c => ∃ k, c = ⟨#[k]⟩ ∧ R (.bl (if neg then !decide (k ∈ z.cps.toList) else decide (k ∈ z.cps.toList))) M
    | _ => False)
  | _ => False
def rInA (K : Frg) (neg : Bool) : R2 := fun x y H Q => rInP K neg x y H Q ∨ ∃ (c : Nat) (z : Str), x = .str ⟨#[c]⟩ ∧ y = .str z ∧ Q (.bl (if neg then !decide (c ∈ z.cps.toList) else decide (c ∈ z.cps.toList))) H
theorem op_inA {X : Cx} (hu : X.A.units + 64 < cLine) : OpR X (compareOp .In) (rInA X.K false) := OpR.or (op_inP hu) op_in_sign
theorem op_notInA {X : Cx} (hu : X.A.units + 64 < cLine) : OpR X (compareOp .NotIn) (rInA X.K true) := OpR.or (op_notInP hu) op_notIn_sign
theorem inB_eq (x : D) (ds : List D) : inB x ds = (D.pys ds).any fun z => PyData.eqv z x.py := by
  unfold inB
  rw [D.pys_map, List.any_map]
  congr 1
  funext z
  exact dEqB_eq z x
theorem ro_in {K : Frg} (neg : Bool) : RO K (rInA K neg) (dIn neg) := fun F M G H x y v u R W Q rx ry rep h k => by
  have key : ∀ ds, (vw M y = .lst ds ∨ vw M y = .tup ds) → PD 63 x ∧ (∀ d ∈ ds, PD 63 d) ∧ R (.bl (if neg then !inB x ds else inB x ds)) M → rInP K neg v u H Q := by
    intro ds e ⟨p1, p2, h⟩
    obtain ⟨F2, _, s2, r2⟩ := rv_vw rep ry
    obtain ⟨a1, a2, a3⟩ := rv_dp rep.fz 63 p1 rx
    rw [inB_eq] at h
    rcases e with e | e
    · rw [e] at r2
      obtain ⟨b1, b2, b3⟩ := rv_dp s2 64 (show PD 64 (.lst ds) from p2) r2
      exact ⟨_, _, a1, .inl b1, a2, by omega, b2, k _ M F H _ h (L2.Same.refl F) rep (.bl _)⟩
    · rw [e] at r2
      obtain ⟨b1, b2, b3⟩ := rv_dp s2 64 (show PD 64 (.tup ds) from p2) r2
      exact ⟨_, _, a1, .inr b1, a2, by omega, b2, k _ M F H _ h (L2.Same.refl F) rep (.bl _)⟩
  unfold dIn at h
  split at h
  · rename_i ds e
    exact .inl (key ds (.inl e) h)
  · rename_i ds e
    exact .inl (key ds (.inr e) h)
  · rename_i z e
    cases vw_str ry e
    split at h
    · obtain ⟨c, rfl, h⟩ := h
      cases rx
      exact .inr ⟨c, z, rfl, rfl, k _ M F H _ h (L2.Same.refl F) rep (.bl _)⟩
    · exact h.elim
  · exact h.elim
theorem inB_d {α : Type} [DecidableEq α] [Dt α] (x : α) (xs : List α) : inB (Dt.d x) (xs.map Dt.d) = decide (x ∈ xs) := by
  unfold inB
  rw [List.any_map, Bool.eq_iff_iff, List.any_eq_true, decide_eq_true_eq]
  constructor
  · rintro ⟨z, hz, e⟩
    rw [Function.comp, dEqB_d, decide_eq_true_eq] at e
    exact e ▸ hz
  · intro hx
    exact ⟨x, hx, by rw [Function.comp, dEqB_d]; exact decide_eq_true rfl⟩
/-! ### displays -/
section
variable {X : Cx} {E : L2.St → XK} {pos : Pos} {es : List Expr} {T : TAD}
def dTup (T : TAD) : TD := fun τ M R W => T τ M (fun ds M1 => ds.length ≤ sizeLine ∧ R (.tup ds) M1) W
def dLst (T : TAD) : TD := fun τ M R W => T τ M (fun ds M1 => ds.length ≤ sizeLine ∧ R (.lst ds) M1) W
/-- a list that will change -/
def dLstM (T : TAD) : TD := fun τ M R W => T τ M (fun ds M1 => ds.length ≤ sizeLine ∧ ∀ p, M1 p = none → R (.ref p) (updM M1 p (.lst ds))) W
theorem de_tup {x1} (h : DAs X E es T) : DE X E (.Tuple es x1 pos) (dTup T) := by
  refine ⟨(pe_tup h.p).imp fun σ H Q ⟨F, M, G, τ, R, W, rs, rep, h, k, kx⟩ => ?_⟩
  refine ⟨F, M, G, τ, _, W, rs, rep, h, fun ds M1 F1 H1 vs q s1 rep1 r1 => ?_, kx⟩
  exact ⟨by rw [r1.len]; exact q.1, fun p hp => new_tup rep1 hp r1 (k.le s1) q.2⟩
theorem de_lst (h : DAs X E es T) : DE X E (.List es pos) (dLst T) := by
  refine ⟨(pe_lst h.p).imp fun σ H Q ⟨F, M, G, τ, R, W, rs, rep, h, k, kx⟩ => ?_⟩
  refine ⟨F, M, G, τ, _, W, rs, rep, h, fun ds M1 F1 H1 vs q s1 rep1 r1 => ?_, kx⟩
  exact ⟨by rw [r1.len]; exact q.1, fun p hp => new_lst rep1 hp r1 (k.le s1) q.2⟩
theorem de_lstM (h : DAs X E es T) : DE X E (.List es pos) (dLstM T) := by
  refine ⟨(pe_lst h.p).imp fun σ H Q ⟨F, M, G, τ, R, W, rs, rep, h, k, kx⟩ => ?_⟩
  refine ⟨F, M, G, τ, _, W, rs, rep, h, fun ds M1 F1 H1 vs q s1 rep1 r1 => ?_, kx⟩
  exact ⟨by rw [r1.len]; exact q.1, fun p hp => new_mlst rep1 hp r1 (k.le s1) q.2⟩
end
/-! ### subscripts -/
def atD (xs : List D) (i : Int) : Option D := match ixN xs.length i with
  | some j => xs[j]?
  | none => none
theorem atD_at {K : Frg} {F : Hp} {vs : List V} {ds : List D} (r : Rvs K F vs ds) {i : Int} {d : D} (e : atD ds i = some d) : ∃ v, atI vs i = some v ∧ Rv K F v d := by
  unfold atD at e
  unfold atI
  rw [r.len]
  cases z : ixN ds.length i with
  | none => rw [z] at e; cases e
  | some j =>
    rw [z] at e
    obtain ⟨v, h1, h2⟩ := r.atD (show ds[j]? = some d from e)
    exact ⟨v, h1, h2⟩
def dIx (x y : D) (M : MS) (R : D → MS → Prop) (_ : XD) : Prop := match vw M x, y with
  | .lst xs, .int i => (match atD xs i with | some d => R d M | none => False)
  | .tup xs, .int i => (match atD xs i with | some d => R d M | none => False)
  | .str z, .int i => z.length ≤ sizeLine ∧ ∃ c, atI z.cps.toList i = some c ∧ R (.str ⟨#[c]⟩) M
  | _, _ => False
def rIxD (K : Frg) : R2 := fun x y H Q => rIxL K x y H Q ∨ rIxT K x y H Q ∨ rIxS x y H Q
theorem ix_D {X : Cx} : IxR X (rIxD X.K) := IxR.or ix_list (IxR.or ix_tup ix_str)
theorem ro_ix {K : Frg} : RO K (rIxD K) dIx := fun F M G H x y v u R W Q rx ry rep h k => by
  unfold dIx at h
  split at h
  · rename_i e1
    obtain ⟨a, vs, rfl, h1, r1⟩ := vw_lst rep rx e1
    cases ry
    split at h
    · rename_i d e
      obtain ⟨w, e2, rw'⟩ := atD_at r1 e
      exact .inl ⟨a, vs, _, w, rfl, rfl, SqL.of h1, e2, k _ M F H _ h (L2.Same.refl F) rep rw'⟩
    · exact h.elim
  · rename_i e1
    obtain ⟨a, vs, rfl, h1, r1⟩ := vw_tup rep rx e1
    cases ry
    split at h
    · rename_i d e
      obtain ⟨w, e2, rw'⟩ := atD_at r1 e
      exact .inr (.inl ⟨a, vs, _, w, rfl, rfl, Same.sqT rep.fz h1, e2, k _ M F H _ h (L2.Same.refl F) rep rw'⟩)
    · exact h.elim
  · rename_i e1
    cases vw_str rx e1
    cases ry
    obtain ⟨h0, c, e, h⟩ := h
    exact .inr (.inr ⟨_, _, c, rfl, rfl, h0, e, k _ M F H _ h (L2.Same.refl F) rep (.str _)⟩)
  · exact h.elim
section
variable {X : Cx} {E : L2.St → XK} {pos : Pos} {a b : Expr} {Ta Tb : TD}
theorem de_ix (ha : DE X E a Ta) (hb : DE X E b Tb) (hs : PlainIx b) : DE X E (.Subscript a b pos) (dBin dIx Ta Tb) :=
  ⟨(pe_ix ix_D ha.p hb.p hs).imp fun σ H Q h => up_bin (a := a) (b := b) ro_ix h⟩
/-! ### slices -/
abbrev TOD := SD → MS → (Option Int → MS → Prop) → XD → Prop
def upO (K : Frg) (E : L2.St → XK) (T : TOD) : TO := fun σ H Q => ∃ F M G τ R W, Rs K F σ τ ∧ Rep K F M G H ∧ T τ M R W ∧ (∀ o M' F' H', R o M' → L2.Same F F' → Rep K F' M' G H' → Q o H') ∧ KX K F G W (E σ)
structure DO (X : Cx) (E : L2.St → XK) (e : Option Expr) (T : TOD) : Prop where
  p : PO X e (upO X.K E T)
def dNoPart : TOD := fun _ M R _ => R none M
def dPart (T : TD) : TOD := fun τ M R W => T τ M (fun d M1 => match d with
  | .int i => R (some i) M1
  | _ => False) W
theorem _root_.L2.PO.imp {X : Cx} {e : Option Expr} {t t' : TO} (h : PO X e t) (i : ∀ σ H Q, t' σ H Q → t σ H Q) : PO X e t' := ⟨fun pins s σ H Q I q => h.run pins s σ H Q I (i _ _ _ q)⟩
theorem do_none : DO X E none dNoPart := ⟨po_none.imp fun σ H Q ⟨F, M, G, τ, R, W, rs, rep, h, k, kx⟩ => k none M F H h (L2.Same.refl F) rep⟩
theorem do_some (ha : DE X E a Ta) : DO X E (some a) (dPart Ta) := by
  refine ⟨(po_some ha.p).imp fun σ H Q ⟨F, M, G, τ, R, W, rs, rep, h, k, kx⟩ => ?_⟩
  refine ⟨F, M, G, τ, _, W, rs, rep, h, fun d M1 F1 H1 v q s1 rep1 r1 => ?_, kx⟩
  cases d <;> try exact q.elim
  cases r1
  exact ⟨_, rfl, k _ M1 F1 H1 q s1 rep1⟩
def cutD (xs : List D) (lo hi : Option Int) : List D := (xs.drop (HT.sIx xs.length 0 lo)).take (HT.sIx xs.length xs.length hi - HT.sIx xs.length 0 lo)
theorem Rvs.cut {K : Frg} {F : Hp} {vs : List V} {ds : List D} (r : Rvs K F vs ds) (lo hi : Option Int) : Rvs K F (cutV vs lo hi) (cutD ds lo hi) := by
  unfold cutV cutD
  rw [r.len]
  exact (r.drop _).take _
def dSl (T : TD) (U1 U2 : TOD) : TD := fun τ M R W => T τ M (fun d M1 => U1 τ M1 (fun lo M2 => U2 τ M2 (fun hi M3 => match vw M3 d with
  | .lst xs => R (.lst (cutD xs lo hi)) M3
  | .tup xs => R (.tup (cutD xs lo hi)) M3
  | _ => False) W) W) W
theorem HT.all_cut {xs : List V} {lo hi : Option Int} (h : HT.sIx xs.length 0 lo = 0 ∧ HT.sIx xs.length xs.length hi = xs.length) : cutV xs lo hi = xs := by
  unfold cutV
  rw [h.1, h.2]
  simp
theorem de_sl {lo hi : Option Expr} {p2 : Pos} {U1 U2 : TOD} (ha : DE X E a Ta) (h1 : DO X E lo U1) (h2 : DO X E hi U2) : DE X E (.Subscript a (.Slice lo hi none p2) pos) (dSl Ta U1 U2) := by
  refine ⟨(pe_slice (SlR.or sl_list sl_tupA) ha.p h1.p h2.p).imp fun σ H Q ⟨F, M, G, τ, R, W, rs, rep, h, k, kx⟩ => ?_⟩
  refine ⟨F, M, G, τ, _, W, rs, rep, h, fun d M1 F1 H1 v q s1 rep1 r1 => ?_, kx⟩
  refine ⟨F1, M1, G, τ, _, W, rs.mono s1, rep1, q, fun l M2 F2 H2 q2 s2 rep2 => ?_, kx.le s1⟩
  refine ⟨F2, M2, G, τ, _, W, (rs.mono s1).mono s2, rep2, q2, fun u M3 F3 H3 q3 s3 rep3 => ?_, (kx.le s1).le s2⟩
  have r3 := (r1.mono s2).mono s3
  split at q3
  · rename_i xs e
    obtain ⟨p, vs, rfl, e1, rr⟩ := vw_lst rep3 r3 e
    exact .inl ⟨p, vs, rfl, SqL.of e1, fun q hq => new_lst rep3 hq (rr.cut l u) (((k.le s1).le s2).le s3) q3⟩
  · rename_i xs e
    obtain ⟨p, vs, rfl, e1, rr⟩ := vw_tup rep3 r3 e
    refine .inr ⟨p, vs, rfl, Same.sqT rep3.fz e1, fun z => ?_, fun _ q hq => new_tup rep3 hq (rr.cut l u) (((k.le s1).le s2).le s3) q3⟩
    have rc := rr.cut l u
    rw [HT.all_cut z] at rc
    exact (((k.le s1).le s2).le s3) _ M3 F3 H3 _ q3 (L2.Same.refl F3) rep3 (.tup e1 rc)
  · exact q3.elim
/-! ### fields -/
/-- a field of instances of C may be read and stored plainly -/
structure AttrOK (K : Frg) (C : Addr) (f : Str) : Prop where
  c : Cls K C
  n : NoAttr K C f
theorem Rfs.look {K : Frg} {F : Hp} : ∀ {fs : List (Str × V)} {gs : List (Str × D)} {k : Nat} {f : Str} {d : D}, Rfs K F fs gs → (gs.map (·.1)).Nodup → gs[k]? = some (f, d) → ∃ v, fs.lookup f = some v ∧ Rv K F v d
  | _, _, k, f, d, .nil, _, e => by simp at e
  | _, _, 0, f, d, .cons x y, _, e => by
    simp at e
    obtain ⟨rfl, rfl⟩ := e
    exact ⟨_, by rw [List.lookup_cons, beq_self_eq_true], x⟩
  | _, _, k + 1, f, d, .cons (k := g) x y, n, e => by
    simp only [List.getElem?_cons_succ] at e
    rw [List.map_cons, List.nodup_cons] at n
    obtain ⟨v, h1, h2⟩ := Rfs.look y n.2 e
    refine ⟨v, ?_, h2⟩
    have hm : f ∈ List.map (fun x : Str × D => x.1) _ := List.mem_map.mpr ⟨_, List.mem_of_getElem? e, rfl⟩
    have ne : (f == g) = false := beq_eq_false_iff_ne.mpr fun z => n.1 (by rw [← z]; exact hm)
    rw [List.lookup_cons, ne]
    exact h1
def dFld (K : Frg) (f : Str) (i : Nat) (T : TD) : TD := fun τ M R W => T τ M (fun d M1 => match vw M1 d with
  | .ins C gs => AttrOK K C f ∧ (match gs[i]? with
    | some (g, x) => g = f ∧ R x M1
    | none => False)
  | _ => False) W
theorem de_fld {K : Frg} (hk : X.K = K) (f : Str) (i : Nat) (ha : DE X E a Ta) (hb : attributeBase a f X.env (eval a X.env) = eval a X.env := by rfl) : DE X E (.Attribute a f pos) (dFld K f i Ta) := by
  subst hk
  refine ⟨(pe_fld ha.p hb).imp fun σ H Q ⟨F, M, G, τ, R, W, rs, rep, h, k, kx⟩ => ?_⟩
  refine ⟨F, M, G, τ, _, W, rs, rep, h, fun d M1 F1 H1 v q s1 rep1 r1 => ?_, kx⟩
  dsimp only at q
  split at q
  · rename_i C gs e
    obtain ⟨a, dx, fs, rfl, e1, rr, n⟩ := vw_ins rep1 r1 e
    obtain ⟨ok, q⟩ := q
    split at q
    · rename_i g x e2
      obtain ⟨rfl, q⟩ := q
      obtain ⟨w, e3, rw'⟩ := rr.look n e2
      exact ⟨a, C, dx, fs, w, rfl, e1, ok.c, ok.n, e3, k _ M1 F1 H1 _ q s1 rep1 rw'⟩
    · exact q.elim
  · exact q.elim
theorem Rfs.put {K : Frg} {F : Hp} {y : V} {d : D} (ry : Rv K F y d) {f : Str} : ∀ {fs : List (Str × V)} {gs : List (Str × D)} {k : Nat} {x : D}, Rfs K F fs gs → (gs.map (·.1)).Nodup → gs[k]? = some (f, x) → Rfs K F (putF f y fs) (gs.set k (f, d))
  | _, _, k, x, .nil, _, e => by simp at e
  | _, _, 0, x, .cons z w, _, e => by
    simp at e
    obtain ⟨rfl, rfl⟩ := e
    rw [putF, if_pos rfl]
    exact .cons ry w
  | _, _, k + 1, x, .cons (k := g) z w, n, e => by
    simp only [List.getElem?_cons_succ] at e
    rw [List.map_cons, List.nodup_cons] at n
    have hm : f ∈ List.map (fun x : Str × D => x.1) _ := List.mem_map.mpr ⟨_, List.mem_of_getElem? e, rfl⟩
    have ne : ¬ g = f := fun z => n.1 (by rw [z]; exact hm)
    rw [putF, if_neg ne]
    exact .cons z (Rfs.put ry w n.2 e)
theorem Rfs.add {K : Frg} {F : Hp} {y : V} {d : D} (ry : Rv K F y d) {f : Str} : ∀ {fs : List (Str × V)} {gs : List (Str × D)}, Rfs K F fs gs → f ∉ gs.map (·.1) → Rfs K F (putF f y fs) (gs ++ [(f, d)])
  | _, _, .nil, _ => .cons ry .nil
  | _, _, .cons (k := g) z w, n => by
    rw [List.map_cons, List.mem_cons, not_or] at n
    rw [putF, if_neg fun z => n.1 z.symm]
    exact .cons z (Rfs.add ry w n.2)
theorem keys_set {gs : List (Str × D)} {k : Nat} {f : Str} {x d : D} (e : gs[k]? = some (f, x)) : (gs.set k (f, d)).map (·.1) = gs.map (·.1) := by
  rw [List.map_set]
  apply List.ext_getElem?
  intro j
  by_cases h : k = j
  · subst h
    have hl : k < gs.length := (List.getElem?_eq_some_iff.mp e).1
    rw [List.getElem?_set_self (by rw [List.length_map]; exact hl), List.getElem?_map, e]
    rfl
  · rw [List.getElem?_set_ne h]
/-- o.f = e, o an instance that may change -/
def dFldS (K : Frg) (f : Str) (i : Nat) (T Tv : TD) : TSD := fun N τ M => Tv τ M (fun y M1 => T τ M1 (fun d M2 => match d with
  | .ref a => (match M2 a with
    | some (.ins C gs) => AttrOK K C f ∧ gs.length < 1000 ∧ (match gs[i]? with
      | some (g, _) => g = f ∧ N.nx τ (updM M2 a (.ins C (gs.set i (f, y))))
      | none => f ∉ gs.map (·.1) ∧ N.nx τ (updM M2 a (.ins C (gs ++ [(f, y)]))))
    | _ => False)
  | _ => False) (N.ex τ)) (N.ex τ)
theorem ds_fld {K : Frg} (hk : X.K = K) (f : Str) (i : Nat) {value : Expr} {pos' : Pos} {Tv : TD} (ha : DE X E a Ta) (hv : DE X E value Tv) (hs : swapsWith value (some (.Attribute a f pos')) pos.line X.env = pure false := by rfl) : DS X E (.Assign [.Attribute a f pos'] value pos) (dFldS K f i Ta Tv) := by
  subst hk
  refine ⟨(ps_fld ha.p hv.p hs).imp fun D σ H ⟨F, M, G, τ, N, rs, rep, h, lk⟩ => ?_⟩
  refine ⟨F, M, G, τ, _, _, rs, rep, h, fun y M1 F1 H1 v q s1 rep1 r1 => ?_, lk.ex.at rs⟩
  refine ⟨F1, M1, G, τ, _, _, rs.mono s1, rep1, q, fun d M2 F2 H2 u q2 s2 rep2 r2 => ?_, (lk.ex.at rs).le s1⟩
  dsimp only at q2
  split at q2
  · rename_i p
    cases r2
    split at q2
    · rename_i C gs e
      obtain ⟨ok, few, q2⟩ := q2
      obtain ⟨dx, fs, e1, rr, n⟩ := rep2.ins e
      refine ⟨p, C, dx, fs, rfl, e1, ok.c, ok.n, by rw [rr.len]; exact few, ?_⟩
      have s := s1.trans s2
      split at q2
      · rename_i g x e2
        obtain ⟨rfl, q2⟩ := q2
        exact lk.nx _ _ _ F2 _ q2 s (rep2.put e ⟨rfl, rr.put (r1.mono s2) n e2, by rw [keys_set e2]; exact n⟩) (rs.mono s)
      · obtain ⟨nn, q2⟩ := q2
        refine lk.nx _ _ _ F2 _ q2 s (rep2.put e ⟨rfl, rr.add (r1.mono s2) nn, ?_⟩) (rs.mono s)
        rw [List.map_append, List.nodup_append]
        refine ⟨n, by simp, fun a ha b hb => ?_⟩
        have : b = f := by simpa using hb
        subst this
        rintro rfl
        exact nn ha
    · exact q2.elim
  · exact q2.elim
end
end RS

set_option maxRecDepth 100000
set_option maxHeartbeats 4000000
namespace RS
open PySem PySem.Spec PyProof.Rows L2 NdefX He PySem.W
variable [Tbls]
/-! ### statements -/
section
variable {X : Cx} {E : L2.St → XK} {pos : Pos} {st : Stmt} {rest : List Stmt} {e : Expr} {T U : TSD} {Te : TD} {Tt : TTD}
def dNext : TSD := fun N τ M => N.nx τ M
def dSeq (T U : TSD) : TSD := fun N τ M => T { N with nx := U N } τ M
theorem KN.up {K : Frg} {F G : Hp} {N : EndsD} {D : Ends} (lk : LkS K F G N D E) (U : TSD) : KN K F G (U N) (upS K E U D) := fun σ' τ' M' F' H' q s rep rs => ⟨F', M', G, τ', N, rs, rep, q, lk.le s⟩
theorem dss_nil : DSs X E [] dNext := ⟨pss_nil.imp fun D σ H ⟨F, M, G, τ, N, rs, rep, h, lk⟩ => lk.nx _ _ _ F _ h (L2.Same.refl F) rep rs⟩
theorem dss_cons (h1 : DS X E st T) (h2 : DSs X E rest U) : DSs X E (st :: rest) (dSeq T U) :=
  ⟨(pss_cons h1.p h2.p).imp fun D σ H ⟨F, M, G, τ, N, rs, rep, h, lk⟩ => ⟨F, M, G, τ, { N with nx := U N }, rs, rep, h, ⟨KN.up lk U, lk.rt, lk.bk, lk.ct, lk.ex⟩⟩⟩
theorem dss_one (h1 : DS X E st T) : DSs X E [st] T := ⟨pss_one h1.p⟩
/-- ways join again -/
def dCut (T U : TSD) : TSD := fun N τ M => ∃ J : SD → MS → Prop, T { N with nx := J } τ M ∧ ∀ τ' M', J τ' M' → U N τ' M'
theorem dss_cut (h1 : DS X E st T) (h2 : DSs X E rest U) : DSs X E (st :: rest) (dCut T U) := by
  refine ⟨(pss_cons h1.p h2.p).imp fun D σ H ⟨F, M, G, τ, N, rs, rep, ⟨J, h, hj⟩, lk⟩ => ?_⟩
  exact ⟨F, M, G, τ, { N with nx := J }, rs, rep, h, ⟨fun σ' τ' M' F' H' q s rep rs => ⟨F', M', G, τ', N, rs, rep, hj _ _ q, lk.le s⟩, lk.rt, lk.bk, lk.ct, lk.ex⟩⟩
theorem ds_pass : DS X E (.Pass pos) dNext := ⟨ps_pass.imp fun D σ H ⟨F, M, G, τ, N, rs, rep, h, lk⟩ => lk.nx _ _ _ F _ h (L2.Same.refl F) rep rs⟩
theorem ds_doc {x j pos pos'} : DS X E (.Expr (.Constant (.str x) j pos) pos') dNext := ⟨ps_doc.imp fun D σ H ⟨F, M, G, τ, N, rs, rep, h, lk⟩ => lk.nx _ _ _ F _ h (L2.Same.refl F) rep rs⟩
def dBrk : TSD := fun N τ M => N.bk τ M
def dCtn : TSD := fun N τ M => N.ct τ M
theorem ds_break : DS X E (.Break pos) dBrk := ⟨ps_break.imp fun D σ H ⟨F, M, G, τ, N, rs, rep, h, lk⟩ => lk.bk _ _ _ F _ h (L2.Same.refl F) rep rs⟩
theorem ds_continue : DS X E (.Continue pos) dCtn := ⟨ps_continue.imp fun D σ H ⟨F, M, G, τ, N, rs, rep, h, lk⟩ => lk.ct _ _ _ F _ h (L2.Same.refl F) rep rs⟩
def dDrop (T : TD) : TSD := fun N τ M => T τ M (fun _ M1 => N.nx τ M1) (N.ex τ)
theorem ds_expr (h : DE X E e Te) (hs : swapsWith e none pos.line X.env = pure false := by rfl) : DS X E (.Expr e pos) (dDrop Te) :=
  ⟨(ps_expr h.p hs).imp fun D σ H ⟨F, M, G, τ, N, rs, rep, h, lk⟩ => ⟨F, M, G, τ, _, _, rs, rep, h, fun d M1 F1 H1 v q s1 rep1 r1 => lk.nx _ _ _ F1 _ q s1 rep1 (rs.mono s1), lk.ex.at rs⟩⟩
def dRet (T : TD) : TSD := fun N τ M => T τ M (fun d M1 => N.rt d M1) (N.ex τ)
theorem ds_ret (h : DE X E e Te) : DS X E (.Return (some e) pos) (dRet Te) :=
  ⟨(ps_ret h.p).imp fun D σ H ⟨F, M, G, τ, N, rs, rep, h, lk⟩ => ⟨F, M, G, τ, _, _, rs, rep, h, lk.rt, lk.ex.at rs⟩⟩
def dRetN : TSD := fun N _ M => N.rt .non M
theorem ds_retN : DS X E (.Return none pos) dRetN := ⟨ps_retN.imp fun D σ H ⟨F, M, G, τ, N, rs, rep, h, lk⟩ => lk.rt _ _ F _ _ h (L2.Same.refl F) rep .non⟩
def dIf (A : TTD) (T U : TSD) : TSD := fun N τ M => A τ M (fun b M1 => dIte b (T N τ M1) (U N τ M1)) (N.ex τ)
theorem ds_if {c : Expr} {a b : List Stmt} (hc : DT X E c Tt) (ha : DSs X E a T) (hb : DSs X E b U) : DS X E (.If c a b pos) (dIf Tt T U) := by
  refine ⟨(ps_if hc.p ha.p hb.p).imp fun D σ H ⟨F, M, G, τ, N, rs, rep, h, lk⟩ => ?_⟩
  refine ⟨F, M, G, τ, _, _, rs, rep, h, fun d M1 F1 H1 q s1 rep1 => ?_, lk.ex.at rs⟩
  cases d with
  | true => exact iteT ⟨F1, M1, G, τ, N, rs.mono s1, rep1, q.1 rfl, lk.le s1⟩
  | false => exact iteF ⟨F1, M1, G, τ, N, rs.mono s1, rep1, q.2 rfl, lk.le s1⟩
def dNever : TSD := fun _ _ _ => False
theorem ds_never : DS X E st dNever := ⟨(L2.ps_never (st := st)).imp fun D σ H ⟨F, M, G, τ, N, rs, rep, h, lk⟩ => h.elim⟩
theorem dss_never {sts : List Stmt} : DSs X E sts dNever := ⟨(L2.pss_never (sts := sts)).imp fun D σ H ⟨F, M, G, τ, N, rs, rep, h, lk⟩ => h.elim⟩
end
/-! ### targets -/
abbrev TGD := D → SD → MS → (SD → MS → Prop) → (SD → XD) → Prop
abbrev TGDs := List D → SD → MS → (SD → MS → Prop) → (SD → XD) → Prop
def upG (K : Frg) (E : L2.St → XK) (T : TGD) : TG := fun v σ H Q => ∃ F M G τ d N x, Rv K F v d ∧ Rs K F σ τ ∧ Rep K F M G H ∧ T d τ M N x ∧ KN K F G N Q ∧ KE K F G x E
def upGs (K : Frg) (E : L2.St → XK) (T : TGDs) : TGs := fun vs σ H Q => ∃ F M G τ ds N x, Rvs K F vs ds ∧ Rs K F σ τ ∧ Rep K F M G H ∧ T ds τ M N x ∧ KN K F G N Q ∧ KE K F G x E
structure DG (X : Cx) (E : L2.St → XK) (e : Expr) (T : TGD) : Prop where
  p : PG X e (upG X.K E T)
structure DGs (X : Cx) (E : L2.St → XK) (e : List Expr) (T : TGDs) : Prop where
  p : PGs X e (upGs X.K E T)
theorem _root_.L2.PG.imp {X : Cx} {e : Expr} {t t' : TG} (h : PG X e t) (i : ∀ v σ H Q, t' v σ H Q → t v σ H Q) : PG X e t' := ⟨fun pins s σ H v u Q I r q => h.run pins s σ H v u Q I r (i _ _ _ _ q)⟩
theorem _root_.L2.PGs.imp {X : Cx} {e : List Expr} {t t' : TGs} (h : PGs X e t) (i : ∀ v σ H Q, t' v σ H Q → t v σ H Q) : PGs X e t' := ⟨fun pins s σ H v u Q I r q => h.run pins s σ H v u Q I r (i _ _ _ _ q)⟩
section
variable {X : Cx} {E : L2.St → XK} {pos : Pos} {e : Expr} {es : List Expr} {T : TGD} {U : TGDs} {Te Ti To : TD}
def dgName (i : Nat) : TGD := fun d τ M N _ => N (τ.set i (some d)) M
theorem dg_name (i : Nat) {x : Str} (hN : X.N.Nodup) (hi : X.N[i]? = some x := by rfl) (hx : Loc X.env.scope x := by first | exact .inl rfl | exact .inr rfl) (hf : X.fn x = true ∨ X.env.scope.names.lookup x = some .local := by first | exact .inl rfl | exact .inr rfl | assumption) : DG X E (.Name x pos) (dgName i) :=
  ⟨(pg_name hN hi hx hf).imp fun v σ H Q ⟨F, M, G, τ, d, N, x, r, rs, rep, h, k, kx⟩ => k _ _ M F H h (L2.Same.refl F) rep (rs.set r i)⟩
def dgNil : TGDs := fun ds τ M N _ => match ds with
  | [] => N τ M
  | _ => False
def dgCons (T : TGD) (U : TGDs) : TGDs := fun ds τ M N x => match ds with
  | d :: r => T d τ M (fun τ1 M1 => U r τ1 M1 N x) x
  | [] => False
theorem dgs_nil : DGs X E [] dgNil := by
  refine ⟨pgs_nil.imp fun v σ H Q ⟨F, M, G, τ, ds, N, x, r, rs, rep, h, k, kx⟩ => ?_⟩
  cases r with
  | nil => exact ⟨rfl, k _ _ M F H h (L2.Same.refl F) rep rs⟩
  | cons _ _ => exact h.elim
theorem dgs_cons (h1 : DG X E e T) (h2 : DGs X E es U) (hs : (assignEach (e :: es) X.env).map (·.2) = assign e X.env :: (assignEach es X.env).map (·.2) := by rfl) : DGs X E (e :: es) (dgCons T U) := by
  refine ⟨(pgs_cons h1.p h2.p hs).imp fun v σ H Q ⟨F, M, G, τ, ds, N, x, r, rs, rep, h, k, kx⟩ => ?_⟩
  cases r with
  | nil => exact h.elim
  | cons a b =>
    refine ⟨_, _, rfl, F, M, G, τ, _, _, x, a, rs, rep, h, fun σ1 τ1 M1 F1 H1 q s1 rep1 rs1 => ?_, kx⟩
    exact ⟨F1, M1, G, τ1, _, N, x, b.mono s1, rs1, rep1, q, k.le s1, kx.le s1⟩
def dgTup (n : Nat) (U : TGDs) : TGD := fun d τ M N x => match vw M d with
  | .tup ds => ds.length = n ∧ U ds τ M N x
  | .lst ds => ds.length = n ∧ U ds τ M N x
  | _ => False
theorem dg_tup {K : Frg} (hk : X.K = K) {k n : Nat} (hc : X.calm = true) (h : DGs X E es U) (hn : (assignEach es X.env).length = n := by rfl) (hst : (assignEach es X.env).findIdx? (·.1) = none := by rfl) : DG X E (.Tuple es k pos) (dgTup n U) := by
  refine ⟨(pg_unp (K := X.K) rfl hc h.p hn hst).imp fun v σ H Q ⟨F, M, G, τ, d, N, x, r, rs, rep, h, k, kx⟩ => ?_⟩
  unfold dgTup at h
  split at h
  · rename_i ds e
    obtain ⟨a, vs, rfl, h1, r1⟩ := vw_tup rep r e
    exact ⟨a, vs, rfl, .inl (Same.sqT rep.fz h1), by rw [r1.len]; exact h.1, F, M, G, τ, ds, N, x, r1, rs, rep, h.2, k, kx⟩
  · rename_i ds e
    obtain ⟨a, vs, rfl, h1, r1⟩ := vw_lst rep r e
    exact ⟨a, vs, rfl, .inr (SqL.of h1), by rw [r1.len]; exact h.1, F, M, G, τ, ds, N, x, r1, rs, rep, h.2, k, kx⟩
  · exact h.elim
/-- xs[i] = .. of a list that may change -/
def dgSub (To Ti : TD) : TGD := fun d τ M N x => To τ M (fun o M1 => Ti τ M1 (fun i M2 => match o, i with
  | .ref a, .int k => (match M2 a with
    | some (.lst xs) => ∃ j, ixN xs.length k = some j ∧ N τ (updM M2 a (.lst (xs.set j d)))
    | _ => False)
  | _, _ => False) (x τ)) (x τ)
theorem dg_sub {o i : Expr} (ho : DE X E o To) (hi : DE X E i Ti) (ha : ∀ v, assign (.Subscript o i pos) X.env v = (do
      let ov ← holding [v] (eval o X.env)
      let iv ← holding [v, ov] (eval i X.env)
      standAt pos
      holding [v, ov, iv] (setItem ov iv v)
      release [v, ov, iv] []) := by intro _; rfl) : DG X E (.Subscript o i pos) (dgSub To Ti) := by
  refine ⟨(pg_sub ho.p hi.p set_list ha).imp fun v σ H Q ⟨F, M, G, τ, d, N, x, r, rs, rep, h, k, kx⟩ => ?_⟩
  refine ⟨F, M, G, τ, _, _, rs, rep, h, fun y M1 F1 H1 u q s1 rep1 r1 => ?_, kx.at rs⟩
  refine ⟨F1, M1, G, τ, _, _, rs.mono s1, rep1, q, fun z M2 F2 H2 w q2 s2 rep2 r2 => ?_, (kx.at rs).le s1⟩
  dsimp only at q2
  split at q2
  · cases r1; cases r2
    split at q2
    · rename_i xs e
      obtain ⟨j, hj, q2⟩ := q2
      obtain ⟨vs, e1, rr⟩ := rep2.lst e
      have s := s1.trans s2
      exact ⟨_, vs, _, j, rfl, rfl, e1, by rw [rr.len]; exact hj, k _ _ _ F2 _ q2 s (rep2.put e (o := .lst _) (m' := .lst _) (Rvs.set (r.mono s) j rr)) (rs.mono s)⟩
    · exact q2.elim
  · exact q2.elim
def dAsg (Te : TD) (T : TGD) : TSD := fun N τ M => Te τ M (fun d M1 => T d τ M1 N.nx N.ex) (N.ex τ)
theorem ds_asg {tg : Expr} (he : DE X E e Te) (hg : DG X E tg T) (hs : swapsWithSole [tg] e pos.line X.env = pure false := by rfl) (hw : swappedStores [tg] e X.env = pure none := by rfl)
    (h1 : (assignEach [tg] X.env).map (·.2) = [assign tg X.env] := by rfl) : DS X E (.Assign [tg] e pos) (dAsg Te T) :=
  ⟨(ps_asg he.p hg.p hs hw h1).imp fun D σ H ⟨F, M, G, τ, N, rs, rep, h, lk⟩ => ⟨F, M, G, τ, _, _, rs, rep, h, fun d M1 F1 H1 v q s1 rep1 r1 => ⟨F1, M1, G, τ, d, N.nx, N.ex, r1, rs.mono s1, rep1, q, lk.nx.le s1, lk.ex.le s1⟩, lk.ex.at rs⟩⟩
def dSet (i : Nat) (Te : TD) : TSD := fun N τ M => Te τ M (fun d M1 => N.nx (τ.set i (some d)) M1) (N.ex τ)
theorem ds_set (i : Nat) {x : Str} {pos' : Pos} (hN : X.N.Nodup) (he : DE X E e Te) (hi : X.N[i]? = some x := by rfl) (hx : Loc X.env.scope x := by first | exact .inl rfl | exact .inr rfl) (hs : swapsWith e (some (.Name x pos')) pos.line X.env = pure false := by rfl) (hf : X.fn x = true ∨ X.env.scope.names.lookup x = some .local := by first | exact .inl rfl | exact .inr rfl | assumption) :
    DS X E (.Assign [.Name x pos'] e pos) (dSet i Te) :=
  ⟨(ps_set hN hi hx he.p hs hf).imp fun D σ H ⟨F, M, G, τ, N, rs, rep, h, lk⟩ => ⟨F, M, G, τ, _, _, rs, rep, h, fun d M1 F1 H1 v q s1 rep1 r1 => lk.nx _ _ _ F1 _ q s1 rep1 ((rs.mono s1).set r1 i), lk.ex.at rs⟩⟩
/-- a, b = e1, e2 of plain names -/
def dPar (i j : Nat) (Ta : TAD) : TSD := fun N τ M => Ta τ M (fun ds M1 => match ds with
  | [d, e] => N.nx ((τ.set i (some d)).set j (some e)) M1
  | _ => False) (N.ex τ)
theorem ds_par {i j : Nat} {x y : Str} {a b : Expr} {Ta : TAD} {px py pt : Pos} {kt k2 pt2} (hN : X.N.Nodup) (ha : DAs X E [a, b] Ta) (p : ∀ {ta : TA}, PA X [a, b] ta → PS X (.Assign [.Tuple [.Name x px, .Name y py] kt pt] (.Tuple [a, b] k2 pt2) pos) (tPar i j ta)) : DS X E (.Assign [.Tuple [.Name x px, .Name y py] kt pt] (.Tuple [a, b] k2 pt2) pos) (dPar i j Ta) := by
  refine ⟨(p ha.p).imp fun D σ H ⟨F, M, G, τ, N, rs, rep, h, lk⟩ => ?_⟩
  refine ⟨F, M, G, τ, _, _, rs, rep, h, fun ds M1 F1 H1 v q s1 rep1 r1 => ?_, lk.ex.at rs⟩
  dsimp only at q
  split at q
  · cases r1 with
    | cons r1 r2 =>
      cases r2 with
      | cons r2 r3 =>
        cases r3
        exact ⟨_, _, rfl, lk.nx _ _ _ F1 _ q s1 rep1 (((rs.mono s1).set r1 i).set r2 j)⟩
  · exact q.elim
/-- x += e, x -= e of numbers -/
def dAug (f : Int → Int → Int) (i : Nat) (Te : TD) : TSD := fun N τ M => match τ[i]? with
  | some (some (.int x)) => Te τ M (fun d M1 => match d with
    | .int y => N.nx (τ.set i (some (.int (f x y)))) M1
    | _ => False) (N.ex τ)
  | _ => False
theorem ds_aug (i : Nat) {x : Str} {pos' : Pos} {op : Operator} {f : Int → Int → Int} (hN : X.N.Nodup) (he : DE X E e Te) (ho : PIp X op (ipI f)) (hi : X.N[i]? = some x := by rfl) (hx : Loc X.env.scope x := by first | exact .inl rfl | exact .inr rfl) (hf : X.fn x = true ∨ X.env.scope.names.lookup x = some .local := by first | exact .inl rfl | exact .inr rfl | assumption) :
    DS X E (.AugAssign (.Name x pos') op e pos) (dAug f i Te) := by
  refine ⟨(ps_aug hN hi hx he.p ho hf).imp fun D σ H ⟨F, M, G, τ, N, rs, rep, h, lk⟩ => ?_⟩
  unfold dAug at h
  split at h
  · rename_i z ez
    obtain ⟨v, ev, r⟩ := rs.at ez
    cases r
    refine ⟨_, ev, F, M, G, τ, _, _, rs, rep, h, fun d M1 F1 H1 v q s1 rep1 r1 => ?_, lk.ex.at rs⟩
    cases d <;> try exact q.elim
    cases r1
    exact ⟨_, _, rfl, rfl, lk.nx _ _ _ F1 _ q s1 rep1 ((rs.mono s1).set (.int _) i)⟩
  · exact h.elim
end
/-! ### what is walked -/
def ItOk (K : Frg) (G : Hp) (J : L2.It) (F : Hp) (ds : List D) : Prop := ∀ i F' M' H, L2.Same F F' → Rep K F' M' G H → i ≤ ds.length → (i = ds.length → J.stop i H) ∧
  (i < ds.length → J.go i H ∧ ∀ x H', J.yld i H x H' → ∃ F'' d, L2.Same F' F'' ∧ Rep K F'' M' G H' ∧ ds[i]? = some d ∧ Rv K F'' x d)
abbrev TID := SD → MS → (List D → MS → Prop) → XD → Prop
def upI (K : Frg) (E : L2.St → XK) (T : TID) : TI := fun σ H R => ∃ F M G τ Rd W, Rs K F σ τ ∧ Rep K F M G H ∧ T τ M Rd W ∧ (∀ ds M' F' H' J, Rd ds M' → L2.Same F F' → Rep K F' M' G H' → (∀ G', ItOk K G' J F' ds) → R J H') ∧ KX K F G W (E σ)
structure DI (X : Cx) (E : L2.St → XK) (tg e : Expr) (T : TID) : Prop where
  p : PI X tg e (upI X.K E T)
theorem _root_.L2.PI.imp {X : Cx} {tg e : Expr} {t t' : TI} (h : PI X tg e t) (i : ∀ σ H R, t' σ H R → t σ H R) : PI X tg e t' := ⟨fun pins s σ H Q I q => h.run pins s σ H Q I (i _ _ _ q)⟩
theorem itok_same {K : Frg} {G : Hp} {J : L2.It} {F : Hp} {ds : List D} {vs : List V} (r : Rvs K F vs ds) (h : ∀ F' M' H, L2.Same F F' → Rep K F' M' G H → ∀ i, (vs.length ≤ i → J.stop i H) ∧ (∀ x, vs[i]? = some x → J.go i H) ∧ ∀ x H', J.yld i H x H' → H' = H ∧ ∀ y, vs[i]? = some y → x = y) : ItOk K G J F ds := fun i F' M' H s rep hi => by
  obtain ⟨h1, h2, h3⟩ := h F' M' H s rep i
  have hl := r.len
  refine ⟨fun e => h1 (by omega), fun hlt => ?_⟩
  have e : vs[i]? = some (vs[i]'(by omega)) := List.getElem?_eq_getElem _
  obtain ⟨d, e2, r2⟩ := r.at e
  refine ⟨h2 _ e, fun x H' y => ?_⟩
  obtain ⟨eH, hx⟩ := h3 x H' y
  subst eH
  refine ⟨F', d, L2.Same.refl F', rep, e2, ?_⟩
  rw [hx _ e]
  exact r2.mono s
section
variable {X : Cx} {E : L2.St → XK} {pos : Pos} {tg e : Expr} {es : List Expr} {Te : TD} {Ta : TAD}
/-- a list, a tuple, a text, frozen -/
def dIt (T : TD) : TID := fun τ M R W => T τ M (fun d M1 => match d with
  | .lst xs => R xs M1
  | .tup xs => R xs M1
  | _ => False) W
theorem di_sq (h : DE X E e Te) : DI X E tg e (dIt Te) := by
  refine ⟨(pi_sq h.p).imp fun σ H R ⟨F, M, G, τ, Rd, W, rs, rep, h, k, kx⟩ => ?_⟩
  refine ⟨F, M, G, τ, _, W, rs, rep, h, fun d M1 F1 H1 v q s1 rep1 r1 => ?_, kx⟩
  cases r1 <;> try exact q.elim
  · rename_i a vs ds sq rr
    refine ⟨a, rfl, .inr ⟨⟨vs, Same.sqT rep1.fz sq⟩, k _ M1 F1 H1 _ q s1 rep1 fun G' => itok_same rr fun F' M' H s rep i => ?_⟩⟩
    have sq' : SqT X.K H a vs := Same.sqT rep.fz (Same.sqT s sq)
    exact ⟨fun hi => ⟨vs, sq', hi⟩, fun x hx => ⟨vs, x, sq', hx⟩, fun x H' ⟨e, y⟩ => ⟨e, fun z hz => by rw [y vs sq'] at hz; exact Option.some.inj hz⟩⟩
  · rename_i a vs ds sq rr
    refine ⟨a, rfl, .inl ⟨⟨vs, SqL.of (rep1.fz _ _ sq)⟩, k _ M1 F1 H1 _ q s1 rep1 fun G' => itok_same rr fun F' M' H s rep i => ?_⟩⟩
    have sq' : SqL X.K H a vs := SqL.of (rep.fz _ _ (s _ _ sq))
    exact ⟨fun hi => ⟨vs, sq', hi⟩, fun x hx => ⟨vs, x, sq', hx⟩, fun x H' ⟨e, y⟩ => ⟨e, fun z hz => by rw [y vs sq'] at hz; exact Option.some.inj hz⟩⟩
def rangeD (lo : Int) (n : Nat) : List D := (List.range n).map fun (i : Nat) => .int (lo + (i : Int))
theorem range_rv {K : Frg} {F : Hp} (lo : Int) (n : Nat) : Rvs K F ((List.range n).map fun (i : Nat) => V.int (lo + (i : Int))) (rangeD lo n) := by
  have key : ∀ l : List Nat, Rvs K F (l.map fun (i : Nat) => V.int (lo + (i : Int))) (l.map fun (i : Nat) => D.int (lo + (i : Int))) := by
    intro l
    induction l with
    | nil => exact .nil
    | cons a l ih => exact .cons (.int _) ih
  exact key _
theorem itok_range {K : Frg} {G F : Hp} (lo : Int) (n : Nat) : ItOk K G (L2.Itr lo n) F (rangeD lo n) := itok_same (range_rv lo n) fun F' M' H s rep i => by
  refine ⟨fun hi => by
    have hi' : n ≤ i := by simpa using hi
    exact hi', fun x hx => ?_, fun x H' ⟨e, y⟩ => ⟨e, fun z hz => ?_⟩⟩
  · have h1 := (List.getElem?_eq_some_iff.mp hx).1
    have h2 : i < n := by simpa using h1
    exact h2
  · rw [List.getElem?_map] at hz
    cases hr : (List.range n)[i]? with
    | none => rw [hr] at hz; cases hz
    | some j =>
      rw [hr] at hz
      have : j = i := by
        have h1 := (List.getElem?_eq_some_iff.mp hr).2
        rw [List.getElem_range] at h1
        exact h1.symm
      subst this
      cases hz
      exact y
def dRng1 (T : TAD) : TID := fun τ M R W => T τ M (fun ds M1 => match ds with
  | [.int j] => -(2 ^ 62) ≤ j ∧ j < 2 ^ 62 ∧ R (rangeD 0 j.toNat) M1
  | _ => False) W
def dRng2 (T : TAD) : TID := fun τ M R W => T τ M (fun ds M1 => match ds with
  | [.int i, .int j] => -(2 ^ 62) ≤ i ∧ i < 2 ^ 62 ∧ -(2 ^ 62) ≤ j ∧ j < 2 ^ 62 ∧ R (rangeD i (j - i).toNat) M1
  | _ => False) W
theorem di_rng1 {a : Expr} {p : Pos} (hm : X.mg "range" = none) (ha : DAs X E [a] Ta) (hg : Gl X "range" := by rfl) (hs : starEach [a] X.env = [(false, eval a X.env)] := by rfl) : DI X E tg (.Call (.Name "range" p) [a] [] pos) (dRng1 Ta) := by
  refine ⟨(pi_range1 hg hm ha.p hs).imp fun σ H R ⟨F, M, G, τ, Rd, W, rs, rep, h, k, kx⟩ => ?_⟩
  refine ⟨F, M, G, τ, _, W, rs, rep, h, fun d M1 F1 H1 v q s1 rep1 r1 => ?_, kx⟩
  dsimp only at q
  split at q
  · cases r1 with
    | cons r1 r2 =>
      cases r2; cases r1
      exact ⟨_, rfl, q.1, q.2.1, k _ M1 F1 H1 _ q.2.2 s1 rep1 fun G' => itok_range 0 _⟩
  · exact q.elim
theorem di_rng2 {a b : Expr} {p : Pos} (hm : X.mg "range" = none) (ha : DAs X E [a, b] Ta) (hg : Gl X "range" := by rfl) (hs : starEach [a, b] X.env = [(false, eval a X.env), (false, eval b X.env)] := by rfl) (hs2 : starEach [b] X.env = [(false, eval b X.env)] := by rfl) : DI X E tg (.Call (.Name "range" p) [a, b] [] pos) (dRng2 Ta) := by
  refine ⟨(pi_range2 hg hm ha.p hs hs2).imp fun σ H R ⟨F, M, G, τ, Rd, W, rs, rep, h, k, kx⟩ => ?_⟩
  refine ⟨F, M, G, τ, _, W, rs, rep, h, fun d M1 F1 H1 v q s1 rep1 r1 => ?_, kx⟩
  dsimp only at q
  split at q
  · cases r1 with
    | cons r1 r2 =>
      cases r2 with
      | cons r2 r3 =>
        cases r3; cases r2; cases r1
        exact ⟨_, _, rfl, ⟨q.1, q.2.1, q.2.2.1, q.2.2.2.1⟩, k _ M1 F1 H1 _ q.2.2.2.2 s1 rep1 fun G' => itok_range _ _⟩
  · exact q.elim
end
/-! ### loops -/
def dLoop (tg : TGD) (tb : TSD) (N : EndsD) : List D → SD → MS → Prop
  | [], τ, M => N.nx τ M
  | d :: r, τ, M => tg d τ M (fun τ1 M1 => tb { N with nx := dLoop tg tb N r, ct := dLoop tg tb N r, bk := N.nx } τ1 M1) N.ex
def dFor (ti : TID) (tg : TGD) (tb : TSD) : TSD := fun N τ M => ti τ M (fun ds M1 => dLoop tg tb N ds τ M1) (N.ex τ)
def dWh (c : TTD) (tb : TSD) (N : EndsD) : Nat → SD → MS → Prop
  | 0, _, _ => False
  | n + 1, τ, M => c τ M (fun b M1 => dIte b (tb { N with nx := dWh c tb N n, ct := dWh c tb N n, bk := N.nx } τ M1) (N.nx τ M1)) (N.ex τ)
def dWhile (c : TTD) (tb : TSD) : TSD := fun N τ M => ∃ n, dWh c tb N n τ M
section
variable {X : Cx} {E : L2.St → XK} {pos : Pos} {tg iter c : Expr} {body : List Stmt} {ti : TID} {g : TGD} {tb : TSD} {tc : TTD}
theorem ds_for (hp : PassesOwn (model X.prog X.w) X.A X.env X.xe) (hc : X.calm = true) (hi : DI X E tg iter ti) (hg : DG X E tg g) (hb : DSs X E body tb) (hs : ∀ x, foldedSetIterable iter X.env x = pure x := by intro _; rfl) : DS X E (.For tg iter body [] pos) (dFor ti g tb) := by
  refine ⟨(ps_for hp hc hi.p hg.p hb.p hs).imp fun D σ H ⟨F, M, G, τ, N, rs, rep, h, lk⟩ => ?_⟩
  refine ⟨F, M, G, τ, _, _, rs, rep, h, fun ds M1 F1 H1 J q s1 rep1 ok => ?_, lk.ex.at rs⟩
  have ok := ok G
  refine ⟨fun i m σ H => m = ds.length - i ∧ i ≤ ds.length ∧ ∃ F2 M2 τ2, L2.Same F1 F2 ∧ Rs X.K F2 σ τ2 ∧ Rep X.K F2 M2 G H ∧ dLoop g tb N (ds.drop i) τ2 M2, ⟨_, rfl, Nat.zero_le _, F1, M1, τ, L2.Same.refl F1, rs.mono s1, rep1, q⟩, ?_⟩
  rintro i m σ2 H2 ⟨rfl, hi, F2, M2, τ2, s2, rs2, rep2, q2⟩
  obtain ⟨o1, o2⟩ := ok i F2 M2 H2 s2 rep2 hi
  by_cases hlt : i < ds.length
  · obtain ⟨go, yld⟩ := o2 hlt
    refine .inr ⟨go, fun σ' H' => ∃ F3 M3 τ3, L2.Same F1 F3 ∧ Rs X.K F3 σ' τ3 ∧ Rep X.K F3 M3 G H' ∧ dLoop g tb N (ds.drop (i + 1)) τ3 M3, fun σ' H' z => ⟨ds.length - (i + 1), by omega, rfl, hlt, z⟩, fun x H' y => ?_⟩
    obtain ⟨F3, d, s3, rep3, e, r⟩ := yld x H' y
    have ed : ds.drop i = d :: ds.drop (i + 1) := by
      obtain ⟨h1, h2⟩ := List.getElem?_eq_some_iff.mp e
      rw [List.drop_eq_getElem_cons hlt, h2]
    rw [ed] at q2
    have s13 := s2.trans s3
    refine ⟨F3, M2, G, τ2, d, _, N.ex, r, rs2.mono s3, rep3, q2, fun σ4 τ4 M4 F4 H4 q4 s4 rep4 rs4 => ?_, lk.ex.le (s1.trans s13)⟩
    have s14 := s13.trans s4
    refine ⟨F4, M4, G, τ4, _, rs4, rep4, q4, ⟨?_, lk.rt.le (s1.trans s14), lk.nx.le (s1.trans s14), ?_, lk.ex.le (s1.trans s14)⟩⟩
    · exact fun σ5 τ5 M5 F5 H5 q5 s5 rep5 rs5 => ⟨F5, M5, τ5, s14.trans s5, rs5, rep5, q5⟩
    · exact fun σ5 τ5 M5 F5 H5 q5 s5 rep5 rs5 => ⟨F5, M5, τ5, s14.trans s5, rs5, rep5, q5⟩
  · have e : i = ds.length := by omega
    refine .inl ⟨o1 e, ?_⟩
    rw [e, List.drop_length] at q2
    exact lk.nx _ _ _ F2 _ q2 (s1.trans s2) rep2 rs2
theorem ds_while (hp : PassesOwn (model X.prog X.w) X.A X.env X.xe) (hc : DT X E c tc) (hb : DSs X E body tb) : DS X E (.While c body [] pos) (dWhile tc tb) := by
  refine ⟨(ps_while hp hc.p hb.p).imp fun D σ H ⟨F, M, G, τ, N, rs, rep, ⟨n, h⟩, lk⟩ => ?_⟩
  refine ⟨fun m σ H => ∃ F2 M2 τ2, L2.Same F F2 ∧ Rs X.K F2 σ τ2 ∧ Rep X.K F2 M2 G H ∧ dWh tc tb N m τ2 M2, ⟨n, F, M, τ, L2.Same.refl F, rs, rep, h⟩, ?_⟩
  rintro m σ2 H2 ⟨F2, M2, τ2, s2, rs2, rep2, q2⟩
  cases m with
  | zero => exact q2.elim
  | succ m =>
    refine ⟨F2, M2, G, τ2, _, _, rs2, rep2, q2, fun b M3 F3 H3 q3 s3 rep3 => ?_, (lk.ex.le s2).at rs2⟩
    have s23 := s2.trans s3
    cases b with
    | true =>
      refine iteT ⟨fun σ' H' => ∃ F3 M3 τ3, L2.Same F F3 ∧ Rs X.K F3 σ' τ3 ∧ Rep X.K F3 M3 G H' ∧ dWh tc tb N m τ3 M3, fun σ' H' z => ⟨m, Nat.lt_succ_self m, z⟩, F3, M3, G, τ2, _, rs2.mono s3, rep3, q3.1 rfl, ⟨?_, lk.rt.le s23, lk.nx.le s23, ?_, lk.ex.le s23⟩⟩
      · exact fun σ5 τ5 M5 F5 H5 q5 s5 rep5 rs5 => ⟨F5, M5, τ5, s23.trans s5, rs5, rep5, q5⟩
      · exact fun σ5 τ5 M5 F5 H5 q5 s5 rep5 rs5 => ⟨F5, M5, τ5, s23.trans s5, rs5, rep5, q5⟩
    | false => exact iteF (lk.nx _ _ _ F3 _ (q3.2 rfl) s23 rep3 (rs2.mono s3))
end
end RS

set_option maxRecDepth 100000
set_option maxHeartbeats 4000000
namespace RS
open PySem PySem.Spec PyProof.Rows L2 NdefX He PySem.W
variable [Tbls]
/-! ### targets of a comprehension: its own names alone -/
abbrev E0' : L2.St → XK := fun _ => E0
def KNw (K : Frg) (F G : Hp) (vs : List Nat) (σ : L2.St) (n : SD → MS → Prop) (q : L2.St → Hp → Prop) : Prop := ∀ σ' τ' M' F' H', wipe σ' vs = wipe σ vs → n τ' M' → L2.Same F F' → Rep K F' M' G H' → Rs K F' σ' τ' → q σ' H'
def upGw (K : Frg) (vs : List Nat) (T : TGD) : TG := fun v σ H Q => ∃ F M G τ d N, Rv K F v d ∧ Rs K F σ τ ∧ Rep K F M G H ∧ T d τ M N (fun _ => XF) ∧ KNw K F G vs σ N Q
def upGsw (K : Frg) (vs : List Nat) (T : TGDs) : TGs := fun v σ H Q => ∃ F M G τ d N, Rvs K F v d ∧ Rs K F σ τ ∧ Rep K F M G H ∧ T d τ M N (fun _ => XF) ∧ KNw K F G vs σ N Q
structure DGw (X : Cx) (vs : List Nat) (e : Expr) (T : TGD) : Prop where
  p : PG X e (upGw X.K vs T)
structure DGsw (X : Cx) (vs : List Nat) (e : List Expr) (T : TGDs) : Prop where
  p : PGs X e (upGsw X.K vs T)
theorem wipe_set {i : Nat} {v : Option V} : ∀ {vs : List Nat} {σ : L2.St}, i ∈ vs → wipe (σ.set i v) vs = wipe σ vs
  | j :: vs, σ, h => by
    show (wipe (σ.set i v) vs).set j none = (wipe σ vs).set j none
    by_cases hm : i ∈ vs
    · rw [wipe_set hm]
    · have e : i = j := by simpa [hm] using h
      subst e
      have com : ∀ {us : List Nat} {ρ : L2.St}, i ∉ us → wipe (ρ.set i v) us = (wipe ρ us).set i v := by
        intro us
        induction us with
        | nil => intro ρ _; rfl
        | cons k us ih =>
          intro ρ hk
          rw [List.mem_cons, not_or] at hk
          show (wipe (ρ.set i v) us).set k none = ((wipe ρ us).set k none).set i v
          rw [ih hk.2, List.set_comm _ _ hk.1]
      rw [com hm, List.set_set]
section
variable {X : Cx} {pos : Pos} {e : Expr} {es : List Expr} {T : TGD} {U : TGDs} {vs : List Nat}
theorem dgw_name (i : Nat) {x : Str} (hN : X.N.Nodup) (hm : i ∈ vs := by decide) (hi : X.N[i]? = some x := by rfl) (hx : Loc X.env.scope x := by first | exact .inl rfl | exact .inr rfl) (hf : X.fn x = true ∨ X.env.scope.names.lookup x = some .local := by first | exact .inl rfl | exact .inr rfl | assumption) : DGw X vs (.Name x pos) (dgName i) :=
  ⟨(pg_name hN hi hx hf).imp fun v σ H Q ⟨F, M, G, τ, d, N, r, rs, rep, h, k⟩ => k _ _ M F H (wipe_set hm) h (L2.Same.refl F) rep (rs.set r i)⟩
theorem dgsw_nil : DGsw X vs [] dgNil := by
  refine ⟨pgs_nil.imp fun v σ H Q ⟨F, M, G, τ, ds, N, r, rs, rep, h, k⟩ => ?_⟩
  cases r with
  | nil => exact ⟨rfl, k _ _ M F H rfl h (L2.Same.refl F) rep rs⟩
  | cons _ _ => exact h.elim
theorem dgsw_cons (h1 : DGw X vs e T) (h2 : DGsw X vs es U) (hs : (assignEach (e :: es) X.env).map (·.2) = assign e X.env :: (assignEach es X.env).map (·.2) := by rfl) : DGsw X vs (e :: es) (dgCons T U) := by
  refine ⟨(pgs_cons h1.p h2.p hs).imp fun v σ H Q ⟨F, M, G, τ, ds, N, r, rs, rep, h, k⟩ => ?_⟩
  cases r with
  | nil => exact h.elim
  | cons a b =>
    refine ⟨_, _, rfl, F, M, G, τ, _, _, a, rs, rep, h, fun σ1 τ1 M1 F1 H1 w1 q s1 rep1 rs1 => ?_⟩
    exact ⟨F1, M1, G, τ1, _, N, b.mono s1, rs1, rep1, q, fun σ' τ' M' F' H' w' n s' rep' rs' => k σ' τ' M' F' H' (w'.trans w1) n (s1.trans s') rep' rs'⟩
theorem dgw_tup {K : Frg} (hk : X.K = K) {k n : Nat} (hc : X.calm = true) (h : DGsw X vs es U) (hn : (assignEach es X.env).length = n := by rfl) (hst : (assignEach es X.env).findIdx? (·.1) = none := by rfl) : DGw X vs (.Tuple es k pos) (dgTup n U) := by
  refine ⟨(pg_unp (K := X.K) rfl hc h.p hn hst).imp fun v σ H Q ⟨F, M, G, τ, d, N, r, rs, rep, h, k⟩ => ?_⟩
  unfold dgTup at h
  split at h
  · rename_i ds e
    obtain ⟨a, ws, rfl, h1, r1⟩ := vw_tup rep r e
    exact ⟨a, ws, rfl, .inl (Same.sqT rep.fz h1), by rw [r1.len]; exact h.1, F, M, G, τ, ds, N, r1, rs, rep, h.2, k⟩
  · rename_i ds e
    obtain ⟨a, ws, rfl, h1, r1⟩ := vw_lst rep r e
    exact ⟨a, ws, rfl, .inr (SqL.of h1), by rw [r1.len]; exact h.1, F, M, G, τ, ds, N, r1, rs, rep, h.2, k⟩
  · exact h.elim
end
structure DTs (X : Cx) (E : L2.St → XK) (ifs : List Expr) (T : TTD) : Prop where
  p : PTs X ifs (upT X.K E T)
theorem _root_.L2.PTs.imp {X : Cx} {e : List Expr} {t t' : TT} (h : PTs X e t) (i : ∀ σ H Q, t' σ H Q → t σ H Q) : PTs X e t' := ⟨fun pins s σ H Q I q => h.run pins s σ H Q I (i _ _ _ q)⟩
def dYes : TTD := fun _ M R _ => R true M
theorem dts_nil {X : Cx} {E : L2.St → XK} : DTs X E [] dYes := ⟨pts_nil.imp fun σ H Q ⟨F, M, G, τ, R, W, rs, rep, h, k, kx⟩ => k true M F H h (L2.Same.refl F) rep⟩
theorem dts_one {X : Cx} {E : L2.St → XK} {c : Expr} {T : TTD} (h : DT X E c T) : DTs X E [c] T := ⟨pts_one h.p⟩
/-! ### comprehensions -/
def dLcL (g : TGD) (tt : TTD) (te : TD) (vs : List Nat) (τ : SD) (R : List D → MS → Prop) : List D → List D → MS → Prop
  | [], acc, M => R acc M
  | d :: r, acc, M => g d τ M (fun τ2 M2 => tt τ2 M2 (fun b M3 => dIte b (te τ2 M3 (fun y M4 => acc.length < sizeLine ∧ dLcL g tt te vs τ R r (acc ++ [y]) M4) XF) (dLcL g tt te vs τ R r acc M3)) XF) (fun _ => XF)
def dLc (ti : TID) (g : TGD) (tt : TTD) (te : TD) (vs : List Nat) : TD := fun τ M R W => ti τ M (fun ds M1 => dLcL g tt te vs (wipeD τ vs) (fun acc M2 => R (.lst acc) M2) ds [] M1) W
/-- .. a list that will change -/
def dLcM (ti : TID) (g : TGD) (tt : TTD) (te : TD) (vs : List Nat) : TD := fun τ M R W => ti τ M (fun ds M1 => dLcL g tt te vs (wipeD τ vs) (fun acc M2 => ∀ p, M2 p = none → R (.ref p) (updM M2 p (.lst acc))) ds [] M1) W
section
variable {X : Cx} {E : L2.St → XK} {ti : TID} {g : TGD} {tt : TTD} {te : TD} {vs : List Nat}
theorem up_lc {S : TD} (hS : S = dLc ti g tt te vs ∨ S = dLcM ti g tt te vs) {σ : L2.St} {H : Hp} {Q : VK} (h : up X.K E S σ H Q) : tLc (upI X.K E ti) (upGw X.K vs g) (upT X.K E0' tt) (up X.K E0' te) vs σ H Q := by
  obtain ⟨F, M, G, τ, R, W, rs, rep, h, k, kx⟩ := h
  obtain ⟨Re, hR, h⟩ : ∃ Re : List D → MS → Prop, (∀ acc M2 p F2 accV G H, Re acc M2 → Rvs X.K F2 accV acc → Rep X.K F2 M2 (upd G p (.lst accV)) H → G p = none → KQ X.K F2 G R Q → Q (.ref p) H) ∧ ti τ M (fun ds M1 => dLcL g tt te vs (wipeD τ vs) Re ds [] M1) W := by
    rcases hS with rfl | rfl
    · refine ⟨_, fun acc M2 p F2 accV G H hr rv rep gp k => ?_, h⟩
      obtain ⟨rep', s⟩ := rep.frzG gp
      exact k _ M2 _ H _ hr s rep' (.lst upd_same (rv.mono s))
    · refine ⟨_, fun acc M2 p F2 accV G H hr rv rep gp k => ?_, h⟩
      have hp := rep.fr p _ upd_same
      have mp : M2 p = none := by
        cases e : M2 p with
        | none => rfl
        | some m =>
          have := (rep.mu p m e).2.1
          rw [upd_same] at this
          cases this
      refine k _ _ F2 H _ (hr p mp) (L2.Same.refl F2) ⟨rep.fz, fun a m e => ?_, fun a o e => rep.fr a o ?_, rep.nt, fun a o e => rep.ng a o ?_, rep.tb⟩ (.ref p)
      · by_cases ha : a = p
        · subst ha
          rw [updM_same] at e
          cases e
          exact ⟨hp.2, gp, by rw [hp.1]; exact rv⟩
        · rw [updM_ne ha] at e
          obtain ⟨x, y, z⟩ := rep.mu a m e
          rw [upd_ne ha] at y
          exact ⟨x, y, z⟩
      · have ha : a ≠ p := by rintro rfl; rw [gp] at e; cases e
        rw [upd_ne ha]
        exact e
      · have ha : a ≠ p := by rintro rfl; rw [gp] at e; cases e
        rw [upd_ne ha]
        exact e
  refine ⟨F, M, G, τ, _, W, rs, rep, h, fun ds M1 F1 H1 J q s1 rep1 ok Dd hD => ?_, kx⟩
  have gD : G Dd = none := rep1.freeG hD
  refine ⟨fun i m H => m = ds.length - i ∧ i ≤ ds.length ∧ ∃ F2 M2 acc accV, L2.Same F1 F2 ∧ Rvs X.K F2 accV acc ∧ Rep X.K F2 M2 (upd G Dd (.lst accV)) H ∧ dLcL g tt te vs (wipeD τ vs) Re (ds.drop i) acc M2, ⟨_, rfl, Nat.zero_le _, F1, M1, [], [], L2.Same.refl F1, .nil, rep1.newG hD, q⟩, ?_⟩
  rintro i m H2 ⟨rfl, hi, F2, M2, acc, accV, s2, rv2, rep2, q2⟩
  obtain ⟨o1, o2⟩ := ok _ i F2 M2 H2 s2 rep2 hi
  by_cases hlt : i < ds.length
  · obtain ⟨go, yld⟩ := o2 hlt
    refine .inr ⟨go, fun H' => ∃ F3 M3 acc accV, L2.Same F1 F3 ∧ Rvs X.K F3 accV acc ∧ Rep X.K F3 M3 (upd G Dd (.lst accV)) H' ∧ dLcL g tt te vs (wipeD τ vs) Re (ds.drop (i + 1)) acc M3, fun H' z => ⟨ds.length - (i + 1), by omega, rfl, hlt, z⟩, fun x H' y => ?_⟩
    obtain ⟨F3, d, s3, rep3, e, r⟩ := yld x H' y
    have ed : ds.drop i = d :: ds.drop (i + 1) := by
      obtain ⟨h1, h2⟩ := List.getElem?_eq_some_iff.mp e
      rw [List.drop_eq_getElem_cons hlt, h2]
    rw [ed] at q2
    have rsw : Rs X.K F3 (wipe σ vs) (wipeD τ vs) := (((rs.mono s1).mono s2).mono s3).wipe vs
    refine ⟨F3, M2, _, wipeD τ vs, d, _, r, rsw, rep3, q2, fun σ4 τ4 M4 F4 H4 w4 q4 s4 rep4 rs4 => ⟨?_, ?_⟩⟩
    · rw [w4]
      have idem : ∀ (us : List Nat) (ρ : L2.St), wipe (wipe ρ us) us = wipe ρ us := by
        intro us ρ
        have fix : ∀ (ws : List Nat), (∀ j ∈ ws, j ∈ us) → wipe (wipe ρ us) ws = wipe ρ us := by
          intro ws
          induction ws with
          | nil => intro _; rfl
          | cons j ws ih =>
            intro hj
            show (wipe (wipe ρ us) ws).set j none = _
            rw [ih fun k hk => hj k (List.mem_cons_of_mem _ hk)]
            apply List.ext_getElem?
            intro n
            by_cases hn : j = n
            · subst hn
              by_cases hl : j < (wipe ρ us).length
              · rw [List.getElem?_set_self hl]
                cases hw : (wipe ρ us)[j]? with
                | none => exact absurd (List.getElem?_eq_none_iff.mp hw) (by omega)
                | some o =>
                  cases o with
                  | none => rfl
                  | some x => exact absurd (hj j (List.mem_cons_self ..)) (wipe_some hw).2
              · rw [List.getElem?_eq_none (by rw [List.length_set]; omega), List.getElem?_eq_none (by omega)]
            · rw [List.getElem?_set_ne hn]
        exact fix us fun _ h => h
      exact idem vs σ
    · refine ⟨F4, M4, _, τ4, _, XF, rs4, rep4, q4, fun b M5 F5 H5 q5 s5 rep5 => ?_, KX.none⟩
      have s15 := ((s2.trans s3).trans s4).trans s5
      cases b with
      | true =>
        refine iteT ⟨F5, M5, _, τ4, _, XF, rs4.mono s5, rep5, q5.1 rfl, fun y M6 F6 H6 v q6 s6 rep6 r6 => ?_, KX.none⟩
        have rv6 := (((rv2.mono s3).mono s4).mono s5).mono s6
        exact ⟨accV, (rep6.fr Dd _ upd_same).1, by rw [rv6.len]; exact q6.1, F6, M6, _, _, s15.trans s6, rv6.snoc r6, rep6.putG, q6.2⟩
      | false => exact iteF ⟨F5, M5, acc, accV, s15, ((rv2.mono s3).mono s4).mono s5, rep5, q5.2 rfl⟩
  · have e : i = ds.length := by omega
    refine .inl ⟨o1 e, ?_⟩
    rw [e, List.drop_length] at q2
    exact hR acc M2 Dd F2 accV G H2 q2 rv2 rep2 gD ((k.le s1).le s2)
variable {elt tg iter : Expr} {ifs : List Expr} {scope : Scope} {own : List (Str × Nat)} {pos : Pos}
theorem de_lc (hc : X.calm = true) (hN : X.N.Nodup) (hi : DI X E tg iter ti) (ok : BlkOk X.N X.env.scope scope own)
    (hg : ∀ (s : Shared) (H : Hp) (C : Addr) (cl : List (Str × Addr)) (fp : List Addr), DGw (X.blk s H scope (compEnvC scope cl C X.env) fp) (own.map (·.2)) tg g) (ht : ∀ (s : Shared) (H : Hp) (C : Addr) (cl : List (Str × Addr)) (fp : List Addr), DTs (X.blk s H scope (compEnvC scope cl C X.env) fp) E0' ifs tt)
    (he : ∀ (s : Shared) (H : Hp) (C : Addr) (cl : List (Str × Addr)) (fp : List Addr), DE (X.blk s H scope (compEnvC scope cl C X.env) fp) E0' elt te) (hs : ∀ x, foldedSetIterable iter X.env x = pure x := by intro _; rfl) :
    DE X E (.ListComp elt [⟨tg, iter, ifs, 0⟩] scope pos) (dLc ti g tt te (own.map (·.2))) :=
  ⟨(pe_lc (g := upGw X.K (own.map (·.2)) g) (tt := upT X.K E0' tt) (te := up X.K E0' te) hc hN hi.p ok (fun s H C cl fp => (hg s H C cl fp).p) (fun s H C cl fp => (ht s H C cl fp).p) (fun s H C cl fp => (he s H C cl fp).p) hs).imp fun σ H Q h => up_lc (.inl rfl) h⟩
theorem de_lcM (hc : X.calm = true) (hN : X.N.Nodup) (hi : DI X E tg iter ti) (ok : BlkOk X.N X.env.scope scope own)
    (hg : ∀ (s : Shared) (H : Hp) (C : Addr) (cl : List (Str × Addr)) (fp : List Addr), DGw (X.blk s H scope (compEnvC scope cl C X.env) fp) (own.map (·.2)) tg g) (ht : ∀ (s : Shared) (H : Hp) (C : Addr) (cl : List (Str × Addr)) (fp : List Addr), DTs (X.blk s H scope (compEnvC scope cl C X.env) fp) E0' ifs tt)
    (he : ∀ (s : Shared) (H : Hp) (C : Addr) (cl : List (Str × Addr)) (fp : List Addr), DE (X.blk s H scope (compEnvC scope cl C X.env) fp) E0' elt te) (hs : ∀ x, foldedSetIterable iter X.env x = pure x := by intro _; rfl) :
    DE X E (.ListComp elt [⟨tg, iter, ifs, 0⟩] scope pos) (dLcM ti g tt te (own.map (·.2))) :=
  ⟨(pe_lc (g := upGw X.K (own.map (·.2)) g) (tt := upT X.K E0' tt) (te := up X.K E0' te) hc hN hi.p ok (fun s H C cl fp => (hg s H C cl fp).p) (fun s H C cl fp => (ht s H C cl fp).p) (fun s H C cl fp => (he s H C cl fp).p) hs).imp fun σ H Q h => up_lc (.inr rfl) h⟩
/-- name = [..] on one line -/
theorem ds_setLc (i : Nat) {y : Str} {py : Pos} {spos : Pos} (hc : X.calm = true) (hN : X.N.Nodup) (hy : X.N[i]? = some y) (hyl : X.env.scope.names.lookup y = some .local)
    (hsw : swapsWith (.ListComp elt [⟨tg, iter, ifs, 0⟩] scope pos) (some (.Name y py)) spos.line X.env = pure true) (hi : DI X E tg iter ti) (ok : BlkOk X.N X.env.scope scope own)
    (hg : ∀ (s : Shared) (H : Hp) (C : Addr) (cl : List (Str × Addr)) (fp : List Addr), DGw (X.blk s H scope (compEnvC scope cl C X.env) fp) (own.map (·.2)) tg g) (ht : ∀ (s : Shared) (H : Hp) (C : Addr) (cl : List (Str × Addr)) (fp : List Addr), DTs (X.blk s H scope (compEnvC scope cl C X.env) fp) E0' ifs tt)
    (he : ∀ (s : Shared) (H : Hp) (C : Addr) (cl : List (Str × Addr)) (fp : List Addr), DE (X.blk s H scope (compEnvC scope cl C X.env) fp) E0' elt te) (hs : ∀ x, foldedSetIterable iter X.env x = pure x := by intro _; rfl) :
    DS X E (.Assign [.Name y py] (.ListComp elt [⟨tg, iter, ifs, 0⟩] scope pos) spos) (dSet i (dLc ti g tt te (own.map (·.2)))) := by
  refine ⟨(ps_setLc (g := upGw X.K (own.map (·.2)) g) (tt := upT X.K E0' tt) (te := up X.K E0' te) hc hN hy hyl hsw hi.p ok (fun s H C cl fp => (hg s H C cl fp).p) (fun s H C cl fp => (ht s H C cl fp).p) (fun s H C cl fp => (he s H C cl fp).p) hs).imp fun D σ H ⟨F, M, G, τ, N, rs, rep, h, lk⟩ => ?_⟩
  exact up_lc (E := E) (.inl rfl) ⟨F, M, G, τ, _, _, rs, rep, h, fun d M1 F1 H1 v q s1 rep1 r1 => lk.nx _ _ _ F1 _ q s1 rep1 ((rs.mono s1).set r1 i), lk.ex.at rs⟩
theorem ds_setLcM (i : Nat) {y : Str} {py : Pos} {spos : Pos} (hc : X.calm = true) (hN : X.N.Nodup) (hy : X.N[i]? = some y) (hyl : X.env.scope.names.lookup y = some .local)
    (hsw : swapsWith (.ListComp elt [⟨tg, iter, ifs, 0⟩] scope pos) (some (.Name y py)) spos.line X.env = pure true) (hi : DI X E tg iter ti) (ok : BlkOk X.N X.env.scope scope own)
    (hg : ∀ (s : Shared) (H : Hp) (C : Addr) (cl : List (Str × Addr)) (fp : List Addr), DGw (X.blk s H scope (compEnvC scope cl C X.env) fp) (own.map (·.2)) tg g) (ht : ∀ (s : Shared) (H : Hp) (C : Addr) (cl : List (Str × Addr)) (fp : List Addr), DTs (X.blk s H scope (compEnvC scope cl C X.env) fp) E0' ifs tt)
    (he : ∀ (s : Shared) (H : Hp) (C : Addr) (cl : List (Str × Addr)) (fp : List Addr), DE (X.blk s H scope (compEnvC scope cl C X.env) fp) E0' elt te) (hs : ∀ x, foldedSetIterable iter X.env x = pure x := by intro _; rfl) :
    DS X E (.Assign [.Name y py] (.ListComp elt [⟨tg, iter, ifs, 0⟩] scope pos) spos) (dSet i (dLcM ti g tt te (own.map (·.2)))) := by
  refine ⟨(ps_setLc (g := upGw X.K (own.map (·.2)) g) (tt := upT X.K E0' tt) (te := up X.K E0' te) hc hN hy hyl hsw hi.p ok (fun s H C cl fp => (hg s H C cl fp).p) (fun s H C cl fp => (ht s H C cl fp).p) (fun s H C cl fp => (he s H C cl fp).p) hs).imp fun D σ H ⟨F, M, G, τ, N, rs, rep, h, lk⟩ => ?_⟩
  exact up_lc (E := E) (.inr rfl) ⟨F, M, G, τ, _, _, rs, rep, h, fun d M1 F1 H1 v q s1 rep1 r1 => lk.nx _ _ _ F1 _ q s1 rep1 ((rs.mono s1).set r1 i), lk.ex.at rs⟩
end
end RS

set_option maxRecDepth 100000
set_option maxHeartbeats 4000000
namespace RS
open PySem PySem.Spec PyProof.Rows L2 NdefX He PySem.W
variable [Tbls]
/-! ### promises over data -/
abbrev SpD := List D → MS → (D → MS → Prop) → XD → Prop
def upSp (K : Frg) (S : SpD) : Sp := fun vs H Q E => ∃ F M G ds R W, Rvs K F vs ds ∧ Rep K F M G H ∧ S ds M R W ∧ KQ K F G R Q ∧ KX K F G W E
def startD (N : List Str) (ds : List D) : SD := ds.map some ++ List.replicate (N.length - ds.length) none
/-- what is not needed may be forgotten -/
def SubM (A B : MS) : Prop := ∀ a m, A a = some m → B a = some m
theorem SubM.refl (A : MS) : SubM A A := fun _ _ h => h
theorem SubM.trans {A B C : MS} (h : SubM A B) (k : SubM B C) : SubM A C := fun a m e => k a m (h a m e)
theorem SubM.new {A B : MS} {p : Addr} {m : MO} (h : SubM A B) (hp : A p = none) : SubM A (updM B p m) := fun a n e => by
  have ne : a ≠ p := by rintro rfl; rw [hp] at e; cases e
  rw [updM_ne ne]
  exact h a n e
theorem SubM.upd {A B : MS} {p : Addr} {m : MO} (h : SubM A B) : SubM (updM A p m) (updM B p m) := fun a n e => by
  by_cases ha : a = p
  · subst ha
    rw [updM_same] at e ⊢
    exact e
  · rw [updM_ne ha] at e ⊢
    exact h a n e
theorem SubM.del {A B : MS} {p : Addr} (h : SubM A B) (hp : A p = none) : SubM A (delM B p) := fun a n e => by
  have ne : a ≠ p := by rintro rfl; rw [hp] at e; cases e
  rw [delM_ne ne]
  exact h a n e
def Rt (R : D → MS → Prop) (d : D) (M : MS) : Prop := ∃ M', SubM M' M ∧ R d M'
def Wt (W : XD) : XD := fun C fs M => ∃ M', SubM M' M ∧ W C fs M'
theorem Rt.of {R : D → MS → Prop} {d : D} {M : MS} (h : R d M) : Rt R d M := ⟨M, SubM.refl M, h⟩
theorem Wt.of {W : XD} {C : Addr} {fs : List (Str × D)} {M : MS} (h : W C fs M) : Wt W C fs M := ⟨M, SubM.refl M, h⟩
/-- THE RULE for a def -/
theorem okD {P : Program} {w : World} {K : Frg} {mg : Str → Option Value} {base : Heap} {x qual : Str} {params : Arguments} {body : List Stmt} {scope : Scope} {dvs : List V} {kws : List (Str × V)} {f : Addr} {fd : FuncData} {N ps : List Str} {k : Nat} {S : SpD}
    (F : FunD K x qual params body scope dvs kws f fd) (sc : FnScope N ps scope) (len : ∀ ds M R W, S ds M R W → ds.length = ps.length)
    (hbody : ∀ (cdv : Value) (A : Around) (outer : List Env) (s : Shared) (H : Hp) (E : XK), Room k (A.deeper (envOfC qual scope s.heap.objs.size f cdv)) →
      (∀ σ, PassesAt (L2.CX P w) (cxOf (L2.CX P w) P w K mg base N qual scope f cdv A outer s H E) σ E) → Takes (cxOf (L2.CX P w) P w K mg base N qual scope f cdv A outer s H E) (fun c d _ H => E c d H) →
      ∃ T, DSs (cxOf (L2.CX P w) P w K mg base N qual scope f cdv A outer s H E) (fun _ => E) body T ∧ ∀ ds M R W, S ds M R W → T { nx := fun _ M' => Rt R .non M', rt := Rt R, ex := fun _ => Wt W } (startD N ds) M) : FnOk P w K mg base (L2.CX P w) (k + 1) f fd ps (upSp K S) := by
  refine F.ok sc (fun vs H Q E h => ?_) (fun cdv A outer s H vs Q E hr h => ?_)
  · obtain ⟨F, M, G, ds, R, W, r, rep, hs, _⟩ := h
    rw [r.len]
    exact len _ _ _ _ hs
  · obtain ⟨F, M, G, ds, R, W, r, rep, hs, k, kx⟩ := h
    have tk : Takes (cxOf (L2.CX P w) P w K mg base N qual scope f cdv A outer s H E) (fun c d _ H => E c d H) := takes_of rfl rfl rfl rfl
    obtain ⟨T, hT, hw⟩ := hbody cdv A outer s H E hr (fun σ => passAt tk σ) tk
    refine ⟨_, hT.p, F, M, G, startD N ds, _, Rs.start r, rep, hw ds M R W hs, ⟨?_, ?_, ?_, ?_, ?_⟩⟩
    · exact fun σ' τ' M' F' H' ⟨M2, sb, q⟩ s rep' _ => k _ M2 F' H' _ q s (rep'.weak sb) .non
    · exact fun d M' F' H' v ⟨M2, sb, q⟩ s rep' r => k _ M2 F' H' v q s (rep'.weak sb) r
    · exact fun _ _ _ _ _ z => z.elim
    · exact fun _ _ _ _ _ z => z.elim
    · exact fun σ' τ' F' s _ C fs M' F2 H' a ⟨M2, sb, q⟩ s2 rep' r => kx C fs M2 F2 H' a q (s.trans s2) (rep'.weak sb) r
section
variable {X : Cx} {E : L2.St → XK} {CX : CXT} {lv : Nat} {x m : Str} {C : Addr} {ps : List Str} {dvs : List V} {dds : List D} {S : SpD} {p pos apos : Pos} {e o : Expr} {es : List Expr} {Ta : TAD} {To : TD}
/-- defaults, as data wherever -/
def Dfl (K : Frg) (dvs : List V) (dds : List D) : Prop := ∀ F, Rvs K F dvs dds
theorem Dfl.nil {K : Frg} : Dfl K [] [] := fun _ => .nil
theorem run_fnD {sp : Sp} {E1 : XK} {f : Addr} {fd : FuncData} {ds : List Value} {pins : List (Addr × Obj)} {σ : L2.St} {H : Hp} {s : Shared} {Q : VK} {us : List Value} {vs : List V} (F : FnOk X.prog X.w X.K X.mg X.base CX lv f fd ps sp) (hr : Room lv X.A) (hb : Binds X.K fd ps ds) (hd : Vals dvs ds) (hx : PassesAt CX X σ E1)
    (I : Inv X pins σ H s) (r : Vals vs us) (h : sp (vs ++ dvs) H Q E1) : wpAny (model X.prog X.w) X.A (call (.ref f) us) (EP X pins σ Q) X.xe s := by
  have rr : Vals (vs ++ dvs) (us ++ ds) := r.append hd
  have len : (us ++ ds).length = ps.length := (rr.length.symm).trans (F.len _ _ _ _ h)
  have done := F.run X.A X.stack s H ⟨us, []⟩ (us ++ ds) (vs ++ dvs) Q E1 hr I.env0 (hb s us I.kIn len) rr h
  refine wpAny_call (codeAny_mono done fun r s' got => ?_)
  match r, got with
  | .error e, got => exact hx pins H s e s' I got
  | .ok (.ret u), got => exact I.after got
  | .ok .next, got => exact got.elim
  | .ok .brk, got => exact got.elim
  | .ok .cont, got => exact got.elim
def dCall (S : SpD) (dds : List D) (Ta : TAD) : TD := fun τ M R W => Ta τ M (fun ds M1 => S (ds ++ dds) M1 R W) W
theorem de_fn (F : Cal X.prog X.w X.K X.mg X.base CX lv x ps dvs (upSp X.K S)) (dd : Dfl X.K dvs dds) (hr : Room lv X.A) (hx : ∀ σ, PassesAt CX X σ (E σ)) (ha : DAs X E (e :: es) Ta) (hg : Gl X x := by rfl) (hdb : (x == ("__debug__" : Str)) = false := by decide)
    (he : starEach (e :: es) X.env = (false, eval e X.env) :: starEach es X.env := by rfl) (hpl : (backTo pos (starEach es X.env)).any (·.1) = false := by rfl) : DE X E (.Call (.Name x p) (e :: es) [] pos) (dCall S dds Ta) := by
  obtain ⟨f, fd, ds, FO, hm, hk, v, b⟩ := F.ex
  refine ⟨⟨fun pins s σ H Q I ⟨F, M, G, τ, R, W, rs, rep, h, k, kx⟩ => ?_⟩⟩
  refine wpAny_Call_Name_kw (ld_glob I hg hm ?_ hdb)
  have hA : upA X.K E Ta σ H (fun vs H1 => upSp X.K S (vs ++ dvs) H1 Q (E σ)) := ⟨F, M, G, τ, _, W, rs, rep, h, fun es' M1 F1 H1 vs q s1 rep1 r1 => ⟨F1, M1, G, _, R, W, r1.append (dd F1), rep1, q, k.le s1, kx.le s1⟩, kx⟩
  refine PySem.W.callWith_K (h₀ := X.base) I.ok.mod.kin hk (thn (ha.p.run pos pins s σ H _ I hA) fun us s1 ⟨vs, H1, I1, r, q⟩ => ⟨I1.kIn, ?_⟩) he hpl
  exact run_fnD FO hr b v (hx σ) I1 r q
theorem de_fn0 (F : Cal X.prog X.w X.K X.mg X.base CX lv x ps dvs (upSp X.K S)) (dd : Dfl X.K dvs dds) (hr : Room lv X.A) (hx : ∀ σ, PassesAt CX X σ (E σ)) (hg : Gl X x := by rfl) (hdb : (x == ("__debug__" : Str)) = false := by decide) : DE X E (.Call (.Name x p) [] [] pos) (dCall S dds dNil) := by
  obtain ⟨f, fd, ds, FO, hm, hk, v, b⟩ := F.ex
  refine ⟨⟨fun pins s σ H Q I ⟨F, M, G, τ, R, W, rs, rep, h, k, kx⟩ => ?_⟩⟩
  refine wpAny_Call_Name_kw (ld_glob I hg hm ?_ hdb)
  exact PySem.W.callWith_K0 I.kIn hk (run_fnD (us := []) (vs := []) FO hr b v (hx σ) I .nil ⟨F, M, G, _, R, W, dd F, rep, h, k, kx⟩)
/-- o.m(..), o an instance of the class at C -/
def dMeth (C : Addr) (m : Str) (S : SpD) (dds : List D) (To : TD) (Ta : TAD) : TD := fun τ M R W => To τ M (fun d M1 => match vw M1 d with
  | .ins C' gs => C' = C ∧ m ∉ gs.map (·.1) ∧ Ta τ M1 (fun ds M2 => S (d :: (ds ++ dds)) M2 R W) W
  | _ => False) W
theorem Rfs.no {K : Frg} {F : Hp} {m : Str} : ∀ {fs : List (Str × V)} {gs : List (Str × D)}, Rfs K F fs gs → m ∉ gs.map (·.1) → fs.lookup m = none
  | _, _, .nil, _ => rfl
  | _, _, .cons (k := g) x y, n => by
    rw [List.map_cons, List.mem_cons, not_or] at n
    rw [List.lookup_cons, beq_eq_false_iff_ne.mpr n.1]
    exact Rfs.no y n.2
theorem de_mt {pl : Sem Bool} (c : Cls X.K C) (F : Mtd X.prog X.w X.K X.mg X.base CX lv C m ps dvs (upSp X.K S)) (dd : Dfl X.K dvs dds) (hr : Room lv X.A) (hx : ∀ σ, PassesAt CX X σ (E σ)) (he : DE X E o To) (ha : DAs X E (e :: es) Ta)
    (hst : starEach (e :: es) X.env = (false, eval e X.env) :: starEach es X.env := by rfl) (hpl : (backTo pos (starEach es X.env)).any (·.1) = false := by rfl)
    (ht : eval (.Call (.Attribute o m apos) (e :: es) [] pos) X.env = (do
      let ov ← eval o X.env
      standAt apos.atName
      let (f, first) ← holding [ov] (getMethod ov m pl)
      callWith pos f first (backTo pos (starEach (e :: es) X.env)) (backToKw pos (keywordEach [] X.env))) := by rfl) : DE X E (.Call (.Attribute o m apos) (e :: es) [] pos) (dMeth C m S dds To Ta) := by
  obtain ⟨f, fd, ds, FO, hm, v, b⟩ := F.ex
  refine ⟨⟨fun pins s σ H Q I ⟨F, M, G, τ, R, W, rs, rep, h, k, kx⟩ => ?_⟩⟩
  have hO : up X.K E To σ H (fun x H1 => ∃ a dx fs, x = .ref a ∧ H1 a = some (.ins C dx fs) ∧ fs.lookup m = none ∧ upA X.K E Ta σ H1 (fun vs H2 => upSp X.K S (x :: (vs ++ dvs)) H2 Q (E σ))) := by
    refine ⟨F, M, G, τ, _, W, rs, rep, h, fun d M1 F1 H1 v q s1 rep1 r1 => ?_, kx⟩
    dsimp only at q
    split at q
    · rename_i C' gs e
      obtain ⟨rfl, nm, q⟩ := q
      obtain ⟨a, dx, fs, ev, e1, rr, _⟩ := vw_ins rep1 r1 e
      refine ⟨a, dx, fs, ev, e1, rr.no nm, F1, M1, G, τ, _, W, rs.mono s1, rep1, q, fun es' M2 F2 H2 vs q2 s2 rep2 r2 => ?_, kx.le s1⟩
      exact ⟨F2, M2, G, _, R, W, .cons (r1.mono s2) (r2.append (dd F2)), rep2, q2, (k.le s1).le s2, (kx.le s1).le s2⟩
    · exact q.elim
  refine PySem.W.methodCall_KW (pl := pl) (thn (he.p.run pins s σ H _ I hO) fun u s1 ⟨x, H1, I1, rx, a, dx, fs, ex, ea, l, q⟩ => ?_) ht
  subst ex
  obtain rfl : u = Value.ref a := rx
  refine getmeth_ok I1 ea c hm l ?_
  refine PySem.W.callWith_K (first := [.ref a]) (h₀ := X.base) I.ok.mod.kin hm.kp (thn (ha.p.run pos pins s1 σ H1 _ I1 q) fun us s2 ⟨vs, H2, I2, r, q2⟩ => ⟨I2.kIn, ?_⟩) hst hpl
  exact run_fnD (us := .ref a :: us) (vs := .ref a :: vs) FO hr b v (hx σ) I2 (.cons rfl r) q2
theorem de_mt0 {pl : Sem Bool} (c : Cls X.K C) (F : Mtd X.prog X.w X.K X.mg X.base CX lv C m ps dvs (upSp X.K S)) (dd : Dfl X.K dvs dds) (hr : Room lv X.A) (hx : ∀ σ, PassesAt CX X σ (E σ)) (he : DE X E o To)
    (ht : eval (.Call (.Attribute o m apos) [] [] pos) X.env = (do
      let ov ← eval o X.env
      standAt apos.atName
      let (f, first) ← holding [ov] (getMethod ov m pl)
      callWith pos f first (backTo pos (starEach [] X.env)) (backToKw pos (keywordEach [] X.env))) := by rfl) : DE X E (.Call (.Attribute o m apos) [] [] pos) (dMeth C m S dds To dNil) := by
  obtain ⟨f, fd, ds, FO, hm, v, b⟩ := F.ex
  refine ⟨⟨fun pins s σ H Q I ⟨F, M, G, τ, R, W, rs, rep, h, k, kx⟩ => ?_⟩⟩
  have hO : up X.K E To σ H (fun x H1 => ∃ a dx fs, x = .ref a ∧ H1 a = some (.ins C dx fs) ∧ fs.lookup m = none ∧ upSp X.K S (x :: dvs) H1 Q (E σ)) := by
    refine ⟨F, M, G, τ, _, W, rs, rep, h, fun d M1 F1 H1 v q s1 rep1 r1 => ?_, kx⟩
    dsimp only at q
    split at q
    · rename_i C' gs e
      obtain ⟨rfl, nm, q⟩ := q
      obtain ⟨a, dx, fs, ev, e1, rr, _⟩ := vw_ins rep1 r1 e
      exact ⟨a, dx, fs, ev, e1, rr.no nm, F1, M1, G, _, R, W, .cons r1 (dd F1), rep1, q, k.le s1, kx.le s1⟩
    · exact q.elim
  refine PySem.W.methodCall_KW (pl := pl) (thn (he.p.run pins s σ H _ I hO) fun u s1 ⟨x, H1, I1, rx, a, dx, fs, ex, ea, l, q⟩ => ?_) ht
  subst ex
  obtain rfl : u = Value.ref a := rx
  refine getmeth_ok I1 ea c hm l ?_
  exact PySem.W.callWith_K0 (first := [.ref a]) I1.kIn hm.kp (run_fnD (us := [.ref a]) (vs := [.ref a]) FO hr b v (hx σ) I1 (.cons rfl .nil) q)
/-- C(..): made by __init__, then it never changes -/
def dMake (C : Addr) (S : SpD) (dds : List D) (Ta : TAD) : TD := fun τ M R W => Ta τ M (fun ds M1 => ∀ p, M1 p = none → S (.ref p :: (ds ++ dds)) (updM M1 p (.ins C [])) (fun d M2 => (match d with | .non => True | _ => False) ∧ match M2 p with
  | some m => R m.d (delM M2 p)
  | none => False) (fun C' fs M2 => W C' fs (delM M2 p))) W
/-- .. that goes on changing -/
def dMakeM (C : Addr) (S : SpD) (dds : List D) (Ta : TAD) : TD := fun τ M R W => Ta τ M (fun ds M1 => ∀ p, M1 p = none → S (.ref p :: (ds ++ dds)) (updM M1 p (.ins C [])) (fun d M2 => (match d with | .non => True | _ => False) ∧ R (.ref p) M2) W) W
theorem run_makeD {f : Addr} {fd : FuncData} {dsv : List Value} {F : Hp} {M : MS} {G : Hp} {es' : List D} {R : D → MS → Prop} {W : XD} {R2 : Addr → D → MS → Prop} {W2 : Addr → XD} {pins : List (Addr × Obj)} {σ : L2.St} {H : Hp} {s : Shared} {Q : VK} {us : List Value} {vs : List V} (MK : Mk X.K C f) (FO : FnOk X.prog X.w X.K X.mg X.base CX lv f fd ps (upSp X.K S)) (hr : Room (lv + 1) X.A) (b : Binds X.K fd ps dsv) (hd : Vals dvs dsv) (dd : Dfl X.K dvs dds)
    (hx : PassesAt CX X σ (E σ)) (I : Inv X pins σ H s) (r : Vals vs us) (rv : Rvs X.K F vs es') (rep : Rep X.K F M G H) (k : KQ X.K F G R Q) (kx : KX X.K F G W (E σ))
    (h : ∀ p, M p = none → S (.ref p :: (es' ++ dds)) (updM M p (.ins C [])) (R2 p) (W2 p)) (h1 : ∀ p d M2, R2 p d M2 → d = .non ∧ (R (.ref p) M2 ∨ ∃ m, M2 p = some m ∧ R m.d (delM M2 p))) (h2 : ∀ p C' fs M2, W2 p C' fs M2 → W C' fs (delM M2 p) ∨ W C' fs M2) :
    wpAny (model X.prog X.w) X.A (call (.ref C) us) (EP X pins σ Q) X.xe s := by
  have nx := I.hok.fresh (Nat.le_succ s.heap.objs.size)
  have nd := I.hok.fresh (Nat.le_refl s.heap.objs.size)
  have rep0 : Rep X.K F M G (upd H s.heap.objs.size (.own (s.heap.objs.size + 1))) := rep.newN nd
  have nx' : upd H s.heap.objs.size (.own (s.heap.objs.size + 1)) (s.heap.objs.size + 1) = none := by rw [upd_ne (Nat.ne_of_gt (Nat.lt_succ_self _))]; exact nx
  have rep2 := rep0.newM (o := .ins C s.heap.objs.size []) (m := .ins C []) nx' ⟨rfl, .nil, .nil⟩
  have I2 := Inv.made (C := C) I
  have hq : upSp X.K S (V.ref (s.heap.objs.size + 1) :: (vs ++ dvs)) (upd (upd H s.heap.objs.size (.own (s.heap.objs.size + 1))) (s.heap.objs.size + 1) (.ins C s.heap.objs.size [])) (fun v H2 => v = .non ∧ Q (.ref (s.heap.objs.size + 1)) H2) (E σ) := by
    refine ⟨F, _, G, _, _, _, .cons (.ref _) (rv.append (dd F)), rep2, h _ (rep.freeM nx), fun d M2 F2 H2 v q s2 rep3 r3 => ?_, fun C' fs M2 F2 H2 a q s2 rep3 r3 => ?_⟩
    · obtain ⟨e0, z⟩ := h1 _ _ _ q
      subst e0
      cases r3
      rcases z with z | ⟨m, em, z⟩
      · exact ⟨rfl, k _ M2 F2 H2 _ z s2 rep3 (.ref _)⟩
      · obtain ⟨F3, s3, rep4, r4⟩ := rep3.frz em
        exact ⟨rfl, k _ _ F3 H2 _ z (s2.trans s3) rep4 r4⟩
    · rcases h2 _ _ _ _ q with q | q
      · refine kx C' fs _ F2 H2 a q s2 (rep3.weak fun b m e => ?_) r3
        unfold delM at e
        split at e
        · cases e
        · exact e
      · exact kx C' fs _ F2 H2 a q s2 rep3 r3
  have rr : Vals (V.ref (s.heap.objs.size + 1) :: (vs ++ dvs)) (Value.ref (s.heap.objs.size + 1) :: (us ++ dsv)) := .cons rfl (r.append hd)
  have len : (Value.ref (s.heap.objs.size + 1) :: us ++ dsv).length = ps.length := (rr.length.symm).trans (FO.len _ _ _ _ hq)
  have done := FO.run _ X.stack _ _ ⟨Value.ref (s.heap.objs.size + 1) :: us, []⟩ (Value.ref (s.heap.objs.size + 1) :: (us ++ dsv)) _ _ (E σ) (hr.make C us []) (I2.env0.make C us []) (b _ (Value.ref (s.heap.objs.size + 1) :: us) I2.kIn len) rr hq
  refine wpAny_call (make_map (f := f) I.kIn MK.makes MK.init (beq_iff_eq.mp MK.fn) (codeAny_mono done fun r s' got => ?_))
  match r, got with
  | .error e, got => exact hx pins _ _ e s' I2 got
  | .ok (.ret u), got =>
    obtain ⟨v, H', I3, rv, ev, q3⟩ := I2.after got
    subst ev
    exact ⟨rv, ⟨V.ref (s.heap.objs.size + 1), H', I3, rfl, q3⟩⟩
  | .ok .next, got => exact got.elim
  | .ok .brk, got => exact got.elim
  | .ok .cont, got => exact got.elim
theorem de_mk (F : Mkr X.prog X.w X.K X.mg X.base CX lv x C ps dvs (upSp X.K S)) (dd : Dfl X.K dvs dds) (hr : Room (lv + 1) X.A) (hx : ∀ σ, PassesAt CX X σ (E σ)) (ha : DAs X E (e :: es) Ta) (hg : Gl X x := by rfl) (hdb : (x == ("__debug__" : Str)) = false := by decide)
    (he : starEach (e :: es) X.env = (false, eval e X.env) :: starEach es X.env := by rfl) (hpl : (backTo pos (starEach es X.env)).any (·.1) = false := by rfl) : DE X E (.Call (.Name x p) (e :: es) [] pos) (dMake C S dds Ta) := by
  obtain ⟨f, fd, dsv, FO, MK, hm, v, b⟩ := F.ex
  refine ⟨⟨fun pins s σ H Q I ⟨F, M, G, τ, R, W, rs, rep, h, k, kx⟩ => ?_⟩⟩
  refine wpAny_Call_Name_kw (ld_glob I hg hm ?_ hdb)
  have hA : upA X.K E Ta σ H (fun vs H1 => ∃ F1 M1 es', L2.Same F F1 ∧ Rvs X.K F1 vs es' ∧ Rep X.K F1 M1 G H1 ∧ ∀ p, M1 p = none → S (.ref p :: (es' ++ dds)) (updM M1 p (.ins C [])) (fun d M2 => (match d with | .non => True | _ => False) ∧ match M2 p with
      | some m => R m.d (delM M2 p)
      | none => False) (fun C' fs M2 => W C' fs (delM M2 p))) := ⟨F, M, G, τ, _, W, rs, rep, h, fun es' M1 F1 H1 vs q s1 rep1 r1 => ⟨F1, M1, es', s1, r1, rep1, q⟩, kx⟩
  refine PySem.W.callWith_K (h₀ := X.base) I.ok.mod.kin MK.kp (thn (ha.p.run pos pins s σ H _ I hA) fun us s1 ⟨vs, H1, I1, r, F1, M1, es', s1', rv, rep1, q⟩ => ⟨I1.kIn, ?_⟩) he hpl
  refine run_makeD MK FO hr b v dd (hx σ) I1 r rv rep1 (k.le s1') (kx.le s1') q (fun p d M2 z => ?_) fun p C' fs M2 z => .inl z
  obtain ⟨z1, z2⟩ := z
  refine ⟨by cases d <;> first | rfl | exact z1.elim, .inr ?_⟩
  split at z2
  · rename_i m em
    exact ⟨m, em, z2⟩
  · exact z2.elim
theorem de_mkM (F : Mkr X.prog X.w X.K X.mg X.base CX lv x C ps dvs (upSp X.K S)) (dd : Dfl X.K dvs dds) (hr : Room (lv + 1) X.A) (hx : ∀ σ, PassesAt CX X σ (E σ)) (ha : DAs X E (e :: es) Ta) (hg : Gl X x := by rfl) (hdb : (x == ("__debug__" : Str)) = false := by decide)
    (he : starEach (e :: es) X.env = (false, eval e X.env) :: starEach es X.env := by rfl) (hpl : (backTo pos (starEach es X.env)).any (·.1) = false := by rfl) : DE X E (.Call (.Name x p) (e :: es) [] pos) (dMakeM C S dds Ta) := by
  obtain ⟨f, fd, dsv, FO, MK, hm, v, b⟩ := F.ex
  refine ⟨⟨fun pins s σ H Q I ⟨F, M, G, τ, R, W, rs, rep, h, k, kx⟩ => ?_⟩⟩
  refine wpAny_Call_Name_kw (ld_glob I hg hm ?_ hdb)
  have hA : upA X.K E Ta σ H (fun vs H1 => ∃ F1 M1 es', L2.Same F F1 ∧ Rvs X.K F1 vs es' ∧ Rep X.K F1 M1 G H1 ∧ ∀ p, M1 p = none → S (.ref p :: (es' ++ dds)) (updM M1 p (.ins C [])) (fun d M2 => (match d with | .non => True | _ => False) ∧ R (.ref p) M2) W) := ⟨F, M, G, τ, _, W, rs, rep, h, fun es' M1 F1 H1 vs q s1 rep1 r1 => ⟨F1, M1, es', s1, r1, rep1, q⟩, kx⟩
  refine PySem.W.callWith_K (h₀ := X.base) I.ok.mod.kin MK.kp (thn (ha.p.run pos pins s σ H _ I hA) fun us s1 ⟨vs, H1, I1, r, F1, M1, es', s1', rv, rep1, q⟩ => ⟨I1.kIn, ?_⟩) he hpl
  refine run_makeD (W2 := fun _ => W) MK FO hr b v dd (hx σ) I1 r rv rep1 (k.le s1') (kx.le s1') q (fun p d M2 z => ?_) fun p C' fs M2 z => .inr z
  obtain ⟨z1, z2⟩ := z
  exact ⟨by cases d <;> first | rfl | exact z1.elim, .inl z2⟩
/-- a property, one that raises nothing -/
def dProp (C : Addr) (S : SpD) (To : TD) : TD := fun τ M R W => To τ M (fun d M1 => match vw M1 d with
  | .ins C' _ => C' = C ∧ S [d] M1 R XF
  | _ => False) W
theorem de_pr (c : Cls X.K C) (F : Prp X.prog X.w X.K X.mg X.base CX lv C m ps [] (upSp X.K S)) (hr : Room (lv + 1) X.A) (hx : Passes CX X.nox E0) (he : DE X E e To) (hab : attributeBase e m X.env (eval e X.env) = eval e X.env := by rfl) :
    DE X E (.Attribute e m pos) (dProp C S To) := by
  obtain ⟨q, f, fd, ds, FO, hp, v, b⟩ := F.ex
  cases v
  refine ⟨(pe_prop he.p c hp FO hr b .nil hx hab).imp fun σ H Q ⟨F, M, G, τ, R, W, rs, rep, h, k, kx⟩ => ?_⟩
  refine ⟨F, M, G, τ, _, W, rs, rep, h, fun d M1 F1 H1 v q s1 rep1 r1 => ?_, kx⟩
  dsimp only at q
  split at q
  · rename_i C' gs e
    obtain ⟨rfl, q⟩ := q
    obtain ⟨a, dx, fs, rfl, e1, rr, _⟩ := vw_ins rep1 r1 e
    exact ⟨a, dx, fs, rfl, e1, F1, M1, G, _, R, XF, .cons r1 .nil, rep1, q, k.le s1, KX.none⟩
  · exact q.elim
end
end RS

set_option maxRecDepth 100000
set_option maxHeartbeats 4000000
namespace RS
open PySem PySem.Spec PyProof.Rows L2 NdefX He PySem.W
variable [Tbls]
/-! ### types of data -/
inductive Tag where
  | bt (t : BT) | own (C : Addr)
def Tag.v : Tag → Value
  | .bt t => .type t.name
  | .own C => .ref C
def tag (M : MS) (d : D) : Option Tag := match vw M d with
  | .non => some (.bt .none)
  | .bl _ => some (.bt .bool)
  | .int _ => some (.bt .int)
  | .str _ => some (.bt .str)
  | .tup _ => some (.bt .tuple)
  | .lst _ => some (.bt .list)
  | .dct _ => some (.bt .dict)
  | .ins C _ => some (.own C)
  | .ref _ => none
  | .ty _ => none
  | .exc _ _ _ _ => none
  | .scr _ => none
def TagOK (K : Frg) : Tag → Prop
  | .bt _ => True
  | .own C => IsiC K C
theorem tag_ty {K : Frg} {F : Hp} {M : MS} {G H : Hp} {v : V} {d : D} {t : Tag} (rep : Rep K F M G H) (r : Rv K F v d) (e : tag M d = some t) (ok : TagOK K t) : TyX K H v t.v := by
  unfold tag at e
  obtain ⟨F', _, s, r'⟩ := rv_vw rep r
  cases hd : vw M d <;> rw [hd] at e r' <;> cases e <;> cases r'
  · exact .base .non
  · exact .base (.bl _)
  · exact .base (.int _)
  · exact .base (.str _)
  · rename_i a vs sq r2
    rcases Same.sqT s sq with (h | ⟨o, h⟩) | ⟨o, its, n, h1, h2, _⟩
    · exact .base (.tup h)
    · exact .fTuple h
    · exact .kTuple h1 h2
  · rename_i a vs h r2
    exact .base (.lst (s _ _ h))
  · rename_i a vs h r2
    exact .base (.dK (s _ _ h))
  · rename_i a dx fs h n r2
    exact IsiC.ty ok (s _ _ h)
/-! ### isinstance -/
def isBB : BT → BT → Bool
  | .bool, .int => true
  | .int, .int => true
  | .bool, .bool => true
  | .str, .str => true
  | .tuple, .tuple => true
  | .list, .list => true
  | .dict, .dict => true
  | .none, .none => true
  | .verr, .verr => true
  | _, _ => false
theorem isBB_ok {K : Frg} (a b : BT) : PySem.W.kitOne K (.type a.name) (.type b.name) = some (isBB a b) := by
  apply kit_ty
  cases a <;> cases b <;> decide +kernel
/-- what isinstance answers for a type and a class -/
def IsA (K : Frg) (t c : Tag) (b : Bool) : Prop := PySem.W.kitOne K t.v c.v = some b
def clsTag : D → Option Tag
  | .ty t => some (.bt t)
  | .ref C => some (.own C)
  | _ => none
def dIsi1 (K : Frg) (t c : Tag) (k : Bool → Prop) : Prop := match t, c with
  | .bt a, .bt b => k (isBB a b)
  | t, c => ∃ b, IsA K t c b ∧ k b
theorem dIsi1.ok {K : Frg} {t c : Tag} {k : Bool → Prop} (h : dIsi1 K t c k) : ∃ b, IsA K t c b ∧ k b := by
  unfold dIsi1 at h
  split at h
  · exact ⟨_, isBB_ok _ _, h⟩
  · exact h
def dIsi (K : Frg) (ds : List D) (M : MS) (R : D → MS → Prop) : Prop := match ds with
  | [x, c] => (match tag M x, clsTag c with
    | some t, some c => TagOK K t ∧ dIsi1 K t c fun b => R (.bl b) M
    | _, _ => False)
  | _ => False
/-- a built-in's answer over data -/
def RC (K : Frg) (r : List V → Hp → VK → Prop) (f : List D → MS → (D → MS → Prop) → Prop) : Prop := ∀ F M G H vs ds R Q, Rvs K F vs ds → Rep K F M G H → f ds M R → KQ K F G R Q → r vs H Q
theorem rv_clsTag {K : Frg} {F : Hp} {v : V} {c : D} {t : Tag} (r : Rv K F v c) (e : clsTag c = some t) : ClsV v t.v := by
  cases r <;> cases e
  · exact .ty _
  · exact .own _
theorem rc_isi {K : Frg} : RC K (rIsi K) (dIsi K) := fun F M G H vs ds R Q r rep h k => by
  unfold dIsi at h
  split at h
  · cases r with
    | cons r1 r2 =>
      cases r2 with
      | cons r2 r3 =>
        cases r3
        split at h
        · rename_i t c e1 e2
          obtain ⟨ok, h⟩ := h
          obtain ⟨b, hb, h⟩ := h.ok
          exact ⟨_, _, _, _, b, rfl, rv_clsTag r2 e2, tag_ty rep r1 e1 ok, hb, k _ M F H _ h (L2.Same.refl F) rep (.bl _)⟩
        · exact h.elim
  · exact h.elim
/-- isinstance(x, (c1, c2)) -/
def dIsiT (K : Frg) (x c1 c2 : D) (M : MS) (R : D → MS → Prop) : Prop := match tag M x, clsTag c1, clsTag c2 with
  | some t, some c1, some c2 => TagOK K t ∧ dIsi1 K t c1 fun b => dIsi1 K t c2 fun b' => R (.bl (b || b')) M
  | _, _, _ => False
section
variable {X : Cx} {E : L2.St → XK} {pos p : Pos} {x : Str} {e e1 e2 o : Expr} {es : List Expr} {Ta : TAD} {T T1 T2 To : TD}
theorem de_isiT {K : Frg} (hk : X.K = K) {k1 pp} (hm : X.mg "isinstance" = none) (he : DE X E e T) (h1 : DE X E e1 T1) (h2 : DE X E e2 T2) (hg : Gl X "isinstance" := by rfl)
    (s1 : starEach [e, .Tuple [e1, e2] k1 pp] X.env = (false, eval e X.env) :: starEach [.Tuple [e1, e2] k1 pp] X.env := by rfl) (s2 : (backTo pos (starEach [.Tuple [e1, e2] k1 pp] X.env)).any (·.1) = false := by rfl)
    (s3 : starEach [.Tuple [e1, e2] k1 pp] X.env = (false, eval (.Tuple [e1, e2] k1 pp) X.env) :: starEach [] X.env := by rfl) (s4 : starEach [e1, e2] X.env = (false, eval e1 X.env) :: starEach [e2] X.env := by rfl) (s5 : starEach [e2] X.env = (false, eval e2 X.env) :: starEach [] X.env := by rfl) :
    DE X E (.Call (.Name "isinstance" p) [e, .Tuple [e1, e2] k1 pp] [] pos) (fun τ M R W => T τ M (fun x M1 => T1 τ M1 (fun c1 M2 => T2 τ M2 (fun c2 M3 => dIsiT K x c1 c2 M3 R) W) W) W) := by
  subst hk
  refine ⟨(pe_callB call_isiT hg hm (by decide +kernel) (pa_cons he.p (pa_cons (pe_tup (pa_cons h1.p (pa_cons h2.p pa_nil s5) s4)) pa_nil s3) s1) (by decide) (by decide) s1 s2).imp fun σ H Q ⟨F, M, G, τ, R, W, rs, rep, h, k, kx⟩ => ?_⟩
  refine ⟨F, M, G, τ, _, W, rs, rep, h, fun d M1 F1 H1 v q q1 rep1 r1 => ?_, kx⟩
  refine ⟨F1, M1, G, τ, _, W, rs.mono q1, rep1, q, fun c1 M2 F2 H2 v1 qq q2 rep2 r2 => ?_, kx.le q1⟩
  refine ⟨F2, M2, G, τ, _, W, (rs.mono q1).mono q2, rep2, qq, fun c2 M3 F3 H3 v2 h q3 rep3 r3 => ?_, (kx.le q1).le q2⟩
  refine ⟨by show 2 ≤ sizeLine; rw [sizeLine_eq]; decide, fun pt hp => ?_⟩
  dsimp only [dIsiT] at h
  split at h
  · rename_i t t1 t2 z1 z2 z3
    obtain ⟨ok, h⟩ := h
    obtain ⟨b, hb, h⟩ := h.ok
    obtain ⟨b', hb', h⟩ := h.ok
    have ha : PySem.W.kitAny X.K t.v [t1.v, t2.v] = some (b || b') := kitAny_cons (b := b) hb (fun e => by subst e; exact kitAny_cons (b := b') hb' (fun e => by subst e; exact kitAny_nil) fun e => by subst e; rfl) fun e => by subst e; rfl
    obtain ⟨rep4, s4⟩ := rep3.newF (o := .tup [v1, v2]) hp
    have r1' := ((r1.mono q2).mono q3).mono s4
    exact ⟨v, pt, [v1, v2], _, _, _, rfl, upd_same, .cons (rv_clsTag r2 z2) (.cons (rv_clsTag r3 z3) .nil), tag_ty rep4 r1' z1 ok, ha, k _ M3 _ _ _ h (((q1.trans q2).trans q3).trans s4) rep4 (.bl _)⟩
  · exact h.elim
/-! ### built-ins by name -/
def dBi (f : List D → MS → (D → MS → Prop) → Prop) (Ta : TAD) : TD := fun τ M R W => Ta τ M (fun ds M1 => f ds M1 R) W
variable {r : List V → Hp → VK → Prop} {f : List D → MS → (D → MS → Prop) → Prop} {id T0 : String}
theorem de_bi (hc : CallR X (.builtin id) r) (hf : RC X.K r f) (hm : X.mg x = none) (hv : bootBuiltins x = some (.builtin id)) (ha : DAs X E (e :: es) Ta) (hg : Gl X x := by rfl) (hn : x ≠ "__name__" := by decide) (hdb : (x == ("__debug__" : Str)) = false := by decide)
    (he : starEach (e :: es) X.env = (false, eval e X.env) :: starEach es X.env := by rfl) (hpl : (backTo pos (starEach es X.env)).any (·.1) = false := by rfl) : DE X E (.Call (.Name x p) (e :: es) [] pos) (dBi f Ta) := by
  refine ⟨(pe_callB hc hg hm hv ha.p hn hdb he hpl).imp fun σ H Q ⟨F, M, G, τ, R, W, rs, rep, h, k, kx⟩ => ?_⟩
  exact ⟨F, M, G, τ, _, W, rs, rep, h, fun ds M1 F1 H1 vs q s1 rep1 r1 => hf F1 M1 G H1 vs ds R Q r1 rep1 q (k.le s1), kx⟩
theorem de_bt (hc : CallR X (.type T0) r) (hf : RC X.K r f) (hm : X.mg x = none) (hv : bootBuiltins x = some (.type T0)) (ha : DAs X E (e :: es) Ta) (hg : Gl X x := by rfl) (hn : x ≠ "__name__" := by decide) (hdb : (x == ("__debug__" : Str)) = false := by decide)
    (he : starEach (e :: es) X.env = (false, eval e X.env) :: starEach es X.env := by rfl) (hpl : (backTo pos (starEach es X.env)).any (·.1) = false := by rfl) : DE X E (.Call (.Name x p) (e :: es) [] pos) (dBi f Ta) := by
  refine ⟨(pe_callTy hc hg hm hv ha.p hn hdb he hpl).imp fun σ H Q ⟨F, M, G, τ, R, W, rs, rep, h, k, kx⟩ => ?_⟩
  exact ⟨F, M, G, τ, _, W, rs, rep, h, fun ds M1 F1 H1 vs q s1 rep1 r1 => hf F1 M1 G H1 vs ds R Q r1 rep1 q (k.le s1), kx⟩
end
section
variable {K : Frg}
def dLen (ds : List D) (M : MS) (R : D → MS → Prop) : Prop := match ds with
  | [d] => (match vw M d with
    | .lst xs => R (.int xs.length) M
    | .tup xs => R (.int xs.length) M
    | .str x => x.length ≤ sizeLine ∧ R (.int x.length) M
    | _ => False)
  | _ => False
theorem rc_len : RC K (fun xs H Q => ∃ x n, xs = [x] ∧ LenV K x H n ∧ Q (.int n) H) dLen := fun F M G H vs ds R Q r rep h k => by
  unfold dLen at h
  split at h
  · cases r with
    | cons r1 r2 =>
      cases r2
      split at h
      · rename_i e
        obtain ⟨a, vs, rfl, h1, rr⟩ := vw_lst rep r1 e
        exact ⟨_, _, rfl, .inl ⟨vs, SqL.of h1, rr.len.symm⟩, k _ M F H _ h (L2.Same.refl F) rep (.int _)⟩
      · rename_i e
        obtain ⟨a, vs, rfl, h1, rr⟩ := vw_tup rep r1 e
        exact ⟨_, _, rfl, .inr ⟨vs, Same.sqT rep.fz h1, rr.len.symm⟩, k _ M F H _ h (L2.Same.refl F) rep (.int _)⟩
      · rename_i e
        cases vw_str r1 e
        exact ⟨_, _, rfl, ⟨h.1, rfl⟩, k _ M F H _ h.2 (L2.Same.refl F) rep (.int _)⟩
      · exact h.elim
  · exact h.elim
def dAbs (ds : List D) (M : MS) (R : D → MS → Prop) : Prop := match ds with
  | [.int i] => R (.int (if i < 0 then -i else i)) M
  | _ => False
theorem rc_abs : RC K (fun xs H Q => ∃ i, xs = [.int i] ∧ Q (.int (if i < 0 then -i else i)) H) dAbs := fun F M G H vs ds R Q r rep h k => by
  unfold dAbs at h
  split at h
  · cases r with
    | cons r1 r2 => cases r2; cases r1; exact ⟨_, rfl, k _ M F H _ h (L2.Same.refl F) rep (.int _)⟩
  · exact h.elim
def dInt (ds : List D) (M : MS) (R : D → MS → Prop) : Prop := match ds with
  | [.int i] => R (.int i) M
  | [.bl b] => R (.int (if b then 1 else 0)) M
  | _ => False
theorem rc_int : RC K (fun xs H Q => (∃ i, xs = [.int i] ∧ Q (.int i) H) ∨ ∃ k, xs = [.bl k] ∧ Q (.int (if k then 1 else 0)) H) dInt := fun F M G H vs ds R Q r rep h k => by
  unfold dInt at h
  split at h
  · cases r with
    | cons r1 r2 => cases r2; cases r1; exact .inl ⟨_, rfl, k _ M F H _ h (L2.Same.refl F) rep (.int _)⟩
  · cases r with
    | cons r1 r2 => cases r2; cases r1; exact .inr ⟨_, rfl, k _ M F H _ h (L2.Same.refl F) rep (.int _)⟩
  · exact h.elim
def dBool (ds : List D) (M : MS) (R : D → MS → Prop) : Prop := match ds with
  | [.int i] => R (.bl (i != 0)) M
  | [.bl b] => R (.bl b) M
  | _ => False
theorem rc_bool : RC K (fun xs H Q => (∃ i, xs = [.int i] ∧ Q (.bl (i != 0)) H) ∨ ∃ k, xs = [.bl k] ∧ Q (.bl k) H) dBool := fun F M G H vs ds R Q r rep h k => by
  unfold dBool at h
  split at h
  · cases r with
    | cons r1 r2 => cases r2; cases r1; exact .inl ⟨_, rfl, k _ M F H _ h (L2.Same.refl F) rep (.bl _)⟩
  · cases r with
    | cons r1 r2 => cases r2; cases r1; exact .inr ⟨_, rfl, k _ M F H _ h (L2.Same.refl F) rep (.bl _)⟩
  · exact h.elim
def dStrI (ds : List D) (M : MS) (R : D → MS → Prop) : Prop := match ds with
  | [.int i] => i.natAbs.log2 < 1920 ∧ R (.str (toString i)) M
  | _ => False
theorem rc_strI : RC K (fun xs H Q => ∃ i, xs = [.int i] ∧ i.natAbs.log2 < 1920 ∧ Q (.str (toString i)) H) dStrI := fun F M G H vs ds R Q r rep h k => by
  unfold dStrI at h
  split at h
  · cases r with
    | cons r1 r2 => cases r2; cases r1; exact ⟨_, rfl, h.1, k _ M F H _ h.2 (L2.Same.refl F) rep (.str _)⟩
  · exact h.elim
def dList (ds : List D) (M : MS) (R : D → MS → Prop) : Prop := match ds with
  | [d] => (match vw M d with
    | .lst xs => R (.lst xs) M
    | .tup xs => R (.lst xs) M
    | _ => False)
  | _ => False
def dListM (ds : List D) (M : MS) (R : D → MS → Prop) : Prop := match ds with
  | [d] => (match vw M d with
    | .lst xs => ∀ p, M p = none → R (.ref p) (updM M p (.lst xs))
    | .tup xs => ∀ p, M p = none → R (.ref p) (updM M p (.lst xs))
    | _ => False)
  | _ => False
theorem rc_list : RC K (fun xs H Q => ∃ p ys, xs = [.ref p] ∧ (SqL K H p ys ∨ SqT K H p ys) ∧ ∀ l, H l = none → Q (.ref l) (upd H l (.lst ys))) dList := fun F M G H vs ds R Q r rep h k => by
  unfold dList at h
  split at h
  · cases r with
    | cons r1 r2 =>
      cases r2
      split at h
      · rename_i e
        obtain ⟨a, vs, rfl, h1, rr⟩ := vw_lst rep r1 e
        exact ⟨_, _, rfl, .inl (SqL.of h1), fun l hl => new_lst rep hl rr k h⟩
      · rename_i e
        obtain ⟨a, vs, rfl, h1, rr⟩ := vw_tup rep r1 e
        exact ⟨_, _, rfl, .inr (Same.sqT rep.fz h1), fun l hl => new_lst rep hl rr k h⟩
      · exact h.elim
  · exact h.elim
theorem rc_listM : RC K (fun xs H Q => ∃ p ys, xs = [.ref p] ∧ (SqL K H p ys ∨ SqT K H p ys) ∧ ∀ l, H l = none → Q (.ref l) (upd H l (.lst ys))) dListM := fun F M G H vs ds R Q r rep h k => by
  unfold dListM at h
  split at h
  · cases r with
    | cons r1 r2 =>
      cases r2
      split at h
      · rename_i e
        obtain ⟨a, vs, rfl, h1, rr⟩ := vw_lst rep r1 e
        exact ⟨_, _, rfl, .inl (SqL.of h1), fun l hl => new_mlst rep hl rr k h⟩
      · rename_i e
        obtain ⟨a, vs, rfl, h1, rr⟩ := vw_tup rep r1 e
        exact ⟨_, _, rfl, .inr (Same.sqT rep.fz h1), fun l hl => new_mlst rep hl rr k h⟩
      · exact h.elim
  · exact h.elim
def dTuple (ds : List D) (M : MS) (R : D → MS → Prop) : Prop := match ds with
  | [d] => (match vw M d with
    | .lst xs => R (.tup xs) M
    | .tup xs => R (.tup xs) M
    | _ => False)
  | _ => False
theorem rc_tuple : RC K (fun xs H Q => ∃ p ys, xs = [.ref p] ∧ ((SqL K H p ys ∧ ∀ l, H l = none → Q (.ref l) (upd H l (.tup ys))) ∨ (SqT K H p ys ∧ Q (.ref p) H))) dTuple := fun F M G H vs ds R Q r rep h k => by
  unfold dTuple at h
  split at h
  · cases r with
    | cons r1 r2 =>
      cases r2
      split at h
      · rename_i e
        obtain ⟨a, vs, rfl, h1, rr⟩ := vw_lst rep r1 e
        exact ⟨_, _, rfl, .inl ⟨SqL.of h1, fun l hl => new_tup rep hl rr k h⟩⟩
      · rename_i e
        obtain ⟨a, vs, rfl, h1, rr⟩ := vw_tup rep r1 e
        exact ⟨_, _, rfl, .inr ⟨Same.sqT rep.fz h1, k _ M F H _ h (L2.Same.refl F) rep (.tup h1 rr)⟩⟩
      · exact h.elim
  · exact h.elim
def bools : List D → Option (List Bool)
  | [] => some []
  | .bl b :: r => (bools r).map (b :: ·)
  | _ => none
theorem bools_rv {F : Hp} : ∀ {vs : List V} {ds : List D} {bs : List Bool}, Rvs K F vs ds → bools ds = some bs → vs = bs.map V.bl
  | _, [], bs, .nil, e => by cases e; rfl
  | _, d :: ds, bs, .cons r rs, e => by
    cases d <;> first | (simp only [bools] at e; cases e; done) | skip
    cases r
    unfold bools at e
    cases h : bools ds with
    | none => rw [h] at e; cases e
    | some cs =>
      rw [h] at e
      cases e
      rw [bools_rv rs h]
      rfl
def dAny (g : List Bool → Bool) (ds : List D) (M : MS) (R : D → MS → Prop) : Prop := match ds with
  | [d] => (match vw M d with
    | .lst xs => ∃ bs, bools xs = some bs ∧ R (.bl (g bs)) M
    | _ => False)
  | _ => False
theorem rc_any : RC K (rAny K) (dAny fun bs => bs.any id) := fun F M G H vs ds R Q r rep h k => by
  unfold dAny at h
  split at h
  · cases r with
    | cons r1 r2 =>
      cases r2
      split at h
      · rename_i e
        obtain ⟨a, vs, rfl, h1, rr⟩ := vw_lst rep r1 e
        obtain ⟨bs, e2, h⟩ := h
        rw [bools_rv rr e2] at h1
        exact ⟨a, bs, rfl, SqL.of h1, k _ M F H _ h (L2.Same.refl F) rep (.bl _)⟩
      · exact h.elim
  · exact h.elim
theorem rc_all : RC K (rAll K) (dAny fun bs => bs.all id) := fun F M G H vs ds R Q r rep h k => by
  unfold dAny at h
  split at h
  · cases r with
    | cons r1 r2 =>
      cases r2
      split at h
      · rename_i e
        obtain ⟨a, vs, rfl, h1, rr⟩ := vw_lst rep r1 e
        obtain ⟨bs, e2, h⟩ := h
        rw [bools_rv rr e2] at h1
        exact ⟨a, bs, rfl, SqL.of h1, k _ M F H _ h (L2.Same.refl F) rep (.bl _)⟩
      · exact h.elim
  · exact h.elim
end
/-! ### methods of lists -/
section
variable {X : Cx} {E : L2.St → XK} {apos cpos : Pos} {name : Str} {e o : Expr} {es : List Expr} {Ta : TAD} {To : TD} {id : String} {r : V → List V → Hp → VK → Prop} {f : D → List D → MS → (D → MS → Prop) → Prop}
def RM (K : Frg) (r : V → List V → Hp → VK → Prop) (f : D → List D → MS → (D → MS → Prop) → Prop) : Prop := ∀ F M G H v d vs ds R Q, Rv K F v d → Rvs K F vs ds → Rep K F M G H → f d ds M R → KQ K F G R Q → r v vs H Q
def isLst (M : MS) (d : D) : Prop := match vw M d with
  | .lst _ => True
  | _ => False
def dMt (f : D → List D → MS → (D → MS → Prop) → Prop) (To : TD) (Ta : TAD) : TD := fun τ M R W => To τ M (fun d M1 => isLst M1 d ∧ Ta τ M1 (fun ds M2 => f d ds M2 R) W) W
theorem isLst.tyV {K : Frg} {F : Hp} {M : MS} {G H : Hp} {v : V} {d : D} (h : isLst M d) (rep : Rep K F M G H) (r : Rv K F v d) : L2.tyV K "list" v H := by
  unfold isLst at h
  split at h
  · rename_i e
    obtain ⟨a, vs, rfl, h1, rr⟩ := vw_lst rep r e
    exact .inl ⟨rfl, vs, SqL.of h1⟩
  · exact h.elim
theorem de_bm (slot : Slot "list" name id) (hty : typeOf (.builtin id) = pure (.type "method_descriptor")) (hm : MtR X id r) (hf : RM X.K r f) (ho : DE X E o To) (ha : DAs X E (e :: es) Ta)
    (hbase : attributeBase o name X.env (eval o X.env) = eval o X.env := by rfl)
    (hfew : ((backTo cpos (starEach (e :: es) X.env)).all (fun x => !x.1) && (backToKw cpos (keywordEach [] X.env)).all (fun x => x.1.isSome)
      && decide ((e :: es).length + ([] : List Keyword).length + (if ([] : List Keyword).isEmpty then 0 else 1) < 30)) = true := by rfl)
    (hline : (apos.endLine == cpos.line) = true := by rfl) (hs : starEach (e :: es) X.env = (false, eval e X.env) :: starEach es X.env := by rfl) (hplain : (backTo cpos (starEach es X.env)).any (·.1) = false := by rfl) :
    DE X E (.Call (.Attribute o name apos) (e :: es) [] cpos) (dMt f To Ta) := by
  refine ⟨(pe_bm PySem.F.plainAttrs_list slot hty hm ho.p ha.p hbase hfew hline hs hplain).imp fun σ H Q ⟨F, M, G, τ, R, W, rs, rep, h, k, kx⟩ => ?_⟩
  refine ⟨F, M, G, τ, _, W, rs, rep, h, fun d M1 F1 H1 v q s1 rep1 r1 => ⟨q.1.tyV rep1 r1, ?_⟩, kx⟩
  exact ⟨F1, M1, G, τ, _, W, rs.mono s1, rep1, q.2, fun ds M2 F2 H2 vs q2 s2 rep2 r2 => hf F2 M2 G H2 v d vs ds R Q (r1.mono s2) r2 rep2 q2 ((k.le s1).le s2), kx.le s1⟩
theorem de_bm0 (slot : Slot "list" name id) (hty : typeOf (.builtin id) = pure (.type "method_descriptor")) (hm : MtR X id r) (hf : RM X.K r f) (ho : DE X E o To)
    (hbase : attributeBase o name X.env (eval o X.env) = eval o X.env := by rfl) (hline : (apos.endLine == cpos.line) = true := by rfl) :
    DE X E (.Call (.Attribute o name apos) [] [] cpos) (dMt f To dNil) := by
  refine ⟨(pe_bm0 PySem.F.plainAttrs_list slot hty hm ho.p hbase hline).imp fun σ H Q ⟨F, M, G, τ, R, W, rs, rep, h, k, kx⟩ => ?_⟩
  exact ⟨F, M, G, τ, _, W, rs, rep, h, fun d M1 F1 H1 v q s1 rep1 r1 => ⟨q.1.tyV rep1 r1, hf F1 M1 G H1 v d [] [] R Q r1 .nil rep1 q.2 (k.le s1)⟩, kx⟩
def dAppend (d : D) (ds : List D) (M : MS) (R : D → MS → Prop) : Prop := match d, ds with
  | .ref a, [y] => (match M a with
    | some (.lst xs) => xs.length < sizeLine ∧ R .non (updM M a (.lst (xs ++ [y])))
    | _ => False)
  | _, _ => False
theorem rm_append {K : Frg} : RM K rAppend dAppend := fun F M G H v d vs ds R Q r rs rep h k => by
  unfold dAppend at h
  split at h
  · cases r
    cases rs with
    | cons r1 r2 =>
      cases r2
      split at h
      · rename_i xs e
        obtain ⟨ws, h1, rr⟩ := rep.lst e
        exact ⟨_, ws, _, rfl, rfl, h1, by rw [rr.len]; exact h.1, k _ _ F _ _ h.2 (L2.Same.refl F) (rep.put e (o := .lst _) (m' := .lst _) (rr.snoc r1)) .non⟩
      · exact h.elim
  · exact h.elim
def dExtend (d : D) (ds : List D) (M : MS) (R : D → MS → Prop) : Prop := match d, ds with
  | .ref a, [y] => (match M a, vw M y with
    | some (.lst xs), .lst ys => xs.length + ys.length ≤ sizeLine ∧ R .non (updM M a (.lst (xs ++ ys)))
    | _, _ => False)
  | _, _ => False
theorem rm_extend {K : Frg} : RM K rExtend dExtend := fun F M G H v d vs ds R Q r rs rep h k => by
  unfold dExtend at h
  split at h
  · cases r
    cases rs with
    | cons r1 r2 =>
      cases r2
      split at h
      · rename_i xs ys e e2
        obtain ⟨ws, h1, rr⟩ := rep.lst e
        obtain ⟨b, zs, rfl, h2, r3⟩ := vw_lst rep r1 e2
        exact ⟨_, b, ws, zs, rfl, rfl, h1, h2, by rw [rr.len, r3.len]; exact h.1, k _ _ F _ _ h.2 (L2.Same.refl F) (rep.put e (o := .lst _) (m' := .lst _) (rr.append r3)) .non⟩
      · exact h.elim
  · exact h.elim
def dPop (d : D) (ds : List D) (M : MS) (R : D → MS → Prop) : Prop := match d, ds with
  | .ref a, [] => (match M a with
    | some (.lst xs) => (match xs.getLast? with
      | some y => R y (updM M a (.lst xs.dropLast))
      | none => False)
    | _ => False)
  | _, _ => False
theorem rm_pop {K : Frg} : RM K rPop dPop := fun F M G H v d vs ds R Q r rs rep h k => by
  unfold dPop at h
  split at h
  · cases r
    cases rs
    split at h
    · rename_i xs e
      split at h
      · rename_i y ey
        obtain ⟨ws, h1, rr⟩ := rep.lst e
        rw [List.getLast?_eq_getElem?] at ey
        obtain ⟨w, e2, r2⟩ := rr.atD ey
        exact ⟨_, ws, w, rfl, rfl, h1, by rw [rr.len]; exact e2, k _ _ F _ _ h (L2.Same.refl F) (rep.put e (o := .lst _) (m' := .lst _) rr.dropLast) r2⟩
      · exact h.elim
    · exact h.elim
  · exact h.elim
def dClear (d : D) (ds : List D) (M : MS) (R : D → MS → Prop) : Prop := match d, ds with
  | .ref a, [] => (match M a with
    | some (.lst _) => R .non (updM M a (.lst []))
    | _ => False)
  | _, _ => False
theorem rm_clear {K : Frg} : RM K rClear dClear := fun F M G H v d vs ds R Q r rs rep h k => by
  unfold dClear at h
  split at h
  · cases r
    cases rs
    split at h
    · rename_i xs e
      obtain ⟨ws, h1, rr⟩ := rep.lst e
      exact ⟨_, ws, rfl, rfl, h1, k _ _ F _ _ h (L2.Same.refl F) (rep.put e (o := .lst _) (m' := .lst _) .nil) .non⟩
    · exact h.elim
  · exact h.elim
def dInsert (d : D) (ds : List D) (M : MS) (R : D → MS → Prop) : Prop := match d, ds with
  | .ref a, [.int i, y] => (match M a with
    | some (.lst xs) => xs.length < sizeLine ∧ 0 ≤ i ∧ i < 2 ^ 63 ∧ R .non (updM M a (.lst (xs.take i.toNat ++ [y] ++ xs.drop i.toNat)))
    | _ => False)
  | _, _ => False
theorem rm_insert {K : Frg} : RM K (fun x vs H Q => ∃ (l : Addr) (xs : List V) (i : Int) (y : V), x = .ref l ∧ vs = [.int i, y] ∧ H l = some (.lst xs) ∧ xs.length < sizeLine ∧ 0 ≤ i ∧ i < 2 ^ 63 ∧
    Q .non (upd H l (.lst (xs.take i.toNat ++ [y] ++ xs.drop i.toNat)))) dInsert := fun F M G H v d vs ds R Q r rs rep h k => by
  unfold dInsert at h
  split at h
  · cases r
    cases rs with
    | cons r1 r2 =>
      cases r2 with
      | cons r2 r3 =>
        cases r3
        cases r1
        split at h
        · rename_i xs e
          obtain ⟨ws, h1, rr⟩ := rep.lst e
          obtain ⟨a1, a2, a3, h⟩ := h
          exact ⟨_, ws, _, _, rfl, rfl, h1, by rw [rr.len]; exact a1, a2, a3, k _ _ F _ _ h (L2.Same.refl F) (rep.put e (o := .lst _) (m' := .lst _) (((rr.take _).append (.cons r2 .nil)).append (rr.drop _))) .non⟩
        · exact h.elim
  · exact h.elim
end
end RS

set_option maxRecDepth 100000
set_option maxHeartbeats 4000000
namespace RS
open PySem PySem.Spec PyProof.Rows L2 NdefX He PySem.W
variable [Tbls]
/-! ### operators by own defs -/
/-- what the def wants of an exception is what is wanted here, or nothing is raised -/
structure EL (E : L2.St → XK) (E1 : XK) (φ : XD → XD) : Prop where
  k : ∀ {K : Frg} {F G : Hp} {W : XD} {σ : L2.St}, KX K F G W (E σ) → KX K F G (φ W) E1
theorem EL.none {E : L2.St → XK} : EL E E0 (fun _ => XF) := ⟨fun _ => KX.none⟩
theorem EL.id {E1 : XK} : EL (fun _ => E1) E1 (fun W => W) := ⟨fun h => h⟩
def ROX (K : Frg) (E1 : XK) (r : R2) (f : D → D → MS → (D → MS → Prop) → XD → Prop) : Prop := ∀ F M G H x y v u R W Q, Rv K F v x → Rv K F u y → Rep K F M G H → f x y M R W → KQ K F G R Q → KX K F G W E1 → r v u H Q
def dBinX (φ : XD → XD) (f : D → D → MS → (D → MS → Prop) → XD → Prop) (Ta Tb : TD) : TD := fun τ M R W => Ta τ M (fun x M1 => Tb τ M1 (fun y M2 => f x y M2 R (φ W)) W) W
section
variable {X : Cx} {E : L2.St → XK} {E1 : XK} {φ : XD → XD} {pos : Pos} {a b : Expr} {Ta Tb : TD} {r : R2} {f : D → D → MS → (D → MS → Prop) → XD → Prop}
theorem up_binX (hl : EL E E1 φ) (hf : ROX X.K E1 r f) {σ : L2.St} {H : Hp} {Q : VK} (h : up X.K E (dBinX φ f Ta Tb) σ H Q) : tOp r (up X.K E Ta) (up X.K E Tb) σ H Q := by
  obtain ⟨F, M, G, τ, R, W, rs, rep, h, k, kx⟩ := h
  refine ⟨F, M, G, τ, _, W, rs, rep, h, fun d M1 F1 H1 v q s1 rep1 r1 => ?_, kx⟩
  refine ⟨F1, M1, G, τ, _, W, rs.mono s1, rep1, q, fun e M2 F2 H2 u q2 s2 rep2 r2 => ?_, kx.le s1⟩
  exact hf F2 M2 G H2 d e v u R (φ W) Q (r1.mono s2) r2 rep2 q2 (k.le (s1.trans s2)) ((hl.k kx).le (s1.trans s2))
theorem de_opX {op : Operator} (hl : EL E E1 φ) (ho : OpR X (binaryOp op) r) (hf : ROX X.K E1 r f) (ha : DE X E a Ta) (hb : DE X E b Tb) : DE X E (.BinOp a op b pos) (dBinX φ f Ta Tb) :=
  ⟨(pe_op ho ha.p hb.p).imp fun σ H Q h => up_binX hl hf h⟩
theorem de_cmpX {op : CmpOp} (hl : EL E E1 φ) (ho : OpR X (compareOp op) r) (hf : ROX X.K E1 r f) (ha : DE X E a Ta) (hb : DE X E b Tb) (hm : behindInMarks op b = false) : DE X E (.Compare a [op] [b] pos) (dBinX φ f Ta Tb) :=
  ⟨(pe_cmpR ho ha.p hb.p hm).imp fun σ H Q h => up_binX hl hf h⟩
theorem dt_cmpX {op : CmpOp} (hl : EL E E1 φ) (ho : OpR X (compareOp op) r) (hf : ROX X.K E1 r f) (ha : DE X E a Ta) (hb : DE X E b Tb) (hm : behindInMarks op b = false) : DT X E (.Compare a [op] [b] pos) (dTB (dBinX φ f Ta Tb)) := by
  refine ⟨(pt_cmpR ho ha.p hb.p hm).imp fun σ H Q h => ?_⟩
  obtain ⟨F, M, G, τ, R, W, rs, rep, h, k, kx⟩ := h
  refine up_binX hl hf ⟨F, M, G, τ, _, W, rs, rep, h, fun d M1 F1 H1 v q s1 rep1 r1 => ?_, kx⟩
  cases d <;> try exact q.elim
  cases r1
  exact ⟨_, rfl, k _ M1 F1 H1 q s1 rep1⟩
end
def isC (M : MS) (C : Addr) (d : D) : Prop := match vw M d with
  | .ins C' _ => C' = C
  | _ => False
theorem isC.at {K : Frg} {F : Hp} {M : MS} {G H : Hp} {C : Addr} {v : V} {d : D} (h : isC M C d) (rep : Rep K F M G H) (r : Rv K F v d) : ∃ a dx fs, v = .ref a ∧ H a = some (.ins C dx fs) := by
  unfold isC at h
  split at h
  · rename_i e
    subst h
    obtain ⟨a, dx, fs, rfl, e1, _⟩ := vw_ins rep r e
    exact ⟨a, dx, fs, rfl, e1⟩
  · exact h.elim
/-- x op y by C's def, both of C -/
def dOwn2 (C : Addr) (S : SpD) (x y : D) (M : MS) (R : D → MS → Prop) (W : XD) : Prop := isC M C x ∧ isC M C y ∧ S [x, y] M R W
theorem rox_bin {K : Frg} {C : Addr} {S : SpD} {E1 : XK} : ROX K E1 (rBinOwn C (upSp K S) E1) (dOwn2 C S) := fun F M G H x y v u R W Q rx ry rep ⟨h1, h2, h⟩ k kx => by
  obtain ⟨a, dx, fs, rfl, e1⟩ := h1.at rep rx
  obtain ⟨b, dy, gs, rfl, e2⟩ := h2.at rep ry
  exact ⟨a, dx, fs, b, dy, gs, rfl, rfl, e1, e2, F, M, G, _, R, W, .cons rx (.cons ry .nil), rep, h, k, kx⟩
/-- == where y is not of a class below C -/
def NotF (K : Frg) (C : Addr) (t : Tag) : Prop := PySem.W.notFirst K C t.v = true
def dOwnEq (K : Frg) (C : Addr) (S : SpD) (x y : D) (M : MS) (R : D → MS → Prop) (W : XD) : Prop := isC M C x ∧ (match tag M y with
  | some t => TagOK K t ∧ NotF K C t ∧ S [x, y] M R W
  | none => False)
theorem rox_eq {K : Frg} {C : Addr} {S : SpD} {E1 : XK} : ROX K E1 (rEqOwn K C (upSp K S) E1) (dOwnEq K C S) := fun F M G H x y v u R W Q rx ry rep ⟨h1, h⟩ k kx => by
  obtain ⟨a, dx, fs, rfl, e1⟩ := h1.at rep rx
  split at h
  · rename_i t et
    obtain ⟨ok, nf, h⟩ := h
    exact ⟨a, dx, fs, _, rfl, e1, tag_ty rep ry et ok, nf, F, M, G, _, R, W, .cons rx (.cons ry .nil), rep, h, k, kx⟩
  · exact h.elim
def dOwnNe (K : Frg) (C : Addr) (S : SpD) (x y : D) (M : MS) (R : D → MS → Prop) (W : XD) : Prop := isC M C x ∧ (match tag M y with
  | some t => TagOK K t ∧ NotF K C t ∧ S [x, y] M (fun d M1 => match d with
    | .bl b => R (.bl (!b)) M1
    | _ => False) W
  | none => False)
theorem KQ.bl {K : Frg} {F G : Hp} {R : D → MS → Prop} {Q : VK} {g : Bool → Bool} (k : KQ K F G R Q) : KQ K F G (fun d M1 => match d with
    | .bl b => R (.bl (g b)) M1
    | _ => False) (fun v H' => ∃ b, v = .bl b ∧ Q (.bl (g b)) H') := fun d M' F' H' v q s rep r => by
  cases d <;> try exact q.elim
  cases r
  exact ⟨_, rfl, k _ M' F' H' _ q s rep (.bl _)⟩
theorem rox_ne {K : Frg} {C : Addr} {S : SpD} {E1 : XK} : ROX K E1 (rNeOwn K C (upSp K S) E1) (dOwnNe K C S) := fun F M G H x y v u R W Q rx ry rep ⟨h1, h⟩ k kx => by
  obtain ⟨a, dx, fs, rfl, e1⟩ := h1.at rep rx
  split at h
  · rename_i t et
    obtain ⟨ok, nf, h⟩ := h
    exact ⟨a, dx, fs, _, rfl, e1, tag_ty rep ry et ok, nf, F, M, G, _, _, W, .cons rx (.cons ry .nil), rep, h, k.bl (g := fun b => !b), kx⟩
  · exact h.elim
/-- x in y by y's def -/
def dOwnIn (neg : Bool) (C : Addr) (S : SpD) (x y : D) (M : MS) (R : D → MS → Prop) (W : XD) : Prop := isC M C y ∧ S [y, x] M (fun d M1 => match d with
    | .bl b => R (.bl (if neg then !b else b)) M1
    | _ => False) W
theorem rox_in {K : Frg} {C : Addr} {S : SpD} {E1 : XK} (neg : Bool) : ROX K E1 (rInOwn neg C (upSp K S) E1) (dOwnIn neg C S) := fun F M G H x y v u R W Q rx ry rep ⟨h1, h⟩ k kx => by
  obtain ⟨a, dx, fs, rfl, e1⟩ := h1.at rep ry
  exact ⟨a, dx, fs, rfl, e1, F, M, G, _, _, W, .cons ry (.cons rx .nil), rep, h, k.bl (g := fun b => if neg then !b else b), kx⟩
section
variable {X : Cx} {E : L2.St → XK} {CX : CXT} {lv : Nat} {C : Addr} {ps : List Str} {S : SpD} {E1 : XK} {φ : XD → XD} {pos : Pos} {a b : Expr} {Ta Tb : TD}
/-- the truth of an instance -/
def dOwnT (φ : XD → XD) (C : Addr) (S : SpD) (Ta : TD) : TTD := fun τ M R W => Ta τ M (fun x M1 => isC M1 C x ∧ S [x] M1 (fun d M2 => match d with
    | .bl b => R b M2
    | _ => False) (φ W)) W
theorem dt_own (hl : EL E E1 φ) (F0 : Mtd X.prog X.w X.K X.mg X.base CX lv C "__bool__" ps [] (upSp X.K S)) (hr : Room lv X.A) (hx : Passes CX X E1) (ha : DE X E a Ta) (he : ∀ whole, isTrue a X.env whole = (do let v ← whole; standAt a.pos; holding [v] (truthy v)) := by intro _; rfl) :
    DT X E a (dOwnT φ C S Ta) := by
  refine ⟨(pt_own (tru_own F0 hr hx) ha.p he).imp fun σ H Q ⟨F, M, G, τ, R, W, rs, rep, h, k, kx⟩ => ?_⟩
  refine ⟨F, M, G, τ, _, W, rs, rep, h, fun d M1 F1 H1 v q s1 rep1 r1 => ?_, kx⟩
  obtain ⟨p, dx, fs, rfl, e1⟩ := q.1.at rep1 r1
  refine ⟨p, dx, fs, rfl, e1, F1, M1, G, _, _, _, .cons r1 .nil, rep1, q.2, fun d M2 F2 H2 v q2 s2 rep2 r2 => ?_, (hl.k kx).le s1⟩
  cases d <;> try exact q2.elim
  cases r2
  exact ⟨_, rfl, k _ M2 F2 H2 q2 (s1.trans s2) rep2⟩
/-- ~x -/
def dOwnU (φ : XD → XD) (C : Addr) (S : SpD) (Ta : TD) : TD := fun τ M R W => Ta τ M (fun x M1 => isC M1 C x ∧ S [x] M1 R (φ W)) W
theorem de_inv (hl : EL E E1 φ) (F0 : Mtd X.prog X.w X.K X.mg X.base CX lv C "__invert__" ps [] (upSp X.K S)) (hr : Room lv X.A) (hx : Passes CX X E1) (ha : DE X E a Ta) : DE X E (.UnaryOp .Invert a pos) (dOwnU φ C S Ta) := by
  refine ⟨(pe_un (un_invOwn F0 hr hx) ha.p).imp fun σ H Q ⟨F, M, G, τ, R, W, rs, rep, h, k, kx⟩ => ?_⟩
  refine ⟨F, M, G, τ, _, W, rs, rep, h, fun d M1 F1 H1 v q s1 rep1 r1 => ?_, kx⟩
  obtain ⟨p, dx, fs, rfl, e1⟩ := q.1.at rep1 r1
  exact ⟨p, dx, fs, rfl, e1, F1, M1, G, _, R, _, .cons r1 .nil, rep1, q.2, k.le s1, (hl.k kx).le s1⟩
/-- x[y] by the own __getitem__ -/
def dOwnIx (C : Addr) (S : SpD) (x y : D) (M : MS) (R : D → MS → Prop) (W : XD) : Prop := isC M C x ∧ S [x, y] M R W
theorem rox_ix {K : Frg} : ROX K E1 (rIxOwn C (upSp K S) E1) (dOwnIx C S) := fun F M G H x y v u R W Q rx ry rep ⟨h1, h⟩ k kx => by
  obtain ⟨p, dx, fs, rfl, e1⟩ := h1.at rep rx
  exact ⟨p, dx, fs, rfl, e1, F, M, G, _, R, W, .cons rx (.cons ry .nil), rep, h, k, kx⟩
theorem de_ixOwn (hl : EL E E1 φ) (g : getIn X.K C = true) (F0 : Mtd X.prog X.w X.K X.mg X.base CX lv C "__getitem__" ps [] (upSp X.K S)) (hr : Room (lv + 1) X.A) (hx : Passes CX X E1) (ha : DE X E a Ta) (hb : DE X E b Tb)
    (hs : ∀ o i, subscripted b true o i = runValue (.builtin "lifetime.subscript" ⟨[o, i], []⟩) := by intro _ _; with_unfolding_all rfl) : DE X E (.Subscript a b pos) (dBinX φ (dOwnIx C S) Ta Tb) :=
  ⟨(pe_ixOwn g F0 hr hx ha.p hb.p hs).imp fun σ H Q h => up_binX hl rox_ix h⟩
/-- bool(x), len(x), str(x) by own defs (that raise nothing) -/
def dOwnB (C : Addr) (S : SpD) (ds : List D) (M : MS) (R : D → MS → Prop) : Prop := match ds with
  | [x] => isC M C x ∧ S [x] M (fun d M2 => match d with
    | .bl b => R (.bl b) M2
    | _ => False) XF
  | _ => False
theorem rc_ownB {K : Frg} : RC K (fun xs H Q => ∃ x, xs = [x] ∧ rTruOwn C (upSp K S) E0 x H fun b H' => Q (.bl b) H') (dOwnB C S) := fun F M G H vs ds R Q r rep h k => by
  unfold dOwnB at h
  split at h
  · cases r with
    | cons r1 r2 =>
      cases r2
      obtain ⟨p, dx, fs, rfl, e1⟩ := h.1.at rep r1
      exact ⟨_, rfl, p, dx, fs, rfl, e1, F, M, G, _, _, XF, .cons r1 .nil, rep, h.2, k.bl (g := fun b => b), KX.none⟩
  · exact h.elim
def dOwnL (C : Addr) (S : SpD) (ds : List D) (M : MS) (R : D → MS → Prop) : Prop := match ds with
  | [x] => isC M C x ∧ S [x] M (fun d M2 => match d with
    | .int n => 0 ≤ n ∧ n < 2 ^ 63 ∧ R (.int n) M2
    | _ => False) XF
  | _ => False
theorem rc_ownL {K : Frg} : RC K (rLenOwn C (upSp K S) E0) (dOwnL C S) := fun F M G H vs ds R Q r rep h k => by
  unfold dOwnL at h
  split at h
  · cases r with
    | cons r1 r2 =>
      cases r2
      obtain ⟨p, dx, fs, rfl, e1⟩ := h.1.at rep r1
      refine ⟨p, dx, fs, rfl, e1, F, M, G, _, _, XF, .cons r1 .nil, rep, h.2, fun d M2 F2 H2 v q s2 rep2 r2 => ?_, KX.none⟩
      cases d <;> try exact q.elim
      cases r2
      exact ⟨_, rfl, q.1, q.2.1, k _ M2 F2 H2 _ q.2.2 s2 rep2 (.int _)⟩
  · exact h.elim
def dOwnS (C : Addr) (S : SpD) (ds : List D) (M : MS) (R : D → MS → Prop) : Prop := match ds with
  | [x] => isC M C x ∧ S [x] M (fun d M2 => match d with
    | .str n => R (.str n) M2
    | _ => False) XF
  | _ => False
theorem rc_ownS {K : Frg} : RC K (rStrOwn C (upSp K S) E0) (dOwnS C S) := fun F M G H vs ds R Q r rep h k => by
  unfold dOwnS at h
  split at h
  · cases r with
    | cons r1 r2 =>
      cases r2
      obtain ⟨p, dx, fs, rfl, e1⟩ := h.1.at rep r1
      refine ⟨p, dx, fs, rfl, e1, F, M, G, _, _, XF, .cons r1 .nil, rep, h.2, fun d M2 F2 H2 v q s2 rep2 r2 => ?_, KX.none⟩
      cases d <;> try exact q.elim
      cases r2
      exact ⟨_, rfl, k _ M2 F2 H2 _ q s2 rep2 (.str _)⟩
  · exact h.elim
end
/-! ### dicts with int and text keys -/
def keyD : D → Option Key
  | .int i => some (.inl i)
  | .str x => some (.inr x)
  | _ => none
def valD (ks : List (Key × D)) (k : Key) : Option D := (ks.find? fun p => decide (p.1 = k)).map (·.2)
def putD (ks : List (Key × D)) (k : Key) (d : D) : List (Key × D) := if (ks.any fun p => decide (p.1 = k)) = true then ks.map (fun p => if p.1 = k then (p.1, d) else p) else ks ++ [(k, d)]
section
variable {K : Frg} {F : Hp}
theorem key_rv {v : V} {d : D} {k : Key} (r : Rv K F v d) (e : keyD d = some k) : v = kV k := by cases r <;> cases e <;> rfl
theorem Rks.val {k : Key} : ∀ {kvs : List (Key × V)} {ks : List (Key × D)}, Rks K F kvs ks → (∀ d, valD ks k = some d → ∃ v, valV kvs k = some v ∧ Rv K F v d) ∧ (valD ks k = none → valV kvs k = none)
  | _, _, .nil => ⟨fun d e => (nomatch e), fun _ => rfl⟩
  | _, _, .cons (k := k') r rs => by
    obtain ⟨h1, h2⟩ := Rks.val rs
    unfold valD valV at *
    by_cases e : k' = k
    · simp only [List.find?_cons, e, decide_true, Option.map_some]
      exact ⟨fun d z => (by cases z; exact ⟨_, rfl, r⟩), fun z => nomatch z⟩
    · simp only [List.find?_cons, e, decide_false]
      exact ⟨h1, h2⟩
theorem Rks.any {k : Key} : ∀ {kvs : List (Key × V)} {ks : List (Key × D)}, Rks K F kvs ks → (kvs.any fun p => decide (p.1 = k)) = (ks.any fun p => decide (p.1 = k))
  | _, _, .nil => rfl
  | _, _, .cons r rs => by rw [List.any_cons, List.any_cons, Rks.any rs]
theorem Rks.put {k : Key} {v : V} {d : D} (r : Rv K F v d) {kvs : List (Key × V)} {ks : List (Key × D)} (rs : Rks K F kvs ks) : Rks K F (putK kvs k v) (putD ks k d) := by
  unfold putK putD
  rw [rs.any]
  split
  · have key : ∀ {kvs : List (Key × V)} {ks : List (Key × D)}, Rks K F kvs ks → Rks K F (kvs.map fun kv => if kv.1 = k then (kv.1, v) else kv) (ks.map fun p => if p.1 = k then (p.1, d) else p) := by
      intro kvs ks rs
      induction kvs generalizing ks with
      | nil => cases rs; exact .nil
      | cons p kvs ih =>
        cases rs with
        | cons r' rs' =>
          rename_i k' v' d' ds'
          rw [List.map_cons, List.map_cons]
          by_cases e : k' = k
          · rw [if_pos e, if_pos e]; exact .cons r (ih rs')
          · rw [if_neg e, if_neg e]; exact .cons r' (ih rs')
    exact key rs
  · have key : ∀ {kvs : List (Key × V)} {ks : List (Key × D)}, Rks K F kvs ks → Rks K F (kvs ++ [(k, v)]) (ks ++ [(k, d)]) := by
      intro kvs ks rs
      induction kvs generalizing ks with
      | nil => cases rs; exact .cons r .nil
      | cons p kvs ih =>
        cases rs with
        | cons r' rs' => exact .cons r' (ih rs')
    exact key rs
end
section
variable {X : Cx} {E : L2.St → XK} {pos : Pos} {o i value : Expr} {To Ti Tv : TD}
def dDnew : TD := fun _ M R _ => ∀ p, M p = none → R (.ref p) (updM M p (.dct []))
theorem de_dnew : DE X E (.Dict [] [] pos) dDnew := ⟨pe_dnewK.imp fun σ H Q ⟨F, M, G, τ, R, W, rs, rep, h, k, kx⟩ p hp => k _ _ F _ _ (h p (rep.freeM hp)) (L2.Same.refl F) (rep.newM (o := .dK []) (m := .dct []) hp .nil) (.ref p)⟩
def dDget (To Ti : TD) : TD := fun τ M R W => To τ M (fun d M1 => Ti τ M1 (fun k M2 => match vw M2 d, keyD k with
  | .dct ks, some k => (match valD ks k with
    | some v => R v M2
    | none => False)
  | _, _ => False) W) W
theorem de_dget (hu : X.A.units + 1 < cLine) (ho : DE X E o To) (hi : DE X E i Ti) (hs : NoSl i) : DE X E (.Subscript o i pos) (dDget To Ti) := by
  refine ⟨(pe_dget hu ho.p hi.p hs).imp fun σ H Q ⟨F, M, G, τ, R, W, rs, rep, h, k, kx⟩ => ?_⟩
  refine ⟨F, M, G, τ, _, W, rs, rep, h, fun d M1 F1 H1 v q s1 rep1 r1 => ?_, kx⟩
  refine ⟨F1, M1, G, τ, _, W, rs.mono s1, rep1, q, fun z M2 F2 H2 u q2 s2 rep2 r2 => ?_, kx.le s1⟩
  dsimp only at q2
  split at q2
  · rename_i ks kk e1 e2
    obtain ⟨a, kvs, rfl, h1, rr⟩ := vw_dct rep2 (r1.mono s2) e1
    cases key_rv r2 e2
    split at q2
    · rename_i v ev
      obtain ⟨w, e3, rw'⟩ := rr.val.1 v ev
      refine ⟨a, w, rfl, ?_, k _ M2 F2 H2 _ q2 (s1.trans s2) rep2 rw'⟩
      rw [← e3]
      exact DGet.k h1
    · exact q2.elim
  · exact q2.elim
def dDin (neg : Bool) (Ti To : TD) : TD := fun τ M R W => Ti τ M (fun k M1 => To τ M1 (fun d M2 => match vw M2 d, keyD k with
  | .dct ks, some k => R (.bl (if neg then !(valD ks k).isSome else (valD ks k).isSome)) M2
  | _, _ => False) W) W
theorem dDin_ok {neg : Bool} {Q : VK} {F G : Hp} {M2 : MS} {H : Hp} {R : D → MS → Prop} {d k : D} {v u : V} (rep : Rep X.K F M2 G H) (r1 : Rv X.K F v k) (r2 : Rv X.K F u d) (kq : KQ X.K F G R Q) (q : match vw M2 d, keyD k with
  | .dct ks, some k => R (.bl (if neg then !(valD ks k).isSome else (valD ks k).isSome)) M2
  | _, _ => False) : ∃ a o, u = .ref a ∧ DGet H a v o ∧ Q (.bl (if neg then !o.isSome else o.isSome)) H := by
  split at q
  · rename_i ks kk e1 e2
    obtain ⟨a, kvs, rfl, h1, rr⟩ := vw_dct rep r2 e1
    cases key_rv r1 e2
    refine ⟨a, _, rfl, DGet.k h1, ?_⟩
    have e : (valV kvs kk).isSome = (valD ks kk).isSome := by
      cases z : valD ks kk with
      | none => rw [rr.val.2 z]; rfl
      | some d => obtain ⟨w, e3, _⟩ := rr.val.1 d z; rw [e3]; rfl
    rw [e]
    exact kq _ M2 F H _ q (L2.Same.refl F) rep (.bl _)
  · exact q.elim
theorem de_din (hu : X.A.units + 1 < cLine) (hi : DE X E i Ti) (ho : DE X E o To) (hb : behindInMarks .In o = false := by rfl) : DE X E (.Compare i [.In] [o] pos) (dDin false Ti To) := by
  refine ⟨(pe_cmp (pc_din hu hi.p ho.p) hb).imp fun σ H Q ⟨F, M, G, τ, R, W, rs, rep, h, k, kx⟩ => ?_⟩
  refine ⟨F, M, G, τ, _, W, rs, rep, h, fun d M1 F1 H1 v q s1 rep1 r1 => ?_, kx⟩
  exact ⟨F1, M1, G, τ, _, W, rs.mono s1, rep1, q, fun z M2 F2 H2 u q2 s2 rep2 r2 => dDin_ok (neg := false) rep2 (r1.mono s2) r2 (k.le (s1.trans s2)) q2, kx.le s1⟩
theorem de_dnotin (hu : X.A.units + 1 < cLine) (hi : DE X E i Ti) (ho : DE X E o To) (hb : behindInMarks .NotIn o = false := by rfl) : DE X E (.Compare i [.NotIn] [o] pos) (dDin true Ti To) := by
  refine ⟨(pe_cmp (pc_dnotin hu hi.p ho.p) hb).imp fun σ H Q ⟨F, M, G, τ, R, W, rs, rep, h, k, kx⟩ => ?_⟩
  refine ⟨F, M, G, τ, _, W, rs, rep, h, fun d M1 F1 H1 v q s1 rep1 r1 => ?_, kx⟩
  exact ⟨F1, M1, G, τ, _, W, rs.mono s1, rep1, q, fun z M2 F2 H2 u q2 s2 rep2 r2 => dDin_ok (neg := true) rep2 (r1.mono s2) r2 (k.le (s1.trans s2)) q2, kx.le s1⟩
theorem dt_din (hu : X.A.units + 1 < cLine) (hi : DE X E i Ti) (ho : DE X E o To) (hb : behindInMarks .In o = false := by rfl) : DT X E (.Compare i [.In] [o] pos) (dTB (dDin false Ti To)) := by
  refine ⟨(pt_cmp (pc_din hu hi.p ho.p) hb).imp fun σ H Q ⟨F, M, G, τ, R, W, rs, rep, h, k, kx⟩ => ?_⟩
  refine ⟨F, M, G, τ, _, W, rs, rep, h, fun d M1 F1 H1 v q s1 rep1 r1 => ?_, kx⟩
  refine ⟨F1, M1, G, τ, _, W, rs.mono s1, rep1, q, fun z M2 F2 H2 u q2 s2 rep2 r2 => ?_, kx.le s1⟩
  refine dDin_ok (neg := false) (R := fun d M1 => match d with
    | .bl b => R b M1
    | _ => False) (Q := fun x H1 => ∃ c, x = .bl c ∧ Q c H1) rep2 (r1.mono s2) r2 (fun d M' F' H' v q' s' rep' r' => ?_) q2
  cases d <;> try exact q'.elim
  cases r'
  exact ⟨_, rfl, k _ M' F' H' q' ((s1.trans s2).trans s') rep'⟩
theorem dt_dnotin (hu : X.A.units + 1 < cLine) (hi : DE X E i Ti) (ho : DE X E o To) (hb : behindInMarks .NotIn o = false := by rfl) : DT X E (.Compare i [.NotIn] [o] pos) (dTB (dDin true Ti To)) := by
  refine ⟨(pt_cmp (pc_dnotin hu hi.p ho.p) hb).imp fun σ H Q ⟨F, M, G, τ, R, W, rs, rep, h, k, kx⟩ => ?_⟩
  refine ⟨F, M, G, τ, _, W, rs, rep, h, fun d M1 F1 H1 v q s1 rep1 r1 => ?_, kx⟩
  refine ⟨F1, M1, G, τ, _, W, rs.mono s1, rep1, q, fun z M2 F2 H2 u q2 s2 rep2 r2 => ?_, kx.le s1⟩
  refine dDin_ok (neg := true) (R := fun d M1 => match d with
    | .bl b => R b M1
    | _ => False) (Q := fun x H1 => ∃ c, x = .bl c ∧ Q c H1) rep2 (r1.mono s2) r2 (fun d M' F' H' v q' s' rep' r' => ?_) q2
  cases d <;> try exact q'.elim
  cases r'
  exact ⟨_, rfl, k _ M' F' H' q' ((s1.trans s2).trans s') rep'⟩
/-- d[k] = v -/
def dDput (To Ti Tv : TD) : TSD := fun N τ M => Tv τ M (fun v M1 => To τ M1 (fun d M2 => Ti τ M2 (fun k M3 => match d, keyD k with
  | .ref a, some k => (match M3 a with
    | some (.dct ks) => ks.length < sizeLine ∧ N.nx τ (updM M3 a (.dct (putD ks k v)))
    | _ => False)
  | _, _ => False) (N.ex τ)) (N.ex τ)) (N.ex τ)
theorem ds_dput {pos' : Pos} (hu : X.A.units + 1 < cLine) (ho : DE X E o To) (hi : DE X E i Ti) (hv : DE X E value Tv) (hs : swapsWith value (some (.Subscript o i pos')) pos.line X.env = pure false := by rfl) : DS X E (.Assign [.Subscript o i pos'] value pos) (dDput To Ti Tv) := by
  refine ⟨(ps_dput hu ho.p hi.p hv.p hs).imp fun D σ H ⟨F, M, G, τ, N, rs, rep, h, lk⟩ => ?_⟩
  refine ⟨F, M, G, τ, _, _, rs, rep, h, fun v M1 F1 H1 w q s1 rep1 r1 => ?_, lk.ex.at rs⟩
  refine ⟨F1, M1, G, τ, _, _, rs.mono s1, rep1, q, fun d M2 F2 H2 u q2 s2 rep2 r2 => ?_, (lk.ex.at rs).le s1⟩
  refine ⟨F2, M2, G, τ, _, _, (rs.mono s1).mono s2, rep2, q2, fun k M3 F3 H3 z q3 s3 rep3 r3 => ?_, ((lk.ex.at rs).le s1).le s2⟩
  dsimp only at q3
  split at q3
  · rename_i a kk e
    cases r2
    cases key_rv r3 e
    split at q3
    · rename_i ks em
      obtain ⟨kvs, h1, rr⟩ := rep3.dct em
      have s := (s1.trans s2).trans s3
      have ln : kvs.length < sizeLine := by rw [rr.len]; exact q3.1
      exact ⟨a, _, rfl, DPut.k h1 ln, lk.nx _ _ _ F3 _ q3.2 s (rep3.put em (o := .dK _) (m' := .dct _) (rr.put ((r1.mono s2).mono s3))) (rs.mono s)⟩
    · exact q3.elim
  · exact q3.elim
end
end RS

set_option maxRecDepth 100000
set_option maxHeartbeats 4000000
namespace RS
open PySem PySem.Spec PyProof.Rows L2 NdefX He PySem.W
variable [Tbls]
/-! ### raise -/
section
variable {X : Cx} {E : L2.St → XK} {x n : Str} {C C0 : Addr} {names : List Str} {e : Expr} {es : List Expr} {Ta : TAD} {p pos pos' np : Pos} {body suite : List Stmt} {b₀ : Stmt} {i : Nat} {Tb : TSD} {Ts : Addr → Value → Option Addr → TSD} {To : TD}
theorem Rfs.zip {K : Frg} {F : Hp} : ∀ {ns : List Str} {vs : List V} {ds : List D}, Rvs K F vs ds → Rfs K F (ns.zip vs) (ns.zip ds)
  | [], _, _, _ => .nil
  | n :: ns, _, _, .nil => .nil
  | n :: ns, _, _, .cons r rs => .cons r (Rfs.zip rs)
theorem Rfs.append {K : Frg} {F : Hp} : ∀ {a b : List (Str × V)} {c d : List (Str × D)}, Rfs K F a c → Rfs K F b d → Rfs K F (a ++ b) (c ++ d)
  | _, _, _, _, .nil, y => y
  | _, _, _, _, .cons x xs, y => .cons x (Rfs.append xs y)
theorem Rfs.reverse {K : Frg} {F : Hp} : ∀ {a : List (Str × V)} {c : List (Str × D)}, Rfs K F a c → Rfs K F a.reverse c.reverse
  | _, _, .nil => .nil
  | _, _, .cons x xs => by rw [List.reverse_cons, List.reverse_cons]; exact (Rfs.reverse xs).append (.cons x .nil)
def dRaise (C : Addr) (names : List Str) (Ta : TAD) : TSD := fun N τ M => Ta τ M (fun ds M1 => ds.length = names.length ∧ N.ex τ C ((names.zip ds).reverse) M1) (N.ex τ)
theorem _root_.L2.PS.raise_imp {X : Cx} {e : Expr} {t t' : L2.St → Hp → XK → Prop} (h : PMk X e t) (i : ∀ σ H Q, t' σ H Q → t σ H Q) : PMk X e t' := fun pins s σ H Q I q => h pins s σ H Q I (i _ _ _ q)
theorem ds_raise (hc : X.calm = true) (tk : Takes X (fun c d σ H => E σ c d H)) (M0 : Exk X.prog X.w X.K X.mg X.base x C names) (hr : Room 2 X.A) (ha : DAs X E (e :: es) Ta) (hn : names ≠ [] := by simp) (hl : names.length ≤ 1000 := by decide) (hg : Gl X x := by rfl)
    (hdb : (x == ("__debug__" : Str)) = false := by decide) (he : starEach (e :: es) X.env = (false, eval e X.env) :: starEach es X.env := by rfl) (hpl : (backTo pos (starEach es X.env)).any (·.1) = false := by rfl) :
    DS X E (.Raise (some (.Call (.Name x p) (e :: es) [] pos)) none pos') (dRaise C names Ta) := by
  refine ⟨(L2.ps_raise hc tk (pmk_ex M0 hr ha.p hg hdb he hpl)).imp fun D σ H ⟨F, M, G, τ, N, rs, rep, h, lk⟩ => ?_⟩
  refine ⟨F, M, G, τ, _, _, rs, rep, h, fun ds M1 F1 H1 vs q s1 rep1 r1 => ?_, lk.ex.at rs⟩
  have hl2 : vs.length = names.length := by rw [r1.len]; exact q.1
  refine mkEx (Q := fun c d H' => E σ c d H') hl2 hn (by rw [hl2]; exact hl) fun d hd => ?_
  obtain ⟨rep2, s2⟩ := rep1.newF (o := .xd ((names.zip vs).reverse)) hd
  exact ((lk.ex.at rs).le s1) C _ M1 _ _ (some d) q.2 s2 rep2 ⟨_, upd_same, ((Rfs.zip r1).reverse).mono s2⟩
/-! ### try .. except X as n, X own -/
def Exm (K : Frg) (C C0 : Addr) (b : Bool) : Prop := PySem.W.exmOne K (.ref C) (.ref C0) = some b
def endS (i : Nat) (N : EndsD) : EndsD := { nx := fun τ M => N.nx (τ.set i none) M, rt := N.rt, bk := fun τ M => N.bk (τ.set i none) M, ct := fun τ M => N.ct (τ.set i none) M }
def dTry (K : Frg) (C0 : Addr) (i : Nat) (Tb : TSD) (Ts : Addr → Value → Option Addr → TSD) : TSD := fun N τ M => Tb { N with ex := fun τ' C fs M' => ∃ b, Exm K C C0 b ∧ (b = true → ∀ a d, (fs ≠ [] → d.isSome = true) → Ts a (.ref C) d (endS i N) (τ'.set i (some (.exc a d C fs))) M') ∧ (b = false → N.ex τ' C fs M') } τ M
theorem Rx.some {K : Frg} {F : Hp} {d : Option Addr} {fs : List (Str × D)} (h : Rx K F d fs) (n : fs ≠ []) : d.isSome = true := by
  cases d with
  | none => exact absurd (show fs = [] from h) n
  | some d => rfl
theorem Rx.rv {K : Frg} {F : Hp} {d : Option Addr} {fs : List (Str × D)} (h : Rx K F d fs) (a C : Addr) : Rv K F (.ref a) (.exc a d C fs) := by
  cases d with
  | none => cases (show fs = [] from h); exact .exc0 a C
  | some d => obtain ⟨gs, e, r⟩ := h; exact .exc1 e r
theorem ds_try {K : Frg} (hk : X.K = K) (i : Nat) (hs : X.stack = X.env :: X.outer) (hf : X.env.frame = some X.env.locals) (hN : X.N.Nodup) (hi : X.N[i]? = some n) (hln : X.env.kindOf n = some .local) (hc : Names X x (.ref C0)) (tk : Takes X (fun c d σ H => E σ c d H))
    (hb : ∀ (W : WX) (pn : List (Addr × Obj)) (xe : Value → Shared → Prop), Takes (X.tr pn xe) W → PassesOwn (model X.prog X.w) X.A X.env xe → DSs (X.tr pn xe) (WE W) body Tb)
    (hsu : ∀ (a : Addr) (oe : Obj) (cls : Value) (d : Option Addr) (pn : List (Addr × Obj)), Zc cls d oe → (∃ vs, oe.data = .fields vs) → DSs (X.suite a ((a, oe) :: pn)) E0' (b₀ :: suite) (Ts a cls d)) :
    DS X E (.Try body [.ExceptHandler (some (.Name x np)) (some n) (b₀ :: suite) pos'] [] [] pos) (dTry K C0 i Tb Ts) := by
  subst hk
  refine ⟨(L2.ps_try_as (tb := fun W => upS X.K (WE W) Tb) (ts := fun a cls d => upS X.K E0' (Ts a cls d)) hs hf hN hi hln hc tk (fun W pn xe tk' po => (hb W pn xe tk' po).p) (fun a oe cls d pn hz hf' => (hsu a oe cls d pn hz hf').p)).imp fun D σ H ⟨F, M, G, τ, N, rs, rep, h, lk⟩ => ?_⟩
  refine ⟨F, M, G, τ, _, rs, rep, h, ⟨lk.nx, lk.rt, lk.bk, lk.ct, fun σ' τ' F1 s1 rs1 C fs M' F2 H' d q s2 rep2 rx => ?_⟩⟩
  obtain ⟨b, eb, h1, h2⟩ := q
  have s12 := s1.trans s2
  refine ⟨b, eb, fun hb a ha => ?_, fun hb => ?_⟩
  · refine ⟨F2, M', G, _, _, (rs1.mono s2).set (rx.rv a C) i, rep2, h1 hb a d rx.some, ⟨?_, lk.rt.le s12, ?_, ?_, ?_⟩⟩
    · exact fun σ5 τ5 M5 F5 H5 q5 s5 rep5 rs5 => lk.nx _ _ M5 F5 H5 q5 (s12.trans s5) rep5 (rs5.none i)
    · exact fun σ5 τ5 M5 F5 H5 q5 s5 rep5 rs5 => lk.bk _ _ M5 F5 H5 q5 (s12.trans s5) rep5 (rs5.none i)
    · exact fun σ5 τ5 M5 F5 H5 q5 s5 rep5 rs5 => lk.ct _ _ M5 F5 H5 q5 (s12.trans s5) rep5 (rs5.none i)
    · exact fun _ _ _ _ _ => KX.none
  · exact (lk.ex σ' τ' F1 s1 rs1) C fs M' F2 H' d (h2 hb) s2 rep2 rx
/-- try .. except X: -/
def dTry0 (K : Frg) (C0 : Addr) (Tb : TSD) (Ts : Addr → Value → Option Addr → TSD) : TSD := fun N τ M => Tb { N with ex := fun τ' C fs M' => ∃ b, Exm K C C0 b ∧ (b = true → ∀ a d, (fs ≠ [] → d.isSome = true) → Ts a (.ref C) d { N with ex := fun _ => XF } τ' M') ∧ (b = false → N.ex τ' C fs M') } τ M
theorem ds_try0 {K : Frg} (hk : X.K = K) (hs : X.stack = X.env :: X.outer) (hf : X.env.frame = some X.env.locals) (hc : Names X x (.ref C0)) (tk : Takes X (fun c d σ H => E σ c d H))
    (hb : ∀ (W : WX) (pn : List (Addr × Obj)) (xe : Value → Shared → Prop), Takes (X.tr pn xe) W → PassesOwn (model X.prog X.w) X.A X.env xe → DSs (X.tr pn xe) (WE W) body Tb)
    (hsu : ∀ (a : Addr) (oe : Obj) (cls : Value) (d : Option Addr) (pn : List (Addr × Obj)), Zc cls d oe → (∃ vs, oe.data = .fields vs) → DSs (X.suite a ((a, oe) :: pn)) E0' (b₀ :: suite) (Ts a cls d)) :
    DS X E (.Try body [.ExceptHandler (some (.Name x np)) none (b₀ :: suite) pos'] [] [] pos) (dTry0 K C0 Tb Ts) := by
  subst hk
  refine ⟨(L2.ps_try_only (tb := fun W => upS X.K (WE W) Tb) (ts := fun a cls d => upS X.K E0' (Ts a cls d)) hs hf hc tk (fun W pn xe tk' po => (hb W pn xe tk' po).p) (fun a oe cls d pn hz hf' => (hsu a oe cls d pn hz hf').p)).imp fun D σ H ⟨F, M, G, τ, N, rs, rep, h, lk⟩ => ?_⟩
  refine ⟨F, M, G, τ, _, rs, rep, h, ⟨lk.nx, lk.rt, lk.bk, lk.ct, fun σ' τ' F1 s1 rs1 C fs M' F2 H' d q s2 rep2 rx => ?_⟩⟩
  obtain ⟨b, eb, h1, h2⟩ := q
  have s12 := s1.trans s2
  refine ⟨b, eb, fun hb a ha => ?_, fun hb => ?_⟩
  · exact ⟨F2, M', G, _, _, rs1.mono s2, rep2, h1 hb a d rx.some, ⟨lk.nx.le s12, lk.rt.le s12, lk.bk.le s12, lk.ct.le s12, fun _ _ _ _ _ => KX.none⟩⟩
  · exact (lk.ex σ' τ' F1 s1 rs1) C fs M' F2 H' d (h2 hb) s2 rep2 rx
/-- n.f of the caught one -/
def dXf (a : Addr) (cls : Value) (d : Option Addr) (f : Str) (i : Nat) (C : Addr) (To : TD) : TD := fun τ M R W => To τ M (fun v M1 => match v with
  | .exc a' d' C' gs => a' = a ∧ d' = d ∧ cls = .ref C ∧ C' = C ∧ d.isSome = true ∧ (gs.map (·.1)).Nodup ∧ (match gs[i]? with
    | some (g, x) => g = f ∧ R x M1
    | none => False)
  | _ => False) W
theorem de_xf {a : Addr} {oe : Obj} {cls : Value} {d : Option Addr} {pn : List (Addr × Obj)} (f : Str) (i : Nat) (T : XfC X.K C) (hno : PySem.W.findIn X.K (.ref C) f = some none)
    (hz : Zc cls d oe) (hf : ∃ vs, oe.data = .fields vs) (he : DE (X.suite a ((a, oe) :: pn)) E e To) (hb : attributeBase e f X.env (eval e X.env) = eval e X.env := by rfl) :
    DE (X.suite a ((a, oe) :: pn)) E (.Attribute e f pos) (dXf a cls d f i C To) := by
  refine ⟨(L2.pe_xf T hno hz hf he.p hb).imp fun σ H Q ⟨F, M, G, τ, R, W, rs, rep, h, k, kx⟩ => ?_⟩
  refine ⟨F, M, G, τ, _, W, rs, rep, h, fun v M1 F1 H1 w q s1 rep1 r1 => ?_, kx⟩
  dsimp only at q
  split at q
  · obtain ⟨rfl, rfl, rfl, rfl, ds, nd, q⟩ := q
    split at q
    · rename_i g z e
      obtain ⟨rfl, q⟩ := q
      cases r1 with
      | exc0 => cases ds
      | exc1 e1 rr =>
        obtain ⟨u, l, ru⟩ := rr.look nd e
        exact ⟨rfl, rfl, _, _, u, rfl, rep1.fz _ _ e1, l, k _ M1 F1 H1 _ q s1 rep1 ru⟩
    · exact q.elim
  · exact q.elim
/-- isinstance(n, c) of the caught one -/
def dIsX (K : Frg) (a : Addr) (cls : Value) (d : Option Addr) (C : Addr) (ds : List D) (M : MS) (R : D → MS → Prop) : Prop := match ds with
  | [.exc a' d' C' _, c] => a' = a ∧ d' = d ∧ cls = .ref C ∧ C' = C ∧ (match clsTag c with
    | some t => ∃ b, IsA K (.own C) t b ∧ R (.bl b) M
    | none => False)
  | _ => False
theorem rc_isX {K : Frg} {a : Addr} {cls : Value} {d : Option Addr} : RC K (fun xs H Q => cls = .ref C ∧ (∀ dd, d = some dd → ∃ fs, H dd = some (.xd fs)) ∧ rIsE K C a xs H Q) (dIsX K a cls d C) := fun F M G H vs ds R Q r rep h k => by
  unfold dIsX at h
  split at h
  · obtain ⟨rfl, rfl, rfl, rfl, h⟩ := h
    cases r with
    | cons r1 r2 =>
      cases r2 with
      | cons r2 r3 =>
        cases r3
        split at h
        · rename_i t e
          obtain ⟨b, hb, h⟩ := h
          have cv := rv_clsTag r2 e
          cases r1 with
          | exc0 => exact ⟨rfl, (fun dd z => nomatch z), _, _, b, rfl, fun u ru => cv.eq ru, hb, k _ M F H _ h (L2.Same.refl F) rep (.bl _)⟩
          | exc1 e1 rr => exact ⟨rfl, fun dd z => (by cases z; exact ⟨_, rep.fz _ _ e1⟩), _, _, b, rfl, fun u ru => cv.eq ru, hb, k _ M F H _ h (L2.Same.refl F) rep (.bl _)⟩
        · exact h.elim
  · exact h.elim
end
end RS

set_option maxRecDepth 100000
set_option maxHeartbeats 4000000
namespace RS
open PySem PySem.Spec PyProof.Rows L2 NdefX He PySem.W
variable [Tbls]
/-! ### the bag as data -/
theorem FnOk.ofCX0 {P : Program} {w : World} {K : Frg} {mg : Str → Option Value} {base : Heap} {CX : CXT} {k : Nat} {f : Addr} {fd : FuncData} {ps : List Str} {sp : Sp} (F : FnOk P w K mg base CX0 k f fd ps sp) : FnOk P w K mg base CX k f fd ps sp :=
  ⟨F.len, fun A outer s H args us vs Q E hr he hb hv hs => codeAny_mono (F.run A outer s H args us vs Q E hr he hb hv hs) fun r s' h => by
    match r, h with
    | .error e, h => exact h.elim
    | .ok (.ret u), h => exact h
    | .ok .next, h => exact h.elim
    | .ok .brk, h => exact h.elim
    | .ok .cont, h => exact h.elim⟩
theorem FnOk.toCX0 {P : Program} {w : World} {K : Frg} {mg : Str → Option Value} {base : Heap} {k : Nat} {f : Addr} {fd : FuncData} {ps : List Str} {sp : Sp} (F : FnOk P w K mg base (L2.CX P w) k f fd ps sp) : FnOk P w K mg base CX0 k f fd ps (fun vs H Q _ => sp vs H Q E0) :=
  ⟨fun vs H Q E h => F.len vs H Q E0 h, fun A outer s H args us vs Q E hr he hb hv hs => codeAny_mono (F.run A outer s H args us vs Q E0 hr he hb hv hs) fun r s' h => by
    match r, h with
    | .error e, h =>
      obtain ⟨_, _, _, _, _, _, _, _, _, _, _, _, z⟩ := h
      exact z.elim
    | .ok (.ret u), h => exact h
    | .ok .next, h => exact h.elim
    | .ok .brk, h => exact h.elim
    | .ok .cont, h => exact h.elim⟩
def bagDD (cs : List Int) (a d n f : Int) : List (Key × D) := [(.inr "cells", .lst (cs.map .int)), (.inr "at", .int a), (.inr "digits", .int d), (.inr "count", .int n), (.inr "fold", .int f)]
/-- a bag from which b numbers may still be drawn -/
def BagM (m : MO) (b : Nat) : Prop := ∃ (cs : List Int) (a d n f : Int), m = .dct (bagDD cs a d n f) ∧ 0 ≤ a ∧ 0 ≤ d ∧ 0 ≤ n ∧ n + b ≤ 2 ^ 50 ∧ 0 ≤ f ∧ f < 2 ^ 32
theorem BagM.mono {m : MO} {b b' : Nat} (h : b' ≤ b) (x : BagM m b) : BagM m b' := by
  obtain ⟨cs, a, d, n, f, h1, h2, h3, h4, h5, h6, h7⟩ := x
  exact ⟨cs, a, d, n, f, h1, h2, h3, h4, by omega, h6, h7⟩
theorem ints_rv {K : Frg} {F : Hp} : ∀ {vs : List V} {cs : List Int}, Rvs K F vs (cs.map D.int) → vs = cs.map V.int
  | _, [], .nil => rfl
  | _, c :: cs, .cons r rs => by cases r; rw [ints_rv rs]; rfl
theorem BagM.pen {K : Frg} {F : Hp} {M : MS} {G H : Hp} {p : Addr} {m : MO} {b : Nat} (rep : Rep K F M G H) (e : M p = some m) (x : BagM m b) : ∃ (c : Addr) (cs : List Int), F c = some (.lst (cs.map V.int)) ∧ Pen H p c b := by
  obtain ⟨cs, a, d, n, f, rfl, h2, h3, h4, h5, h6, h7⟩ := x
  obtain ⟨kvs, h1, r⟩ := rep.dct e
  unfold bagDD at r
  cases r with
  | cons r1 r =>
  cases r with
  | cons r2 r =>
  cases r with
  | cons r3 r =>
  cases r with
  | cons r4 r =>
  cases r with
  | cons r5 r =>
  cases r
  cases r1 with
  | lst fc rr =>
  cases r2; cases r3; cases r4; cases r5
  cases ints_rv rr
  exact ⟨_, cs, fc, ⟨cs, a, d, n, f, h1, rep.fz _ _ fc, h2, h3, h4, h5, h6, h7⟩⟩
theorem Pen.bag {K : Frg} {F : Hp} {H : Hp} {p c : Addr} {b : Nat} {cs : List Int} (x : Pen H p c b) (fc : F c = some (.lst (cs.map V.int))) (hc : H c = some (.lst (cs.map V.int))) : ∃ m o, H p = some o ∧ RepO K F (some o) m ∧ BagM m b := by
  obtain ⟨cs', a, d, n, f, h1, h2, h3, h4, h5, h6, h7, h8⟩ := x.ex
  rw [h2] at hc
  have e : cs' = cs := by
    have := HO.lst.inj (Option.some.inj hc)
    have inj : ∀ {xs ys : List Int}, xs.map V.int = ys.map V.int → xs = ys := by
      intro xs
      induction xs with
      | nil => intro ys h; cases ys with
        | nil => rfl
        | cons y ys => simp at h
      | cons x xs ih => intro ys h; cases ys with
        | nil => simp at h
        | cons y ys =>
          rw [List.map_cons, List.map_cons] at h
          obtain ⟨h1, h2⟩ := List.cons.inj h
          cases h1
          rw [ih h2]
    exact inj this
  subst e
  exact ⟨.dct (bagDD cs' a d n f), _, h1, .cons (.lst fc (Rvs.ints cs')) (.cons (.int _) (.cons (.int _) (.cons (.int _) (.cons (.int _) .nil)))), ⟨cs', a, d, n, f, rfl, h3, h4, h5, h6, h7, h8⟩⟩
def spDrawD : SpD := fun ds M R _ => ∃ (p : Addr) (m : MO) (i : Int) (b : Nat), ds = [.ref p, .int i] ∧ 0 < i ∧ i.natAbs.log2 < 9000 ∧ M p = some m ∧ BagM m (b + 1) ∧ ∀ z m', 0 ≤ z → z < i → BagM m' b → R (.int z) (updM M p m')
def spPenD : SpD := fun ds M R _ => ∃ ns : List Int, ds = [.scr ns] ∧ ns.length ≤ 63 ∧ ∀ p m, M p = none → BagM m (2 ^ 49) → R (.ref p) (updM M p m)
theorem draw_up {K : Frg} (vs : List V) (H : Hp) (Q : VK) (E : XK) (h : upSp K spDrawD vs H Q E) : spDraw vs H Q E := by
  obtain ⟨F, M, G, ds, R, W, rv, rep, ⟨p, m, i, b, rfl, h1, h2, h3, h4, h5⟩, k, kx⟩ := h
  cases rv with
  | cons r1 rv =>
  cases rv with
  | cons r2 rv =>
  cases rv; cases r1; cases r2
  obtain ⟨c, cs, fc, pn⟩ := h4.pen rep h3
  refine ⟨p, c, i, b, rfl, h1, h2, pn, fun z H' z0 z1 pn' sv => ?_⟩
  have np : ∀ {a : Addr} {o : HO}, F a = some o → a ≠ p := fun e q => by subst q; rw [(rep.mu _ _ h3).1] at e; cases e
  have hc : H' c = some (.lst (cs.map V.int)) := sv _ _ (np fc) (rep.fz _ _ fc)
  obtain ⟨m', o, e1, ro, bm⟩ := pn'.bag (K := K) fc hc
  refine k _ _ F H' _ (h5 z m' z0 z1 bm) (L2.Same.refl F) ⟨fun a o e => sv _ _ (np e) (rep.fz _ _ e), fun a n e => ?_, fun a o e => ?_, rep.nt, rep.ng, tabs_rep rep h3 sv⟩ (.int z)
  · by_cases ha : a = p
    · subst ha
      rw [updM_same] at e
      cases e
      rw [e1]
      exact ⟨(rep.mu _ _ h3).1, (rep.mu _ _ h3).2.1, ro⟩
    · rw [updM_ne ha] at e
      obtain ⟨x, y, w⟩ := rep.mu _ _ e
      obtain ⟨u, hu⟩ := w.some
      rw [sv _ _ ha hu, ← hu]
      exact ⟨x, y, w⟩
  · have ha : a ≠ p := fun q => by subst q; rw [(rep.mu _ _ h3).2.1] at e; cases e
    exact ⟨sv _ _ ha (rep.fr _ _ e).1, (rep.fr _ _ e).2⟩
theorem pen_up {K : Frg} (vs : List V) (H : Hp) (Q : VK) (E : XK) (h : upSp K spPenD vs H Q E) : spPen K vs H Q E := by
  obtain ⟨F, M, G, ds, R, W, rv, rep, ⟨ns, rfl, h1, h2⟩, k, kx⟩ := h
  cases rv with
  | cons r1 rv =>
  cases rv
  cases r1 with
  | scr sq =>
  refine ⟨_, ns, rfl, rep.fz.seq sq, h1, fun p c H' s hp hc pn => ?_⟩
  obtain ⟨cs, a, d, n, f, e1, e2, _⟩ := id pn.ex
  have npc : p ≠ c := ne_of e1 e2 fun z => nomatch z
  have s' : L2.Same F (upd F c (.lst (cs.map V.int))) := Same.new (rep.freeF hc)
  obtain ⟨m, o, e3, ro, bm⟩ := pn.bag (K := K) (F := upd F c (.lst (cs.map V.int))) upd_same e2
  refine k _ _ _ H' _ (h2 p m (rep.freeM hp) bm) s' ⟨fun b o e => ?_, fun b n e => ?_, fun b o e => ?_, fun b o e => ?_, rep.ng, rep.tb.ext s⟩ (.ref p)
  · by_cases hb : b = c
    · subst hb; rw [upd_same] at e; cases e; exact e2
    · rw [upd_ne hb] at e; exact s _ _ (rep.fz _ _ e)
  · by_cases hb : b = p
    · subst hb
      rw [updM_same] at e
      cases e
      rw [e3, upd_ne npc]
      exact ⟨rep.freeF hp, rep.freeG hp, ro⟩
    · rw [updM_ne hb] at e
      obtain ⟨x, y, w⟩ := rep.mu _ _ e
      obtain ⟨u, hu⟩ := w.some
      have hbc : b ≠ c := fun q => by subst q; rw [hc] at hu; cases hu
      rw [upd_ne hbc, s _ _ hu, ← hu]
      exact ⟨x, y, w.mono s'⟩
  · have hbc : b ≠ c := fun q => by subst q; rw [rep.freeG hc] at e; cases e
    rw [upd_ne hbc]
    exact ⟨s _ _ (rep.fr _ _ e).1, (rep.fr _ _ e).2⟩
  · by_cases hb : b = c
    · subst hb; rw [upd_same] at e; cases e; exact True.intro
    · rw [upd_ne hb] at e; exact rep.nt _ _ e
/-- the law, from what its def does with data -/
def spLawD : SpD := fun ds _ R _ => ∃ ns : List Int, ds = [.scr ns] ∧ ns.length ≤ 63 ∧ ∀ M', R (.bl true) M'
def spLawP (K : Frg) : Sp := fun vs H Q _ => ∃ (a : Addr) (ns : List Int), vs = [.ref a] ∧ SqL K H a (ns.map V.int) ∧ ns.length ≤ 63 ∧ ∀ H', Q (.bl true) H'
def noTb (H : Hp) : Hp := fun b => match H b with
  | some (.tbl _) => none
  | o => o
theorem noTb_eq {H : Hp} {b : Addr} {o : HO} (e : noTb H b = some o) : H b = some o ∧ Hd o := by
  unfold noTb at e
  split at e
  · cases e
  · rename_i o' hn
    refine ⟨e, ?_⟩
    cases o <;> first | exact True.intro | exact (hn _ e).elim
theorem noTb_of {H : Hp} {b : Addr} {o : HO} (e : H b = some o) (h : Hd o) : noTb H b = some o := by
  unfold noTb
  rw [e]
  cases o <;> first | rfl | exact h.elim
theorem sqL_noTb {K : Frg} {H : Hp} {a : Addr} {xs : List V} (h : SqL K H a xs) : SqL K (noTb H) a xs := by
  rcases h with (h | ⟨o, h⟩) | h
  · exact .inl (.inl (noTb_of h True.intro))
  · exact .inl (.inr ⟨o, noTb_of h True.intro⟩)
  · exact .inr h
theorem law_upT {K : Frg} (vs : List V) (H : Hp) (Q : VK) (E : XK) (tb : LamX.Tabs TL H) (h : spLawP K vs H Q E) : upSp K spLawD vs H Q E := by
  obtain ⟨a, ns, rfl, sq, h1, h2⟩ := h
  refine ⟨noTb H, fun _ => none, fun _ => none, [.scr ns], fun d _ => d = .bl true, XF, .cons (.scr (sqL_noTb sq)) .nil, ⟨fun _ _ e => (noTb_eq e).1, fun _ _ e => (nomatch e), fun _ _ e => (nomatch e), fun _ _ e => (noTb_eq e).2, fun _ _ e => (nomatch e), tb⟩, ⟨ns, rfl, h1, fun _ => rfl⟩, fun d M' F' H' v e _ _ r => ?_, KX.none⟩
  cases e
  cases r
  exact h2 H'
theorem law_up {K : Frg} (vs : List V) (H : Hp) (Q : VK) (E : XK) (h : spLawP K vs H Q E) (hT : TL = [] := by rfl) : upSp K spLawD vs H Q E := law_upT vs H Q E (fun p hp => by rw [hT] at hp; exact nomatch hp) h
end RS

set_option maxRecDepth 100000
set_option maxHeartbeats 4000000
namespace RS
open PySem PySem.Spec PyProof.Rows L2 NdefX He PySem.W
variable [Tbls]
section
variable {X : Cx} {E : L2.St → XK} {pos : Pos} {a b c : Expr} {rest : List Expr} {Ta Tb Tc : TD} {A : TTD}
/-! ### and, or, not as values -/
theorem de_one {op} (h : DE X E a Ta) : DE X E (.BoolOp op [a] pos) Ta := ⟨pe_one h.p⟩
def dAndV (Ta Tb : TD) : TD := fun τ M R W => Ta τ M (fun d M1 => match d with
  | .bl k => dIte k (Tb τ M1 R W) (R (.bl false) M1)
  | _ => False) W
def dOrV (Ta Tb : TD) : TD := fun τ M R W => Ta τ M (fun d M1 => match d with
  | .bl k => dIte k (R (.bl true) M1) (Tb τ M1 R W)
  | _ => False) W
theorem de_and (ha : DE X E a Ta) (hb : DE X E (.BoolOp .And (b :: rest) pos) Tb) : DE X E (.BoolOp .And (a :: b :: rest) pos) (dAndV Ta Tb) := by
  refine ⟨(pe_and ha.p hb.p).imp fun σ H Q ⟨F, M, G, τ, R, W, rs, rep, h, k, kx⟩ => ?_⟩
  refine ⟨F, M, G, τ, _, W, rs, rep, h, fun d M1 F1 H1 v q s1 rep1 r1 => ?_, kx⟩
  cases d <;> try exact q.elim
  cases r1
  refine ⟨_, rfl, ?_⟩
  rename_i z
  cases z with
  | true => exact iteT ⟨F1, M1, G, τ, R, W, rs.mono s1, rep1, q.1 rfl, k.le s1, kx.le s1⟩
  | false => exact iteF (k _ M1 F1 H1 _ (q.2 rfl) s1 rep1 (.bl _))
theorem de_or (ha : DE X E a Ta) (hb : DE X E (.BoolOp .Or (b :: rest) pos) Tb) : DE X E (.BoolOp .Or (a :: b :: rest) pos) (dOrV Ta Tb) := by
  refine ⟨(pe_or ha.p hb.p).imp fun σ H Q ⟨F, M, G, τ, R, W, rs, rep, h, k, kx⟩ => ?_⟩
  refine ⟨F, M, G, τ, _, W, rs, rep, h, fun d M1 F1 H1 v q s1 rep1 r1 => ?_, kx⟩
  cases d <;> try exact q.elim
  cases r1
  refine ⟨_, rfl, ?_⟩
  rename_i z
  cases z with
  | false => exact iteF ⟨F1, M1, G, τ, R, W, rs.mono s1, rep1, q.2 rfl, k.le s1, kx.le s1⟩
  | true => exact iteT (k _ M1 F1 H1 _ (q.1 rfl) s1 rep1 (.bl _))
def dNotV (Ta : TD) : TD := fun τ M R W => Ta τ M (fun d M1 => match d with
  | .bl k => R (.bl (!k)) M1
  | _ => False) W
theorem de_not (ha : DE X E a Ta) : DE X E (.UnaryOp .Not a pos) (dNotV Ta) := by
  refine ⟨(pe_not ha.p).imp fun σ H Q ⟨F, M, G, τ, R, W, rs, rep, h, k, kx⟩ => ?_⟩
  refine ⟨F, M, G, τ, _, W, rs, rep, h, fun d M1 F1 H1 v q s1 rep1 r1 => ?_, kx⟩
  cases d <;> try exact q.elim
  cases r1
  exact ⟨_, rfl, k _ M1 F1 H1 _ q s1 rep1 (.bl _)⟩
def dIfE (A : TTD) (Ta Tb : TD) : TD := fun τ M R W => A τ M (fun k M1 => dIte k (Ta τ M1 R W) (Tb τ M1 R W)) W
theorem de_ifExp (hc : DT X E c A) (ha : DE X E a Ta) (hb : DE X E b Tb) : DE X E (.IfExp c a b pos) (dIfE A Ta Tb) := by
  refine ⟨(pe_ifExp hc.p ha.p hb.p).imp fun σ H Q ⟨F, M, G, τ, R, W, rs, rep, h, k, kx⟩ => ?_⟩
  refine ⟨F, M, G, τ, _, W, rs, rep, h, fun d M1 F1 H1 q s1 rep1 => ?_, kx⟩
  cases d with
  | true => exact iteT ⟨F1, M1, G, τ, R, W, rs.mono s1, rep1, q.1 rfl, k.le s1, kx.le s1⟩
  | false => exact iteF ⟨F1, M1, G, τ, R, W, rs.mono s1, rep1, q.2 rfl, k.le s1, kx.le s1⟩
def dNeg (Ta : TD) : TD := fun τ M R W => Ta τ M (fun d M1 => match d with
  | .int i => R (.int (-i)) M1
  | _ => False) W
theorem de_neg (ha : DE X E a Ta) : DE X E (.UnaryOp .USub a pos) (dNeg Ta) := by
  refine ⟨(pe_un un_neg ha.p).imp fun σ H Q ⟨F, M, G, τ, R, W, rs, rep, h, k, kx⟩ => ?_⟩
  refine ⟨F, M, G, τ, _, W, rs, rep, h, fun d M1 F1 H1 v q s1 rep1 r1 => ?_, kx⟩
  cases d <;> try exact q.elim
  cases r1
  exact ⟨_, rfl, k _ M1 F1 H1 _ q s1 rep1 (.int _)⟩
/-- a < b < c of numbers -/
def dChain (f g : Int → Int → Bool) (Ta Tb Tc : TD) : TD := fun τ M R W => Ta τ M (fun x M1 => Tb τ M1 (fun y M2 => match x, y with
  | .int i, .int j => dIte (f i j) (Tc τ M2 (fun z M3 => match z with
    | .int l => R (.bl (g j l)) M3
    | _ => False) W) (R (.bl false) M2)
  | _, _ => False) W) W
theorem de_chain {op op' : CmpOp} {f g : Int → Int → Bool} (ho : OpR X (compareOp op) (rI0 fun i j => .bl (f i j))) (ho' : OpR X (compareOp op') (rI0 fun i j => .bl (g i j))) (ha : DE X E a Ta) (hb : DE X E b Tb) (hc : DE X E c Tc)
    (hm : lastMarks [op, op'] [b, c] = false := by with_unfolding_all rfl) : DE X E (.Compare a [op, op'] [b, c] pos) (dChain f g Ta Tb Tc) := by
  refine ⟨(pe_chain ho ho' ha.p hb.p hc.p hm).imp fun σ H Q ⟨F, M, G, τ, R, W, rs, rep, h, k, kx⟩ => ?_⟩
  refine ⟨F, M, G, τ, _, W, rs, rep, h, fun d M1 F1 H1 v q s1 rep1 r1 => ?_, kx⟩
  refine ⟨F1, M1, G, τ, _, W, rs.mono s1, rep1, q, fun e M2 F2 H2 u q2 s2 rep2 r2 => ?_, kx.le s1⟩
  dsimp only at q2
  split at q2
  · rename_i i j
    cases r1; cases r2
    refine ⟨_, _, rfl, rfl, _, rfl, ?_⟩
    have s12 := s1.trans s2
    cases z : f i j with
    | true =>
      refine iteT ⟨F2, M2, G, τ, _, W, rs.mono s12, rep2, q2.1 z, fun w M3 F3 H3 u q3 s3 rep3 r3 => ?_, kx.le s12⟩
      cases w <;> try exact q3.elim
      cases r3
      exact ⟨_, _, rfl, rfl, k _ M3 F3 H3 _ q3 (s12.trans s3) rep3 (.bl _)⟩
    | false => exact iteF (k _ M2 F2 H2 _ (q2.2 z) s12 rep2 (.bl _))
  · exact q2.elim
theorem dt_chain {op op' : CmpOp} {f g : Int → Int → Bool} (ho : OpR X (compareOp op) (rI0 fun i j => .bl (f i j))) (ho' : OpR X (compareOp op') (rI0 fun i j => .bl (g i j))) (ha : DE X E a Ta) (hb : DE X E b Tb) (hc : DE X E c Tc)
    (hm : lastMarks [op, op'] [b, c] = false := by with_unfolding_all rfl) : DT X E (.Compare a [op, op'] [b, c] pos) (dTB (dChain f g Ta Tb Tc)) := by
  refine ⟨(pt_chain ho ho' ha.p hb.p hc.p hm).imp fun σ H Q ⟨F, M, G, τ, R, W, rs, rep, h, k, kx⟩ => ?_⟩
  refine ⟨F, M, G, τ, _, W, rs, rep, h, fun d M1 F1 H1 v q s1 rep1 r1 => ?_, kx⟩
  refine ⟨F1, M1, G, τ, _, W, rs.mono s1, rep1, q, fun e M2 F2 H2 u q2 s2 rep2 r2 => ?_, kx.le s1⟩
  dsimp only at q2
  split at q2
  · rename_i i j
    cases r1; cases r2
    refine ⟨_, _, rfl, rfl, _, rfl, ?_⟩
    have s12 := s1.trans s2
    cases z : f i j with
    | true =>
      refine iteT ⟨F2, M2, G, τ, _, W, rs.mono s12, rep2, q2.1 z, fun w M3 F3 H3 u q3 s3 rep3 r3 => ?_, kx.le s12⟩
      cases w <;> try exact q3.elim
      cases r3
      exact ⟨_, _, rfl, rfl, _, rfl, k _ M3 F3 H3 q3 (s12.trans s3) rep3⟩
    | false => exact iteF ⟨_, rfl, k _ M2 F2 H2 (q2.2 z) s12 rep2⟩
  · exact q2.elim
/-! ### texts -/
def dFmt (Ta : TD) : TD := fun τ M R W => Ta τ M (fun d M1 => match d with
  | .str y => y.length ≤ sizeLine ∧ R (.str y) M1
  | .int i => i.natAbs.log2 < 1920 ∧ R (.str (toString i)) M1
  | _ => False) W
theorem de_fmt (ha : DE X E a Ta) : DE X E (.FormattedValue a (-1) none pos) (dFmt Ta) := by
  refine ⟨(pe_fmt ha.p).imp fun σ H Q ⟨F, M, G, τ, R, W, rs, rep, h, k, kx⟩ => ?_⟩
  refine ⟨F, M, G, τ, _, W, rs, rep, h, fun d M1 F1 H1 v q s1 rep1 r1 => ?_, kx⟩
  dsimp only at q
  split at q
  · cases r1
    exact .inl ⟨_, rfl, q.1, k _ M1 F1 H1 _ q.2 s1 rep1 (.str _)⟩
  · cases r1
    exact .inr ⟨_, rfl, q.1, k _ M1 F1 H1 _ q.2 s1 rep1 (.str _)⟩
  · exact q.elim
inductive DJ (X : Cx) (E : L2.St → XK) : List Expr → List TD → Prop where
  | nil : DJ X E [] []
  | cons {e : Expr} {t : TD} {es : List Expr} {ts : List TD} (h : DE X E e t) (r : DJ X E es ts) : DJ X E (e :: es) (t :: ts)
def dJs : List TD → Str → SD → MS → (Str → MS → Prop) → XD → Prop
  | [], acc, _, M, R, _ => R acc M
  | t :: ts, acc, τ, M, R, W => t τ M (fun d M1 => match d with
    | .str y => (acc ++ y).length ≤ sizeLine ∧ dJs ts (acc ++ y) τ M1 R W
    | _ => False) W
theorem DJ.pj {es : List Expr} {ts : List TD} (h : DJ X E es ts) : PJ X es (ts.map (up X.K E)) := by
  induction h with
  | nil => exact .nil
  | cons h r ih => exact .cons h.p ih
theorem up_js {σ : L2.St} {Q : Str → Hp → Prop} : ∀ {ts : List TD} {acc : Str} {H : Hp} {F G : Hp} {M : MS} {τ : SD} {R : Str → MS → Prop} {W : XD}, Rs X.K F σ τ → Rep X.K F M G H → dJs ts acc τ M R W → (∀ y M' F' H', R y M' → L2.Same F F' → Rep X.K F' M' G H' → Q y H') → KX X.K F G W (E σ) → tJs (ts.map (up X.K E)) acc σ H Q
  | [], acc, H, F, G, M, τ, R, W, rs, rep, h, k, kx => k acc M F H h (L2.Same.refl F) rep
  | t :: ts, acc, H, F, G, M, τ, R, W, rs, rep, h, k, kx => by
    refine ⟨F, M, G, τ, _, W, rs, rep, h, fun d M1 F1 H1 v q s1 rep1 r1 => ?_, kx⟩
    cases d <;> try exact q.elim
    cases r1
    exact ⟨_, rfl, q.1, up_js (rs.mono s1) rep1 q.2 (fun y M' F' H' hy s => k y M' F' H' hy (s1.trans s)) (kx.le s1)⟩
def dJoined (ts : List TD) : TD := fun τ M R W => dJs ts Str.empty τ M (fun y M1 => R (.str y) M1) W
theorem de_joined {v1 v2 : Expr} {rest : List Expr} {ts : List TD} (h : DJ X E (v1 :: v2 :: rest) ts) : DE X E (.JoinedStr (v1 :: v2 :: rest) pos) (dJoined ts) :=
  ⟨(pe_joined h.pj).imp fun σ H Q ⟨F, M, G, τ, R, W, rs, rep, h, k, kx⟩ => up_js rs rep h (fun y M' F' H' hy s rep' => k _ M' F' H' _ hy s rep' (.str y)) kx⟩
theorem de_joined1 (h : DE X E a Ta) : DE X E (.JoinedStr [a] pos) Ta := ⟨pe_joined1 h.p⟩
def texts : List D → Option (List Str)
  | [] => some []
  | .str b :: r => (texts r).map (b :: ·)
  | _ => none
theorem texts_rv {K : Frg} {F : Hp} : ∀ {vs : List V} {ds : List D} {bs : List Str}, Rvs K F vs ds → texts ds = some bs → vs = bs.map V.str
  | _, [], bs, .nil, e => by cases e; rfl
  | _, d :: ds, bs, .cons r rs, e => by
    cases d <;> first | (simp only [texts] at e; cases e; done) | skip
    cases r
    unfold texts at e
    cases h : texts ds with
    | none => rw [h] at e; cases e
    | some cs =>
      rw [h] at e
      cases e
      rw [texts_rv rs h]
      rfl
theorem texts_map {α : Type} (f : α → Str) : ∀ xs : List α, texts (xs.map fun x => D.str (f x)) = some (xs.map f)
  | [] => rfl
  | x :: xs => by rw [List.map_cons, texts, texts_map f xs]; rfl
def dJoin (To Ta : TD) : TD := fun τ M R W => To τ M (fun s M1 => match s with
  | .str s => Ta τ M1 (fun d M2 => match vw M2 d with
    | .lst xs => ∃ ys, texts xs = some ys ∧ (ys.map (·.length)).sum + ys.length * s.length ≤ 16777216 ∧ R (.str (Txt.join s ys)) M2
    | .tup xs => ∃ ys, texts xs = some ys ∧ (ys.map (·.length)).sum + ys.length * s.length ≤ 16777216 ∧ R (.str (Txt.join s ys)) M2
    | _ => False) W
  | _ => False) W
theorem de_join {apos : Pos} (ho : DE X E a Ta) (he : DE X E b Tb) (hs : starEach [b] X.env = [(false, eval b X.env)] := by rfl) (hbase : attributeBase a "join" X.env (eval a X.env) = eval a X.env := by rfl) (hline : (apos.endLine == pos.line) = true := by rfl) :
    DE X E (.Call (.Attribute a "join" apos) [b] [] pos) (dJoin Ta Tb) := by
  refine ⟨(pe_join ho.p he.p hs hbase hline).imp fun σ H Q ⟨F, M, G, τ, R, W, rs, rep, h, k, kx⟩ => ?_⟩
  refine ⟨F, M, G, τ, _, W, rs, rep, h, fun d M1 F1 H1 v q s1 rep1 r1 => ?_, kx⟩
  cases d <;> try exact q.elim
  cases r1
  refine ⟨⟨_, rfl⟩, F1, M1, G, τ, _, W, rs.mono s1, rep1, q, fun d M2 F2 H2 u q2 s2 rep2 r2 => ?_, kx.le s1⟩
  dsimp only at q2
  split at q2
  · rename_i xs e
    obtain ⟨ys, e2, b1, q2⟩ := q2
    obtain ⟨p, vs, rfl, h1, rr⟩ := vw_lst rep2 r2 e
    rw [texts_rv rr e2] at h1
    exact ⟨_, p, ys, rfl, rfl, .inl (SqL.of h1), b1, k _ M2 F2 H2 _ q2 (s1.trans s2) rep2 (.str _)⟩
  · rename_i xs e
    obtain ⟨ys, e2, b1, q2⟩ := q2
    obtain ⟨p, vs, rfl, h1, rr⟩ := vw_tup rep2 r2 e
    rw [texts_rv rr e2] at h1
    exact ⟨_, p, ys, rfl, rfl, .inr (Same.sqT rep2.fz h1), b1, k _ M2 F2 H2 _ q2 (s1.trans s2) rep2 (.str _)⟩
  · exact q2.elim
/-! ### what passes -/
theorem passLS {X : Cx} : ∀ σ, PassesAt (L2.CX X.prog X.w) X σ (E0' σ) := fun σ pins H s e s' _ h => by
  obtain ⟨_, _, _, _, _, _, _, _, _, _, _, _, z⟩ := h
  exact z.elim
end
end RS

set_option maxRecDepth 100000
set_option maxHeartbeats 4000000
namespace RS
open PySem PySem.Spec PyProof.Rows L2 NdefX He PySem.W
variable [Tbls]
/-! ### a for over a list that could change, but does not -/
def dLoopM (a : Addr) (xs : List D) (tg : TGD) (tb : TSD) (N : EndsD) : List D → SD → MS → Prop
  | [], τ, M => N.nx τ M
  | d :: r, τ, M => tg d τ M (fun τ1 M1 => tb { N with nx := fun τ2 M2 => M2 a = some (.lst xs) ∧ dLoopM a xs tg tb N r τ2 M2, ct := fun τ2 M2 => M2 a = some (.lst xs) ∧ dLoopM a xs tg tb N r τ2 M2, bk := N.nx } τ1 M1) N.ex
def dForV (To : TD) (tg : TGD) (tb : TSD) : TSD := fun N τ M => To τ M (fun d M1 => match d with
  | .lst xs => dLoop tg tb N xs τ M1
  | .tup xs => dLoop tg tb N xs τ M1
  | .ref a => (match M1 a with
    | some (.lst xs) => dLoopM a xs tg tb N xs τ M1
    | _ => False)
  | _ => False) (N.ex τ)
section
variable {X : Cx} {E : L2.St → XK} {pos : Pos} {tg iter c : Expr} {body : List Stmt} {To : TD} {g : TGD} {tb : TSD}
theorem ds_forV (hp : PassesOwn (model X.prog X.w) X.A X.env X.xe) (hc : X.calm = true) (ho : DE X E iter To) (hg : DG X E tg g) (hb : DSs X E body tb) (hs : ∀ x, foldedSetIterable iter X.env x = pure x := by intro _; rfl) : DS X E (.For tg iter body [] pos) (dForV To g tb) := by
  refine ⟨(ps_for hp hc (pi_sq ho.p) hg.p hb.p hs).imp fun De σ H ⟨F, M, G, τ, N, rs, rep, h, lk⟩ => ?_⟩
  refine ⟨F, M, G, τ, _, _, rs, rep, h, fun d M1 F1 H1 v q s1 rep1 r1 => ?_, lk.ex.at rs⟩
  have frozen : ∀ (ds : List D) (J : L2.It), (∀ G', ItOk X.K G' J F1 ds) → dLoop g tb N ds τ M1 →
      ∃ W : Nat → Nat → L2.St → Hp → Prop, (∃ m, W 0 m σ H1) ∧ ∀ i m σ H, W i m σ H → (J.stop i H ∧ De.nx σ H) ∨ (J.go i H ∧ ∃ N' : L2.St → Hp → Prop, (∀ σ' H', N' σ' H' → ∃ m', m' < m ∧ W (i + 1) m' σ' H') ∧ ∀ x H', J.yld i H x H' → upG X.K E g x σ H' fun σ2 H2 => upS X.K E tb { De with nx := N', ct := N', bk := De.nx } σ2 H2) := by
    intro ds J ok q
    have ok := ok G
    refine ⟨fun i m σ H => m = ds.length - i ∧ i ≤ ds.length ∧ ∃ F2 M2 τ2, L2.Same F1 F2 ∧ Rs X.K F2 σ τ2 ∧ Rep X.K F2 M2 G H ∧ dLoop g tb N (ds.drop i) τ2 M2, ⟨_, rfl, Nat.zero_le _, F1, M1, τ, L2.Same.refl F1, rs.mono s1, rep1, q⟩, ?_⟩
    rintro i m σ2 H2 ⟨rfl, hi, F2, M2, τ2, s2, rs2, rep2, q2⟩
    obtain ⟨o1, o2⟩ := ok i F2 M2 H2 s2 rep2 hi
    by_cases hlt : i < ds.length
    · obtain ⟨go, yld⟩ := o2 hlt
      refine .inr ⟨go, fun σ' H' => ∃ F3 M3 τ3, L2.Same F1 F3 ∧ Rs X.K F3 σ' τ3 ∧ Rep X.K F3 M3 G H' ∧ dLoop g tb N (ds.drop (i + 1)) τ3 M3, fun σ' H' z => ⟨ds.length - (i + 1), by omega, rfl, hlt, z⟩, fun x H' y => ?_⟩
      obtain ⟨F3, d, s3, rep3, e, r⟩ := yld x H' y
      have ed : ds.drop i = d :: ds.drop (i + 1) := by
        obtain ⟨h1, h2⟩ := List.getElem?_eq_some_iff.mp e
        rw [List.drop_eq_getElem_cons hlt, h2]
      rw [ed] at q2
      have s13 := s2.trans s3
      refine ⟨F3, M2, G, τ2, d, _, N.ex, r, rs2.mono s3, rep3, q2, fun σ4 τ4 M4 F4 H4 q4 s4 rep4 rs4 => ?_, lk.ex.le (s1.trans s13)⟩
      have s14 := s13.trans s4
      refine ⟨F4, M4, G, τ4, _, rs4, rep4, q4, ⟨?_, lk.rt.le (s1.trans s14), lk.nx.le (s1.trans s14), ?_, lk.ex.le (s1.trans s14)⟩⟩
      · exact fun σ5 τ5 M5 F5 H5 q5 s5 rep5 rs5 => ⟨F5, M5, τ5, s14.trans s5, rs5, rep5, q5⟩
      · exact fun σ5 τ5 M5 F5 H5 q5 s5 rep5 rs5 => ⟨F5, M5, τ5, s14.trans s5, rs5, rep5, q5⟩
    · have e : i = ds.length := by omega
      refine .inl ⟨o1 e, ?_⟩
      rw [e, List.drop_length] at q2
      exact lk.nx _ _ _ F2 _ q2 (s1.trans s2) rep2 rs2
  cases d <;> try exact q.elim
  rotate_left
  · rename_i ds
    cases r1 with
    | tup sq rr =>
    rename_i a vs
    refine ⟨a, rfl, .inr ⟨⟨vs, Same.sqT rep1.fz sq⟩, frozen ds _ (fun G' => itok_same rr fun F' M' H s rep i => ?_) q⟩⟩
    have sq' : SqT X.K H a vs := Same.sqT rep.fz (Same.sqT s sq)
    exact ⟨fun hi => ⟨vs, sq', hi⟩, fun x hx => ⟨vs, x, sq', hx⟩, fun x H' ⟨e, y⟩ => ⟨e, fun z hz => by rw [y vs sq'] at hz; exact Option.some.inj hz⟩⟩
  · rename_i ds
    cases r1 with
    | lst sq rr =>
    rename_i a vs
    refine ⟨a, rfl, .inl ⟨⟨vs, SqL.of (rep1.fz _ _ sq)⟩, frozen ds _ (fun G' => itok_same rr fun F' M' H s rep i => ?_) q⟩⟩
    have sq' : SqL X.K H a vs := SqL.of (rep.fz _ _ (s _ _ sq))
    exact ⟨fun hi => ⟨vs, sq', hi⟩, fun x hx => ⟨vs, x, sq', hx⟩, fun x H' ⟨e, y⟩ => ⟨e, fun z hz => by rw [y vs sq'] at hz; exact Option.some.inj hz⟩⟩
  · rename_i a
    cases r1
    dsimp only at q
    split at q
    · rename_i xs em
      obtain ⟨vs0, e0, rr0⟩ := rep1.lst em
      refine ⟨a, rfl, .inl ⟨⟨_, SqL.of e0⟩, ?_⟩⟩
      refine ⟨fun i m σ H => m = xs.length - i ∧ i ≤ xs.length ∧ ∃ F2 M2 τ2, L2.Same F1 F2 ∧ Rs X.K F2 σ τ2 ∧ Rep X.K F2 M2 G H ∧ M2 a = some (.lst xs) ∧ dLoopM a xs g tb N (xs.drop i) τ2 M2, ⟨_, rfl, Nat.zero_le _, F1, M1, τ, L2.Same.refl F1, rs.mono s1, rep1, em, q⟩, ?_⟩
      rintro i m σ2 H2 ⟨rfl, hi, F2, M2, τ2, s2, rs2, rep2, em2, q2⟩
      obtain ⟨vs, ev, rr⟩ := rep2.lst em2
      have hl := rr.len
      by_cases hlt : i < xs.length
      · have ex : vs[i]? = some (vs[i]'(by omega)) := List.getElem?_eq_getElem _
        obtain ⟨d, e, r⟩ := rr.at ex
        refine .inr ⟨⟨vs, _, SqL.of ev, ex⟩, fun σ' H' => ∃ F3 M3 τ3, L2.Same F1 F3 ∧ Rs X.K F3 σ' τ3 ∧ Rep X.K F3 M3 G H' ∧ M3 a = some (.lst xs) ∧ dLoopM a xs g tb N (xs.drop (i + 1)) τ3 M3, fun σ' H' z => ⟨xs.length - (i + 1), by omega, rfl, hlt, z⟩, fun x H' y => ?_⟩
        obtain ⟨eH, y⟩ := y
        subst eH
        have := y vs (SqL.of ev)
        rw [ex] at this
        cases this
        have ed : xs.drop i = d :: xs.drop (i + 1) := by
          obtain ⟨h1, h2⟩ := List.getElem?_eq_some_iff.mp e
          rw [List.drop_eq_getElem_cons hlt, h2]
        rw [ed] at q2
        refine ⟨F2, M2, G, τ2, d, _, N.ex, r, rs2, rep2, q2, fun σ4 τ4 M4 F4 H4 q4 s4 rep4 rs4 => ?_, lk.ex.le (s1.trans s2)⟩
        have s14 := s2.trans s4
        refine ⟨F4, M4, G, τ4, _, rs4, rep4, q4, ⟨?_, lk.rt.le (s1.trans s14), lk.nx.le (s1.trans s14), ?_, lk.ex.le (s1.trans s14)⟩⟩
        · exact fun σ5 τ5 M5 F5 H5 q5 s5 rep5 rs5 => ⟨F5, M5, τ5, s14.trans s5, rs5, rep5, q5.1, q5.2⟩
        · exact fun σ5 τ5 M5 F5 H5 q5 s5 rep5 rs5 => ⟨F5, M5, τ5, s14.trans s5, rs5, rep5, q5.1, q5.2⟩
      · have e : i = xs.length := by omega
        refine .inl ⟨⟨vs, SqL.of ev, by omega⟩, ?_⟩
        rw [e, List.drop_length] at q2
        exact lk.nx _ _ _ F2 _ q2 (s1.trans s2) rep2 rs2
    · exact q.elim
/-- the same in one: o is the list that could change -/
def chk (o : Option Addr) (xs : List D) (M : MS) : Prop := match o with
  | none => True
  | some a => M a = some (.lst xs)
def dLoopO (o : Option Addr) (xs : List D) (tg : TGD) (tb : TSD) (N : EndsD) : List D → SD → MS → Prop
  | [], τ, M => N.nx τ M
  | d :: r, τ, M => tg d τ M (fun τ1 M1 => tb { N with nx := fun τ2 M2 => chk o xs M2 ∧ dLoopO o xs tg tb N r τ2 M2, ct := fun τ2 M2 => chk o xs M2 ∧ dLoopO o xs tg tb N r τ2 M2, bk := N.nx } τ1 M1) N.ex
def seqOf (M : MS) : D → Option (List D × Option Addr)
  | .lst xs => some (xs, none)
  | .tup xs => some (xs, none)
  | .ref a => (match M a with
    | some (.lst xs) => some (xs, some a)
    | _ => none)
  | _ => none
def dForO (To : TD) (tg : TGD) (tb : TSD) : TSD := fun N τ M => To τ M (fun d M1 => match seqOf M1 d with
  | some (xs, o) => dLoopO o xs tg tb N xs τ M1
  | none => False) (N.ex τ)
theorem dLoopO_some {a : Addr} {ys : List D} {tg : TGD} {tb : TSD} {N : EndsD} : ∀ xs, dLoopO (some a) ys tg tb N xs = dLoopM a ys tg tb N xs
  | [] => rfl
  | d :: r => by
    funext τ M
    unfold dLoopO dLoopM
    rw [dLoopO_some r]
    rfl
theorem dLoopO_none {ys : List D} {tg : TGD} {tb : TSD} {N : EndsD} : ∀ xs, dLoopO none ys tg tb N xs = dLoop tg tb N xs
  | [] => rfl
  | d :: r => by
    funext τ M
    unfold dLoopO dLoop
    rw [dLoopO_none r]
    have e : (fun (τ2 : SD) (M2 : MS) => chk none ys M2 ∧ dLoop tg tb N r τ2 M2) = dLoop tg tb N r := by
      funext τ2 M2
      exact propext ⟨fun z => z.2, fun z => ⟨trivial, z⟩⟩
    rw [e]
theorem ds_forO (hp : PassesOwn (model X.prog X.w) X.A X.env X.xe) (hc : X.calm = true) (ho : DE X E iter To) (hg : DG X E tg g) (hb : DSs X E body tb) (hs : ∀ x, foldedSetIterable iter X.env x = pure x := by intro _; rfl) : DS X E (.For tg iter body [] pos) (dForO To g tb) := by
  refine ⟨(ds_forV hp hc ho hg hb hs).p.imp fun De σ H ⟨F, M, G, τ, N, rs, rep, h, lk⟩ => ⟨F, M, G, τ, N, rs, rep, ?_, lk⟩⟩
  unfold dForO at h
  unfold dForV
  have e : (fun d M1 => match seqOf M1 d with
      | some (xs, o) => dLoopO o xs g tb N xs τ M1
      | none => False) = (fun d M1 => match d with
      | .lst xs => dLoop g tb N xs τ M1
      | .tup xs => dLoop g tb N xs τ M1
      | .ref a => (match M1 a with
        | some (.lst xs) => dLoopM a xs g tb N xs τ M1
        | _ => False)
      | _ => False) := by
    funext d M1
    cases d <;> try rfl
    · rename_i a
      unfold seqOf
      dsimp only
      cases M1 a with
      | none => rfl
      | some m => cases m <;> first | rfl | (dsimp only; rw [dLoopO_some])
    · dsimp only [seqOf]; rw [dLoopO_none]
    · dsimp only [seqOf]; rw [dLoopO_none]
  rw [← e]
  exact h
/-- constants of the module -/
theorem de_int1 {x : Str} {i : Int} {pos : Pos} (hm : ∃ t, X.mg x = some (.int i t)) (hg : Gl X x := by rfl) (hd : (x == ("__debug__" : Str)) = false := by decide) : DE X E (.Name x pos) (dC (.int i)) := by
  obtain ⟨t, hm⟩ := hm
  exact de_con (v := .int i) hm ⟨t, rfl⟩ (fun _ => .int i) hg hd
theorem de_str1 {x : Str} {i : Str} {pos : Pos} (hm : ∃ t, X.mg x = some (.str i t)) (hg : Gl X x := by rfl) (hd : (x == ("__debug__" : Str)) = false := by decide) : DE X E (.Name x pos) (dC (.str i)) := by
  obtain ⟨t, hm⟩ := hm
  exact de_con (v := .str i) hm ⟨t, rfl⟩ (fun _ => .str i) hg hd
/-- over the signs of a text -/
def dStrIt (T : TD) : TID := fun τ M R W => T τ M (fun d M1 => match d with
  | .str x => R (x.cps.toList.map fun c => .str ⟨#[c]⟩) M1
  | _ => False) W
theorem di_str {e : Expr} {Te : TD} (h : DE X E e Te) : DI X E tg e (dStrIt Te) := by
  refine ⟨(pi_str h.p).imp fun σ H R ⟨F, M, G, τ, Rd, W, rs, rep, h, k, kx⟩ => ?_⟩
  refine ⟨F, M, G, τ, _, W, rs, rep, h, fun d M1 F1 H1 v q s1 rep1 r1 => ?_, kx⟩
  cases d <;> try exact q.elim
  cases r1
  rename_i x
  have rr : ∀ F, Rvs X.K F (x.cps.toList.map fun c => V.str ⟨#[c]⟩) (x.cps.toList.map fun c => D.str ⟨#[c]⟩) := by
    intro F
    generalize x.cps.toList = l
    induction l with
    | nil => exact .nil
    | cons a l ih => exact .cons (.str _) ih
  refine ⟨x, rfl, k _ M1 F1 H1 _ q s1 rep1 fun G' => itok_same (rr F1) fun F' M' H s rep i => ?_⟩
  refine ⟨fun hi => ?_, fun y hy => ?_, fun y H' ⟨e, c, hc, ey⟩ => ⟨e, fun z hz => ?_⟩⟩
  · have hi' : x.cps.size ≤ i := by simpa using hi
    exact hi'
  · have h1 := (List.getElem?_eq_some_iff.mp hy).1
    have h2 : i < x.cps.size := by simpa using h1
    exact h2
  · subst ey
    rw [List.getElem?_map, Array.getElem?_toList, hc] at hz
    exact Option.some.inj hz
end
end RS

set_option maxRecDepth 100000
set_option maxHeartbeats 4000000
namespace RS
open PySem PySem.Spec PyProof.Rows L2 NdefX He PySem.W
variable [Tbls]
theorem SubM.upd' {A B : MS} {p : Addr} {m : MO} (h : ∀ a n, a ≠ p → A a = some n → B a = some n) : SubM (updM A p m) (updM B p m) := fun a n e => by
  by_cases ha : a = p
  · subst ha
    rw [updM_same] at e ⊢
    exact e
  · rw [updM_ne ha] at e ⊢
    exact h a n ha e
theorem updM_swap {M : MS} {p q : Addr} {a b l : MO} (h : q ≠ p) : updM (updM (updM M p a) q l) p b = updM (updM M p b) q l := by
  rw [updM_comm h, updM_updM]
theorem updM_at {M : MS} {p q : Addr} {a b : MO} (h : q ≠ p) : updM (updM M p a) q b p = some a := by
  rw [updM_ne h.symm, updM_same]
theorem log_ok {i : Int} (h : i.natAbs ≤ 8000) : i.natAbs.log2 < 9000 := by
  have := Nat.log2_le_self i.natAbs
  omega
theorem str_app (a b : List Nat) : (⟨a.toArray⟩ : Str) ++ ⟨b.toArray⟩ = ⟨(a ++ b).toArray⟩ := by
  show (⟨a.toArray ++ b.toArray⟩ : Str) = _
  rw [List.append_toArray]
/-- the numbers from j on -/
def upD : Nat → Nat → List D
  | _, 0 => []
  | j, n + 1 => .int j :: upD (j + 1) n
theorem range_up : ∀ (n j : Nat), ((List.range n).map fun (i : Nat) => D.int ((j : Int) + (i : Int))) = upD j n
  | 0, _ => rfl
  | n + 1, j => by
    rw [List.range_succ_eq_map, List.map_cons, List.map_map, upD, ← range_up n (j + 1)]
    congr 1
    · refine List.map_congr_left fun i _ => ?_
      show D.int ((j : Int) + ((i + 1 : Nat) : Int)) = D.int (((j + 1 : Nat) : Int) + (i : Int))
      congr 1
      omega
theorem rangeD_up (n : Nat) : rangeD 0 n = upD 0 n := range_up n 0
theorem updM_self {M : MS} {p : Addr} {m : MO} (h : M p = some m) : updM M p m = M := by
  funext a
  by_cases ha : a = p
  · subst ha; rw [updM_same, h]
  · rw [updM_ne ha]
/-! ### looks -/
theorem vw_same {M : MS} {p : Addr} {m : MO} : vw (updM M p m) (.ref p) = m.d := by
  simp only [vw, updM_same]
theorem vw_at {M : MS} {p : Addr} {m : MO} (h : M p = some m) : vw M (.ref p) = m.d := by
  simp only [vw, h]
theorem vw_ne {M : MS} {p q : Addr} {m : MO} (h : q ≠ p) : vw (updM M p m) (.ref q) = vw M (.ref q) := by
  simp only [vw, updM_ne h]
theorem isLst_upd {M : MS} {p : Addr} {xs : List D} : isLst (updM M p (.lst xs)) (.ref p) := by
  unfold isLst
  rw [vw_same]
  trivial
theorem le_line {n : Nat} (h : Nat.ble n 64 = true) : n ≤ sizeLine := Nat.le_trans (Nat.le_of_ble_eq_true h) (by rw [sizeLine_eq]; decide)
theorem lt_line {n : Nat} (h : n ≤ 16000) : n < sizeLine := Nat.lt_of_le_of_lt h (by rw [sizeLine_eq]; decide)
theorem le_line2 {n : Nat} (h : n ≤ 16000) : n ≤ sizeLine := Nat.le_of_lt (lt_line h)
theorem ni_nil {f : Str} : f ∉ ([] : List (Str × D)).map (·.1) := by simp
theorem ni_cons {f g : Str} {x : D} {r : List (Str × D)} (h : decide (f = g) = false) (h2 : f ∉ r.map (·.1)) : f ∉ ((g, x) :: r).map (·.1) := by
  rw [List.map_cons, List.mem_cons, not_or]
  exact ⟨of_decide_eq_false h, h2⟩
theorem lt1000 {n : Nat} (h : Nat.ble n 900 = true) : n < 1000 := Nat.lt_of_le_of_lt (Nat.le_of_ble_eq_true h) (by decide)
theorem atD_last {xs : List D} {y : D} : atD (xs ++ [y]) (-1) = some y := by
  have e : ixN (xs ++ [y]).length (-1) = some xs.length := by
    unfold ixN
    rw [if_neg (by omega), if_pos (by simp only [List.length_append, List.length_singleton]; omega)]
    congr 1
    simp only [List.length_append, List.length_singleton]
    omega
  unfold atD
  rw [e]
  simp
theorem atD_nat {xs : List D} {i : Nat} (h : i < xs.length) : atD xs (i : Int) = xs[i]? := by
  have e : ixN xs.length (i : Int) = some i := by
    unfold ixN
    rw [if_pos (by omega), if_pos (by omega)]
    congr 1
  unfold atD
  rw [e]
theorem atD_0 {x : D} {xs : List D} : atD (x :: xs) 0 = some x := by
  have := atD_nat (xs := x :: xs) (i := 0) (by simp)
  simpa using this
theorem atD_1 {x y : D} {xs : List D} : atD (x :: y :: xs) 1 = some y := by
  have := atD_nat (xs := x :: y :: xs) (i := 1) (by simp)
  simpa using this
theorem atD_2 {x y z : D} {xs : List D} : atD (x :: y :: z :: xs) 2 = some z := by
  have := atD_nat (xs := x :: y :: z :: xs) (i := 2) (by simp)
  simpa using this
theorem dEqB_int (i j : Int) : dEqB (.int i) (.int j) = decide (i = j) := rfl
theorem dEqB_str (i j : Str) : dEqB (.str i) (.str j) = decide (i = j) := rfl
/-! ### loops by what stays true -/
theorem dLoop_ind {tg : TGD} {tb : TSD} {N : EndsD} (I : List D → SD → MS → Prop) {xs : List D} {τ : SD} {M : MS} (h0 : I xs τ M)
    (hs : ∀ d r τ M, I (d :: r) τ M → (∀ τ' M', I r τ' M' → dLoop tg tb N r τ' M') → tg d τ M (fun τ1 M1 => tb { N with nx := dLoop tg tb N r, ct := dLoop tg tb N r, bk := N.nx } τ1 M1) N.ex)
    (hd : ∀ τ M, I [] τ M → N.nx τ M) : dLoop tg tb N xs τ M := by
  induction xs generalizing τ M with
  | nil => exact hd τ M h0
  | cons d r ih => exact hs d r τ M h0 fun τ' M' h => ih h
theorem dLoopO_ind {o : Option Addr} {ys : List D} {tg : TGD} {tb : TSD} {N : EndsD} (I : List D → SD → MS → Prop) {xs : List D} {τ : SD} {M : MS} (h0 : I xs τ M)
    (hs : ∀ d r τ M, I (d :: r) τ M → (∀ τ' M', I r τ' M' → chk o ys M' → chk o ys M' ∧ dLoopO o ys tg tb N r τ' M') → tg d τ M (fun τ1 M1 => tb { N with nx := fun τ2 M2 => chk o ys M2 ∧ dLoopO o ys tg tb N r τ2 M2, ct := fun τ2 M2 => chk o ys M2 ∧ dLoopO o ys tg tb N r τ2 M2, bk := N.nx } τ1 M1) N.ex)
    (hd : ∀ τ M, I [] τ M → N.nx τ M) : dLoopO o ys tg tb N xs τ M := by
  induction xs generalizing τ M with
  | nil => exact hd τ M h0
  | cons d r ih => exact hs d r τ M h0 fun τ' M' h e => ⟨e, ih h⟩
theorem chk.new {o : Option Addr} {xs : List D} {M : MS} {p : Addr} {m : MO} (h : chk o xs M) (hp : M p = none) : chk o xs (updM M p m) := by
  cases o with
  | none => trivial
  | some a =>
    have h' : M a = some (.lst xs) := h
    have e : a ≠ p := by rintro rfl; rw [hp] at h'; cases h'
    show updM M p m a = _
    rw [updM_ne e]
    exact h'
theorem dLcL_ind {g : TGD} {tt : TTD} {te : TD} {vs : List Nat} {τ : SD} {R : List D → MS → Prop} (I : List D → List D → MS → Prop) {xs acc : List D} {M : MS} (h0 : I xs acc M)
    (hs : ∀ d r acc M, I (d :: r) acc M → (∀ acc' M', I r acc' M' → dLcL g tt te vs τ R r acc' M') → g d τ M (fun τ2 M2 => tt τ2 M2 (fun b M3 => dIte b (te τ2 M3 (fun y M4 => acc.length < sizeLine ∧ dLcL g tt te vs τ R r (acc ++ [y]) M4) XF) (dLcL g tt te vs τ R r acc M3)) XF) (fun _ => XF))
    (hd : ∀ acc M, I [] acc M → R acc M) : dLcL g tt te vs τ R xs acc M := by
  induction xs generalizing acc M with
  | nil => exact hd acc M h0
  | cons d r ih => exact hs d r acc M h0 fun acc' M' h => ih h
/-- .. the store stays -/
theorem dLcL_indC {g : TGD} {tt : TTD} {te : TD} {vs : List Nat} {τ : SD} {R : List D → MS → Prop} {M : MS} (I : List D → List D → Prop) {xs acc : List D} (h0 : I xs acc)
    (hs : ∀ d r acc, I (d :: r) acc → (∀ acc', I r acc' → dLcL g tt te vs τ R r acc' M) → g d τ M (fun τ2 M2 => tt τ2 M2 (fun b M3 => dIte b (te τ2 M3 (fun y M4 => acc.length < sizeLine ∧ dLcL g tt te vs τ R r (acc ++ [y]) M4) XF) (dLcL g tt te vs τ R r acc M3)) XF) (fun _ => XF))
    (hd : ∀ acc, I [] acc → R acc M) : dLcL g tt te vs τ R xs acc M := by
  induction xs generalizing acc with
  | nil => exact hd acc h0
  | cons d r ih => exact hs d r acc h0 fun acc' h => ih h
theorem dLoop_indC {tg : TGD} {tb : TSD} {N : EndsD} {M : MS} (I : List D → SD → Prop) {xs : List D} {τ : SD} (h0 : I xs τ)
    (hs : ∀ d r τ, I (d :: r) τ → (∀ τ', I r τ' → dLoop tg tb N r τ' M) → tg d τ M (fun τ1 M1 => tb { N with nx := dLoop tg tb N r, ct := dLoop tg tb N r, bk := N.nx } τ1 M1) N.ex)
    (hd : ∀ τ, I [] τ → N.nx τ M) : dLoop tg tb N xs τ M := by
  induction xs generalizing τ with
  | nil => exact hd τ h0
  | cons d r ih => exact hs d r τ h0 fun τ' h => ih h
theorem dWhile_ind {c : TTD} {tb : TSD} {N : EndsD} (I : Nat → SD → MS → Prop) {n : Nat} {τ : SD} {M : MS} (h0 : I n τ M)
    (hs : ∀ n τ M, I n τ M → ∀ W : SD → MS → Prop, (∀ m τ' M', m < n → I m τ' M' → W τ' M') → c τ M (fun b M1 => dIte b (tb { N with nx := W, ct := W, bk := N.nx } τ M1) (N.nx τ M1)) (N.ex τ)) : dWhile c tb N τ M := by
  have key : ∀ n τ M, I n τ M → ∀ k, n < k → dWh c tb N k τ M := by
    intro n
    induction n using Nat.strongRecOn with
    | _ n ih =>
      intro τ M h k hk
      cases k with
      | zero => omega
      | succ k => exact hs n τ M h _ fun m τ' M' hm h' => ih m hm τ' M' h' k (by omega)
  exact ⟨n + 1, key n τ M h0 _ (Nat.lt_succ_self n)⟩
/-! ### steps and their normal form -/
abbrev SL := List (Str × Int)
def nStep (r : SL) (q : Str × Int) : SL := match r.getLast? with
  | some l => if l.1 = q.1 then (if q.2 + l.2 = 0 then r.dropLast else r.dropLast ++ [(q.1, q.2 + l.2)]) else (if q.2 = 0 then r else r ++ [q])
  | none => if q.2 = 0 then r else r ++ [q]
def nrm (qs : SL) : SL := qs.foldl nStep []
theorem nStep_len (r : SL) (q : Str × Int) : (nStep r q).length ≤ r.length + 1 := by
  unfold nStep
  split
  · split
    · split
      · rw [List.length_dropLast]; omega
      · rw [List.length_append, List.length_dropLast]; show r.length - 1 + 1 ≤ _; omega
    · split
      · omega
      · rw [List.length_append]; exact Nat.le_refl _
  · split
    · omega
    · rw [List.length_append]; exact Nat.le_refl _
def stD (q : Str × Int) : D := .tup [.str q.1, .int q.2]
/-- a pair, told as a tuple or a list -/
def Item2 (d : D) (p : D × Int) : Prop := d = .tup [p.1, .int p.2] ∨ d = .lst [p.1, .int p.2]
inductive Items : List D → List (D × Int) → Prop
  | nil : Items [] []
  | cons {d : D} {ds : List D} {p : D × Int} {ps : List (D × Int)} : Item2 d p → Items ds ps → Items (d :: ds) (p :: ps)
/-- a list, a tuple of pairs, or a list that may change elsewhere -/
def Seq2 (M : MS) (d : D) (ps : List (D × Int)) : Prop := ∃ ds o, seqOf M d = some (ds, o) ∧ Items ds ps
theorem seqOf_chk {M : MS} {d : D} {xs : List D} {o : Option Addr} (h : seqOf M d = some (xs, o)) : RS.chk o xs M := by
  unfold seqOf at h
  split at h
  · cases h; trivial
  · cases h; trivial
  · split at h
    · cases h; assumption
    · cases h
  · cases h
theorem seqOf_new {M : MS} {d : D} {xs : List D} {o : Option Addr} {p : Addr} {m : MO} (h : seqOf M d = some (xs, o)) (hp : M p = none) : seqOf (updM M p m) d = some (xs, o) := by
  unfold seqOf at h ⊢
  split at h
  · exact h
  · exact h
  · rename_i a
    have e : a ≠ p := by rintro rfl; rw [hp] at h; cases h
    rw [updM_ne e]
    exact h
  · cases h
theorem seqOf_ins {M : MS} {d : D} {xs : List D} {o : Option Addr} {p C : Addr} {fs : List (Str × D)} {m : MO} (h : seqOf M d = some (xs, o)) (hp : M p = some (.ins C fs)) : seqOf (updM M p m) d = some (xs, o) := by
  unfold seqOf at h ⊢
  split at h
  · exact h
  · exact h
  · rename_i a
    have e : a ≠ p := by rintro rfl; rw [hp] at h; cases h
    rw [updM_ne e]
    exact h
  · cases h
theorem Items.len : ∀ {ds : List D} {ps : List (D × Int)}, Items ds ps → ds.length = ps.length
  | _, _, .nil => rfl
  | _, _, .cons _ y => by rw [List.length_cons, List.length_cons, Items.len y]
def qD (q : Str × Int) : D × Int := (.str q.1, q.2)
end RS

set_option maxRecDepth 100000
set_option maxHeartbeats 4000000
namespace RS
open PySem PySem.Spec PyProof.Rows L2 NdefX He PySem.W
variable [Tbls]
/-! ### == of dicts too, where they are the same -/
def flatD : D → Bool
  | .int _ => true
  | .str _ => true
  | .bl _ => true
  | .non => true
  | _ => false
def rEqA (K : Frg) : R2 := fun x y H Q => rEqP K false x y H Q ∨ rEqDA x y H Q
def rNeA (K : Frg) : R2 := fun x y H Q => rEqP K true x y H Q ∨ rNeDA x y H Q
theorem op_eqA {X : Cx} (hu : X.A.units + 64 < cLine) : OpR X (compareOp .Eq) (rEqA X.K) := OpR.or (op_eqP hu) (op_eq_dictA (by omega))
theorem op_neA {X : Cx} (hu : X.A.units + 64 < cLine) : OpR X (compareOp .NotEq) (rNeA X.K) := OpR.or (op_neP hu) (op_ne_dictA (by omega))
def dEqA (neg : Bool) (x y : D) (M : MS) (R : D → MS → Prop) (W : XD) : Prop := match vw M x, vw M y with
  | .dct ks, .dct ls => ks = ls ∧ (ks.map (·.1)).Nodup ∧ ks.all (fun p => flatD p.2) = true ∧ R (.bl (!neg)) M
  | _, _ => dEq neg x y M R W
theorem Rks.same {K : Frg} {F : Hp} : ∀ {ks : List (Key × D)} {kvs lvs : List (Key × V)}, Rks K F kvs ks → Rks K F lvs ks → ks.all (fun p => flatD p.2) = true → kvs = lvs ∧ (∀ p ∈ kvs, flatB p.2 = true) ∧ kvs.map (·.1) = ks.map (·.1)
  | _, _, _, .nil, .nil, _ => ⟨rfl, fun _ h => (nomatch h), rfl⟩
  | _, _, _, .cons (k := k) (d := d) r rs, .cons r' rs', h => by
    rw [List.all_cons, Bool.and_eq_true] at h
    obtain ⟨rfl, h2, h3⟩ := Rks.same rs rs' h.2
    have hd : flatD d = true := h.1
    cases d <;> first
      | (simp only [flatD] at hd; cases hd; done)
      | (cases r; cases r'
         refine ⟨rfl, fun p hp => ?_, by rw [List.map_cons, List.map_cons, h3]⟩
         rcases List.mem_cons.mp hp with rfl | hp
         · rfl
         · exact h2 p hp)
theorem valV_mem : ∀ {kvs : List (Key × V)}, (kvs.map (·.1)).Nodup → ∀ p ∈ kvs, valV kvs p.1 = some p.2
  | [], _, p, h => nomatch h
  | q :: kvs, n, p, h => by
    rw [List.map_cons, List.nodup_cons] at n
    rcases List.mem_cons.mp h with rfl | h
    · exact valV_pos rfl
    · have ne : ¬ q.1 = p.1 := fun e => n.1 (by rw [e]; exact List.mem_map.mpr ⟨p, h, rfl⟩)
      have := valV_mem n.2 p h
      unfold valV at this ⊢
      rw [List.find?_cons, decide_eq_false ne]
      exact this
theorem ro_eqA {K : Frg} : RO K (rEqA K) (dEqA false) := fun F M G H x y v u R W Q rx ry rep h k => by
  unfold dEqA at h
  split at h
  · rename_i ks ls e1 e2
    obtain ⟨rfl, nd, fl, h⟩ := h
    obtain ⟨a, kvs, rfl, h1, r1⟩ := vw_dct rep rx e1
    obtain ⟨b, lvs, rfl, h2, r2⟩ := vw_dct rep ry e2
    obtain ⟨rfl, f1, f2⟩ := Rks.same r1 r2 fl
    exact .inr ⟨a, b, _, _, rfl, rfl, h1, h2, rfl, fun p hp => ⟨valV_mem (by rw [f2]; exact nd) p hp, f1 p hp⟩, k _ M F H _ h (L2.Same.refl F) rep (.bl _)⟩
  · exact .inl (ro_eq false F M G H x y v u R W Q rx ry rep h k)
theorem ro_neA {K : Frg} : RO K (rNeA K) (dEqA true) := fun F M G H x y v u R W Q rx ry rep h k => by
  unfold dEqA at h
  split at h
  · rename_i ks ls e1 e2
    obtain ⟨rfl, nd, fl, h⟩ := h
    obtain ⟨a, kvs, rfl, h1, r1⟩ := vw_dct rep rx e1
    obtain ⟨b, lvs, rfl, h2, r2⟩ := vw_dct rep ry e2
    obtain ⟨rfl, f1, f2⟩ := Rks.same r1 r2 fl
    exact .inr ⟨a, b, _, _, rfl, rfl, h1, h2, rfl, fun p hp => ⟨valV_mem (by rw [f2]; exact nd) p hp, f1 p hp⟩, k _ M F H _ h (L2.Same.refl F) rep (.bl _)⟩
  · exact .inl (ro_eq true F M G H x y v u R W Q rx ry rep h k)
/-! ### is True, is False -/
def dIsB (neg : Bool) (x y : D) (M : MS) (R : D → MS → Prop) (_ : XD) : Prop := match x, y with
  | .bl a, .bl b => R (.bl (if neg then !decide (a = b) else decide (a = b))) M
  | _, _ => False
theorem ro_isB {K : Frg} : RO K rIsB (dIsB false) := fun F M G H x y v u R W Q rx ry rep h k => by
  unfold dIsB at h
  split at h
  · cases rx; cases ry
    exact ⟨_, _, rfl, rfl, k _ M F H _ h (L2.Same.refl F) rep (.bl _)⟩
  · exact h.elim
theorem ro_isNotB {K : Frg} : RO K rNotB (dIsB true) := fun F M G H x y v u R W Q rx ry rep h k => by
  unfold dIsB at h
  split at h
  · cases rx; cases ry
    exact ⟨_, _, rfl, rfl, k _ M F H _ h (L2.Same.refl F) rep (.bl _)⟩
  · exact h.elim
/-! ### {k: v, ..} -/
def mergeD (ks more : List (Key × D)) : List (Key × D) := more.foldl (fun acc p => putD acc p.1 p.2) ks
theorem Rks.merge {K : Frg} {F : Hp} : ∀ {more : List (Key × V)} {m : List (Key × D)} {kvs : List (Key × V)} {ks : List (Key × D)}, Rks K F more m → Rks K F kvs ks → Rks K F (mergeK kvs more) (mergeD ks m)
  | _, _, _, _, .nil, r => r
  | _, _, _, _, .cons x xs, r => by
    unfold mergeK mergeD
    rw [List.foldl_cons, List.foldl_cons]
    exact Rks.merge xs (r.put x)
structure DPs (X : Cx) (E : L2.St → XK) (pos : Pos) (keys : List (Option Expr)) (values : List Expr) (ts : List (TD × TD)) : Prop where
  p : PPs X pos keys values (ts.map fun t => (up X.K E t.1, up X.K E t.2))
theorem dps_nil {X : Cx} {E : L2.St → XK} {pos : Pos} : DPs X E pos [] [] [] := ⟨pps_nil⟩
theorem dps_cons {X : Cx} {E : L2.St → XK} {pos : Pos} {k v : Expr} {ks : List (Option Expr)} {vs : List Expr} {tk tv : TD} {ts : List (TD × TD)} (hk : DE X E k tk) (hv : DE X E v tv) (hr : DPs X E pos ks vs ts) : DPs X E pos (some k :: ks) (v :: vs) ((tk, tv) :: ts) := ⟨pps_cons hk.p hv.p hr.p⟩
def dPairs : List (TD × TD) → SD → MS → (List (Key × D) → MS → Prop) → XD → Prop
  | [], _, M, R, _ => R [] M
  | (tk, tv) :: r, τ, M, R, W => tk τ M (fun k M1 => match keyD k with
    | some k => tv τ M1 (fun v M2 => dPairs r τ M2 (fun ks M3 => R ((k, v) :: ks) M3) W) W
    | none => False) W
theorem up_pairs {X : Cx} {E : L2.St → XK} {σ : L2.St} : ∀ {ts : List (TD × TD)} {H : Hp} {F G : Hp} {M : MS} {τ : SD} {R : List (Key × D) → MS → Prop} {W : XD} {Q : List (V × V) → Hp → Prop}, Rs X.K F σ τ → Rep X.K F M G H → dPairs ts τ M R W →
    (∀ ks M' F' H' kvs, R ks M' → L2.Same F F' → Rep X.K F' M' G H' → Rks X.K F' kvs ks → Q (kvs.map fun kv => (kV kv.1, kv.2)) H') → KX X.K F G W (E σ) → tPairs (ts.map fun t => (up X.K E t.1, up X.K E t.2)) σ H Q
  | [], H, F, G, M, τ, R, W, Q, rs, rep, h, k, kx => k [] M F H [] h (L2.Same.refl F) rep .nil
  | (tk, tv) :: r, H, F, G, M, τ, R, W, Q, rs, rep, h, k, kx => by
    refine ⟨F, M, G, τ, _, W, rs, rep, h, fun d M1 F1 H1 v q s1 rep1 r1 => ?_, kx⟩
    dsimp only at q
    split at q
    · rename_i kk ek
      cases key_rv r1 ek
      refine ⟨F1, M1, G, τ, _, W, rs.mono s1, rep1, q, fun d2 M2 F2 H2 v2 q2 s2 rep2 r2 => ?_, kx.le s1⟩
      have s12 := s1.trans s2
      exact up_pairs (rs.mono s12) rep2 q2 (fun ks M' F' H' kvs hr s rep' rr => k _ M' F' H' ((kk, v2) :: kvs) hr (s12.trans s) rep' (.cons (r2.mono s) rr)) (kx.le s12)
    · exact q.elim
def dDisp (ts : List (TD × TD)) : TD := fun τ M R W => dPairs ts τ M (fun ks M1 => ks.length ≤ 15 ∧ R (.dct (mergeD [] ks)) M1) W
theorem de_disp {X : Cx} {E : L2.St → XK} {pos : Pos} {keys : List (Option Expr)} {values : List Expr} {ts : List (TD × TD)} (h : DPs X E pos keys values ts) (hall : keys.all (·.isSome) = true := by rfl) (hl : keys.length = values.length := by rfl) (h0 : keys ≠ [] := by simp)
    (h15 : keys.length ≤ 15 := by decide) : DE X E (.Dict keys values pos) (dDisp ts) := by
  refine ⟨(pe_disp h.p hall hl h0 h15).imp fun σ H Q ⟨F, M, G, τ, R, W, rs, rep, h, k, kx⟩ p hp => ?_⟩
  have gp := rep.freeG hp
  refine up_pairs rs (rep.newG (o := .dK []) hp) h (fun ks M' F' H' kvs hr s rep' rr => ?_) ?_
  · refine ⟨(rep'.fr p _ upd_same).1, kvs, rfl, by rw [rr.len]; exact hr.1, ?_⟩
    obtain ⟨rep2, s2⟩ := (rep'.putG (o := .dK (mergeK [] kvs))).frzG gp
    exact k _ M' _ _ _ hr.2 (s.trans s2) rep2 (.dct upd_same ((Rks.merge rr .nil).mono s2))
  · intro C fs M' F' H' a w s rep' rx
    refine kx C fs M' F' H' a w s ⟨rep'.fz, fun b m e => ?_, fun b o e => ?_, rep'.nt, fun b o e => ?_, rep'.tb⟩ rx
    · obtain ⟨x, y, z⟩ := rep'.mu b m e
      refine ⟨x, ?_, z⟩
      by_cases hb : b = p
      · subst hb; exact gp
      · rw [upd_ne hb] at y; exact y
    · have hb : b ≠ p := by rintro rfl; rw [gp] at e; cases e
      exact rep'.fr b o (by rw [upd_ne hb]; exact e)
    · have hb : b ≠ p := by rintro rfl; rw [gp] at e; cases e
      exact rep'.ng b o (by rw [upd_ne hb]; exact e)
end RS

set_option maxRecDepth 100000
set_option maxHeartbeats 4000000
namespace RS
open PySem PySem.Spec PyProof.Rows L2 NdefX He PySem.W
/-! ### names, kinds -/
def LT : Str := "abcdefghijklmnopqrstuvwxyz"
def DGT : Str := "0123456789"
def okS (c : Nat) : Bool := decide (c ∈ LT.cps.toList) || decide (c ∈ DGT.cps.toList)
def headB (x : Str) : Bool := match x.cps.toList with
  | [] => false
  | c :: _ => decide (c ∈ LT.cps.toList)
def nameB (x : Str) : Bool := (decide (1 ≤ x.length) && decide (x.length ≤ 12)) && (headB x && x.cps.toList.all okS)
abbrev PL := List (Str × Str)
def kdS (s : Str) : Bool := decide (s = "free") || (decide (s = "rising") || decide (s = "falling"))
structure GoodP (ps : PL) : Prop where
  ne : ps ≠ []
  few : ps.length ≤ 100
  nm : ∀ q ∈ ps, nameB q.1 = true
  kd : ∀ q ∈ ps, kdS q.2 = true
  nd : (ps.map (·.1)).Nodup
theorem GoodP.at {ps : PL} (g : GoodP ps) {i : Nat} {q : Str × Str} (h : ps[i]? = some q) : q.1 ∉ (ps.take i).map (·.1) ∧ nameB q.1 = true ∧ kdS q.2 = true := by
  have hm := List.mem_of_getElem? h
  refine ⟨fun z => ?_, g.nm q hm, g.kd q hm⟩
  obtain ⟨q', hq', e⟩ := List.mem_map.mp z
  obtain ⟨j, hj⟩ := List.mem_iff_getElem?.mp hq'
  have hji : j < i := by
    have h1 := (List.getElem?_eq_some_iff.mp hj).1
    rw [List.length_take] at h1
    omega
  have hj' : ps[j]? = some q' := by rw [List.getElem?_take_of_lt hji] at hj; exact hj
  have nd := g.nd
  have e1 : (ps.map (·.1))[j]? = some q'.1 := by rw [List.getElem?_map, hj']; rfl
  have e2 : (ps.map (·.1))[i]? = some q.1 := by rw [List.getElem?_map, h]; rfl
  rw [e] at e1
  have := nodup_ix nd e1 e2
  omega
theorem name_len {x : Str} (h : nameB x = true) : x.length ≤ sizeLine := by
  unfold nameB at h
  obtain ⟨h1, _⟩ := ba h
  obtain ⟨_, h2⟩ := ba h1
  have := of_decide_eq_true h2
  rw [sizeLine_eq]
  omega
structure IdentP (k : Nat) (x : Str) : Prop where
  ex : ∃ l : List Nat, x = ⟨(l ++ [48 + k]).toArray⟩ ∧ 1 ≤ l.length ∧ l.length ≤ 11 ∧ ∀ c ∈ l, c ∈ LT.cps.toList
theorem dg_ok : ∀ k : Nat, k < 10 → decide (48 + k ∈ DGT.cps.toList) = true := by decide +kernel
theorem IdentP.good {k : Nat} {x : Str} (h : IdentP k x) (hk : k < 10) : nameB x = true := by
  obtain ⟨l, rfl, h1, h2, h3⟩ := h.ex
  cases l with
  | nil => simp at h1
  | cons c l =>
    have hc := h3 c (List.mem_cons_self ..)
    have hl : (⟨((c :: l) ++ [48 + k]).toArray⟩ : Str).length = l.length + 2 := by
      show ((c :: l) ++ [48 + k]).toArray.size = _
      simp
    have e2 : l.length + 2 ≤ 12 := by simp at h2; omega
    unfold nameB headB
    rw [hl, decide_eq_true (show 1 ≤ l.length + 2 by omega), decide_eq_true e2]
    show (true && true && (decide (c ∈ LT.cps.toList) && ((c :: l) ++ [48 + k]).all okS)) = true
    rw [decide_eq_true hc, List.all_append]
    have a1 : (c :: l).all okS = true := List.all_eq_true.mpr fun y hy => by
      unfold okS
      rw [decide_eq_true (h3 y hy), Bool.true_or]
    have a2 : [48 + k].all okS = true := by
      rw [List.all_cons, List.all_nil, Bool.and_true]
      unfold okS
      rw [dg_ok k hk, Bool.or_true]
    rw [a1, a2]
    rfl
theorem IdentP.inj {j k : Nat} {x : Str} (h : IdentP j x) (h' : IdentP k x) : j = k := by
  obtain ⟨l, rfl, _⟩ := h.ex
  obtain ⟨m, e, _⟩ := h'.ex
  have e2 : (l ++ [48 + j]).toArray = (m ++ [48 + k]).toArray := congrArg Str.cps e
  have e3 : l ++ [48 + j] = m ++ [48 + k] := by simpa using congrArg Array.toList e2
  have e4 := (List.append_inj' e3 rfl).2
  simp at e4
  exact e4
theorem str_k : ∀ k : Nat, k < 10 → ((toString (k : Int) : String) : Str) = ⟨#[48 + k]⟩ := by decide +kernel
theorem lt_at {d : Int} (h0 : 0 ≤ d) (h1 : d < 26) : ∃ c, atI LT.cps.toList d = some c ∧ c ∈ LT.cps.toList := by
  obtain ⟨n, rfl⟩ : ∃ n : Nat, d = (n : Int) := ⟨d.toNat, by omega⟩
  have hl : LT.cps.toList.length = 26 := by decide +kernel
  have hn : n < LT.cps.toList.length := by omega
  exact ⟨LT.cps.toList[n], atI_nat (List.getElem?_eq_getElem hn), List.getElem_mem hn⟩
structure KdP (ps : PL) : Prop where
  at_ : ∀ (i : Nat) (q : Str × Str), ps[i]? = some q → IdentP i q.1 ∧ kdS q.2 = true
  pos : 1 ≤ ps.length
  few : ps.length ≤ 9
theorem KdP.good {ps : PL} (h : KdP ps) : GoodP ps := by
  refine ⟨fun z => ?_, by have := h.few; omega, fun q hq => ?_, fun q hq => ?_, ?_⟩
  · have := h.pos
    rw [z] at this
    simp at this
  · obtain ⟨i, hi⟩ := List.mem_iff_getElem?.mp hq
    have := (List.getElem?_eq_some_iff.mp hi).1
    exact (h.at_ i q hi).1.good (by have := h.few; omega)
  · obtain ⟨i, hi⟩ := List.mem_iff_getElem?.mp hq
    exact (h.at_ i q hi).2
  · refine List.pairwise_iff_getElem.mpr fun i j hi hj hij => ?_
    rw [List.length_map] at hi hj
    rw [List.getElem_map, List.getElem_map]
    intro e2
    have h1 := (h.at_ i _ (List.getElem?_eq_getElem hi)).1
    have h2 := (h.at_ j _ (List.getElem?_eq_getElem hj)).1
    rw [e2] at h1
    have := h1.inj h2
    omega
/-! ### scales, rows -/
def prD (q : Str × Str) : D := .tup [.str q.1, .str q.2]
def kdD (ps : PL) : List (Key × D) := ps.map fun q => (.inr q.1, .str q.2)
def scD (C : Addr) (ps : PL) : D := .ins C [("pairs", .tup (ps.map prD)), ("names", .tup (ps.map fun q => .str q.1)), ("kinds_told", .dct (kdD ps))]
def rowD (C Cs : Addr) (ps : PL) (qs : SL) : D := .ins C [("scales", scD Cs ps), ("steps", .tup (qs.map stD))]
/-- data of a plain kind -/
def Pln : D → Prop
  | .non => True
  | .bl _ => True
  | .int _ => True
  | .str x => x.length ≤ sizeLine
  | .tup _ => True
  | .lst _ => True
  | .dct _ => True
  | _ => False
def nameD : D → Bool
  | .str x => nameB x
  | _ => false
def hasN (ps : PL) : D → Bool
  | .str x => decide (x ∈ ps.map (·.1))
  | _ => false
theorem valD_kd (x : Str) : ∀ ps : PL, (valD (kdD ps) (.inr x)).isSome = decide (x ∈ ps.map (·.1))
  | [] => rfl
  | q :: ps => by
    have ih := valD_kd x ps
    unfold valD kdD at *
    rw [List.map_cons, List.map_cons, List.find?_cons]
    by_cases h : q.1 = x
    · rw [decide_eq_true (show (Sum.inr q.1 : Key) = Sum.inr x by rw [h])]
      simp [h]
    · rw [decide_eq_false (fun z => h (Sum.inr.inj z)), ih]
      simp only [List.mem_cons, decide_eq_decide]
      exact ⟨fun z => .inr z, fun z => z.elim (fun e => absurd e.symm h) id⟩
theorem putD_kd {x v : Str} {ps : PL} (h : x ∉ ps.map (·.1)) : putD (kdD ps) (.inr x) (.str v) = kdD (ps ++ [(x, v)]) := by
  have e : ((kdD ps).any fun p => decide (p.1 = (.inr x : Key))) = false := by
    rw [List.any_eq_false]
    intro p hp
    unfold kdD at hp
    obtain ⟨q, hq, rfl⟩ := List.mem_map.mp hp
    simp only [decide_eq_true_eq]
    intro z
    exact h (List.mem_map.mpr ⟨q, hq, Sum.inr.inj z⟩)
  unfold putD
  rw [e]
  simp [kdD]
/-- a pair of anything -/
def ItemP (d : D) (p : D × D) : Prop := d = .tup [p.1, p.2] ∨ d = .lst [p.1, p.2]
inductive ItemsP : List D → List (D × D) → Prop
  | nil : ItemsP [] []
  | cons {d : D} {ds : List D} {p : D × D} {ps : List (D × D)} : ItemP d p → ItemsP ds ps → ItemsP (d :: ds) (p :: ps)
theorem ItemsP.len : ∀ {ds : List D} {ps : List (D × D)}, ItemsP ds ps → ds.length = ps.length
  | _, _, .nil => rfl
  | _, _, .cons _ y => by rw [List.length_cons, List.length_cons, ItemsP.len y]
def qP (q : Str × Str) : D × D := (.str q.1, .str q.2)
theorem ItemsP.of : ∀ ps : PL, ItemsP (ps.map prD) (ps.map qP)
  | [] => .nil
  | q :: ps => .cons (.inl rfl) (ItemsP.of ps)
/-- what is wrong first with pairs -/
inductive ScF where
  | name (x : D) | twice (x : D) | kind (x : D)
def kindD : D → Option Str
  | .str s => if kdS s then some s else none
  | _ => none
def scan (done : PL) : List (D × D) → Except ScF PL
  | [] => .ok done
  | (.str n, k) :: r => if nameB n = true then (if n ∈ done.map (·.1) then .error (.twice (.str n)) else match kindD k with
    | some s => scan (done ++ [(n, s)]) r
    | none => .error (.kind k)) else .error (.name (.str n))
  | (x, _) :: _ => .error (.name x)
theorem scan_good : ∀ {ps done : PL}, (∀ q ∈ ps, nameB q.1 = true) → (∀ q ∈ ps, kdS q.2 = true) → ((done ++ ps).map (·.1)).Nodup → scan done (ps.map qP) = .ok (done ++ ps)
  | [], done, _, _, _ => by rw [List.append_nil]; rfl
  | q :: ps, done, h1, h2, h3 => by
    have n : q.1 ∉ done.map (·.1) := fun z => by
      rw [List.map_append, List.nodup_append] at h3
      exact h3.2.2 _ z _ (List.mem_map.mpr ⟨q, List.mem_cons_self .., rfl⟩) rfl
    show scan done ((.str q.1, .str q.2) :: ps.map qP) = _
    unfold scan
    rw [if_pos (h1 q (List.mem_cons_self ..)), if_neg n]
    unfold kindD
    dsimp only
    rw [if_pos (h2 q (List.mem_cons_self ..))]
    have := scan_good (ps := ps) (done := done ++ [q]) (fun x hx => h1 x (List.mem_cons_of_mem _ hx)) (fun x hx => h2 x (List.mem_cons_of_mem _ hx)) (by rw [List.append_assoc]; exact h3)
    rw [List.append_assoc] at this
    exact this
theorem pair_d (q : Str × Str) : prD q = Dt.d q := rfl
theorem step_d (q : Str × Int) : stD q = Dt.d q := rfl
theorem pairs_d (ps : PL) : D.tup (ps.map prD) = Dt.d (Tup.mk ps) := rfl
theorem steps_d (qs : SL) : D.tup (qs.map stD) = Dt.d (Tup.mk qs) := rfl
theorem PD_d {α : Type} [DecidableEq α] [Dt α] (a : α) {n : Nat} (h : (Dt.toDatum (α := α)).depth ≤ n := by decide) : PD n (Dt.d a) := (Dt.pd a).up h
theorem scan_no {x : Str} {kk : D} {done : PL} {xs : List (D × D)} (h1 : nameB x = true) (h2 : x ∉ done.map (·.1)) (e : kindD kk = none) : scan done ((.str x, kk) :: xs) = .error (.kind kk) := by
  unfold scan
  rw [if_pos h1, if_neg h2, e]
theorem scan_ok {x s : Str} {kk : D} {done : PL} {xs : List (D × D)} (h1 : nameB x = true) (h2 : x ∉ done.map (·.1)) (e : kindD kk = some s) : scan done ((.str x, kk) :: xs) = scan (done ++ [(x, s)]) xs := by
  conv => lhs; unfold scan
  rw [if_pos h1, if_neg h2, e]
theorem strs_pd (l : List Str) : ∀ d ∈ l.map D.str, PD 63 d := fun d h => by
  obtain ⟨x, _, rfl⟩ := List.mem_map.mp h
  exact PD_d x
theorem kd_in (y : Str) : inB (.str y) [.str "free", .str "rising", .str "falling"] = kdS y := by
  unfold kdS inB
  have e : ∀ a : Str, dEqB (.str a) (.str y) = decide (y = a) := fun a => by
    show decide (a = y) = _
    exact decide_eq_decide.mpr eq_comm
  rw [List.any_cons, List.any_cons, List.any_cons, List.any_nil, e, e, e, Bool.or_false]
theorem bools_map {α : Type} (f : α → Bool) : ∀ xs : List α, bools (xs.map fun x => D.bl (f x)) = some (xs.map f)
  | [] => rfl
  | x :: xs => by rw [List.map_cons, bools, bools_map f xs]; rfl
/-! ### a row as text -/
def stT (q : Str × Int) : Str := if q.2 = 1 then q.1 else q.1 ++ "^" ++ toString q.2
def rowT (qs : SL) : Str := if qs = [] then "." else Txt.join " " (qs.map stT)
def SmallQ (qs : SL) : Prop := qs.length ≤ 100 ∧ ∀ q ∈ qs, (stT q).length ≤ 1000 ∧ q.2.natAbs.log2 < 1920 ∧ q.1.length ≤ 100
theorem texts_mapF {α : Type} (f : α → Str) : ∀ xs : List α, texts (xs.map fun x => D.str (f x)) = some (xs.map f)
  | [] => rfl
  | x :: xs => by rw [List.map_cons, texts, texts_mapF f xs]; rfl
theorem sum_le {α : Type} (f : α → Nat) (b : Nat) : ∀ xs : List α, (∀ x ∈ xs, f x ≤ b) → (xs.map f).sum ≤ xs.length * b
  | [], _ => by simp
  | x :: xs, h => by
    have h1 := h x (List.mem_cons_self ..)
    have h2 := sum_le f b xs fun y hy => h y (List.mem_cons_of_mem _ hy)
    rw [List.map_cons, List.sum_cons, List.length_cons, Nat.succ_mul]
    omega
theorem emp_app (n : Str) : Str.empty ++ n = n := by
  obtain ⟨c⟩ := n
  show Str.mk (#[] ++ c) = _
  rw [Array.empty_append]
theorem str_len_app (a b : Str) : (a ++ b : Str).length = a.length + b.length := by
  obtain ⟨c⟩ := a
  obtain ⟨d⟩ := b
  show (c ++ d).size = _
  exact Array.size_append
end RS

set_option maxRecDepth 100000
set_option maxHeartbeats 4000000
namespace RS
open PySem PySem.Spec PyProof.Rows L2 NdefX He PySem.W
variable [Tbls]
/-! ### every way of rewriting ends with nrm -/
theorem snocRec {α : Type} {P : List α → Prop} (h0 : P []) (hs : ∀ r l, P r → P (r ++ [l])) (xs : List α) : P xs := by
  have h : ∀ ys : List α, P ys.reverse := fun ys => by
    induction ys with
    | nil => exact h0
    | cons a r ih => rw [List.reverse_cons]; exact hs _ _ ih
  rw [← List.reverse_reverse xs]
  exact h _
inductive Red : SL → Prop
  | nil : Red []
  | snoc {r : SL} {q : Str × Int} : Red r → q.2 ≠ 0 → (∀ l, r.getLast? = some l → l.1 ≠ q.1) → Red (r ++ [q])
theorem nStep_snoc (r : SL) (l q : Str × Int) : nStep (r ++ [l]) q = if l.1 = q.1 then (if q.2 + l.2 = 0 then r else r ++ [(q.1, q.2 + l.2)]) else (if q.2 = 0 then r ++ [l] else r ++ [l] ++ [q]) := by
  unfold nStep
  rw [List.getLast?_concat]
  dsimp only
  rw [List.dropLast_concat]
theorem nStep_fresh {r : SL} {q : Str × Int} (h : ∀ l, r.getLast? = some l → l.1 ≠ q.1) : nStep r q = if q.2 = 0 then r else r ++ [q] := by
  unfold nStep
  cases e : r.getLast? with
  | none => rfl
  | some l => dsimp only; rw [if_neg (h l e)]
theorem nStep_zero {r : SL} (h : Red r) (n : Str) : nStep r (n, 0) = r := by
  cases h with
  | nil => rfl
  | snoc h hq hl =>
    rename_i r l
    rw [nStep_snoc]
    split
    · rename_i e
      rw [if_neg (by show ¬ (0 + l.2 = 0); omega)]
      show r ++ [(n, 0 + l.2)] = _
      rw [Int.zero_add]
      have : l = (n, l.2) := by cases l; cases e; rfl
      rw [← this]
    · rw [if_pos rfl]
theorem nStep_two {r : SL} (h : Red r) (n : Str) (x y : Int) : nStep (nStep r (n, x)) (n, y) = nStep r (n, x + y) := by
  have fresh : ∀ {r : SL}, (∀ l, r.getLast? = some l → l.1 ≠ n) → nStep (nStep r (n, x)) (n, y) = nStep r (n, x + y) := by
    intro r hf
    rw [nStep_fresh (q := (n, x)) hf, nStep_fresh (q := (n, x + y)) hf]
    dsimp only
    by_cases hx : x = 0
    · rw [if_pos hx, nStep_fresh (q := (n, y)) hf]
      dsimp only
      rw [hx, Int.zero_add]
    · rw [if_neg hx, nStep_snoc, if_pos rfl]
      dsimp only
      by_cases hy : y + x = 0
      · rw [if_pos hy, if_pos (by omega)]
      · rw [if_neg hy, if_neg (by omega), Int.add_comm y x]
  cases h with
  | nil => exact fresh (r := []) (fun l z => by simp at z)
  | snoc h hq hl =>
    rename_i r l
    by_cases hn : l.1 = n
    · have hf : ∀ k, r.getLast? = some k → k.1 ≠ n := fun k hk => by rw [← hn]; exact hl k hk
      rw [nStep_snoc r l (n, x), nStep_snoc r l (n, x + y), if_pos hn, if_pos hn]
      dsimp only
      by_cases hx : x + l.2 = 0
      · rw [if_pos hx, nStep_fresh (q := (n, y)) hf]
        dsimp only
        have e : x + y + l.2 = y := by omega
        rw [e]
      · rw [if_neg hx, nStep_snoc, if_pos rfl]
        dsimp only
        have e : x + y + l.2 = y + (x + l.2) := by omega
        rw [e]
    · exact fresh fun k hk => by rw [List.getLast?_concat] at hk; cases hk; exact hn
theorem Red.last {r : SL} {l : Str × Int} (h : Red (r ++ [l])) : Red r ∧ l.2 ≠ 0 ∧ ∀ k, r.getLast? = some k → k.1 ≠ l.1 := by
  generalize e : r ++ [l] = s at h
  cases h with
  | nil => simp at e
  | snoc h hq hl =>
    obtain ⟨e1, e2⟩ := List.append_inj' e rfl
    cases e1
    cases e2
    exact ⟨h, hq, hl⟩
theorem Red.step {r : SL} (h : Red r) (q : Str × Int) : Red (nStep r q) := by
  cases h with
  | nil =>
    rw [nStep_fresh (fun l z => by simp at z)]
    split
    · exact .nil
    · exact Red.snoc (r := []) .nil (by assumption) fun l z => by simp at z
  | snoc h hq hl =>
    rename_i r l
    rw [nStep_snoc]
    split
    · rename_i e
      split
      · exact h
      · exact .snoc h (by assumption) fun k hk => by rw [← e]; exact hl k hk
    · rename_i e
      split
      · exact .snoc h hq hl
      · exact .snoc (.snoc h hq hl) (by assumption) fun k hk => by rw [List.getLast?_concat] at hk; cases hk; exact e
theorem Red.fold : ∀ (qs : SL) {r : SL}, Red r → Red (qs.foldl nStep r)
  | [], _, h => h
  | q :: qs, _, h => Red.fold qs (h.step q)
theorem nrm_Red (qs : SL) : Red (nrm qs) := Red.fold qs .nil
theorem nrm_drop (a b : SL) (n : Str) : nrm (a ++ (n, 0) :: b) = nrm (a ++ b) := by
  unfold nrm
  rw [List.foldl_append, List.foldl_append, List.foldl_cons, nStep_zero (Red.fold a .nil)]
theorem nrm_join (a b : SL) (n : Str) (x y : Int) : nrm (a ++ (n, x) :: (n, y) :: b) = nrm (a ++ (n, x + y) :: b) := by
  unfold nrm
  rw [List.foldl_append, List.foldl_append, List.foldl_cons, List.foldl_cons, List.foldl_cons, nStep_two (Red.fold a .nil)]
theorem fold_red : ∀ (b a : SL), Red (a ++ b) → b.foldl nStep a = a ++ b
  | [], a, _ => by rw [List.append_nil]; rfl
  | q :: b, a, h => by
    have h' : Red ((a ++ [q]) ++ b) := by rw [List.append_assoc]; exact h
    have pre : ∀ (c : SL) {d : SL}, Red (d ++ c) → Red d := by
      intro c
      refine snocRec (P := fun c => ∀ {d : SL}, Red (d ++ c) → Red d) ?_ ?_ c
      · intro d h; rw [List.append_nil] at h; exact h
      · intro c l ih d h; exact ih (by rw [← List.append_assoc] at h; exact h.last.1)
    have hq := (pre b h').last
    rw [List.foldl_cons, nStep_fresh hq.2.2, if_neg hq.2.1, fold_red b _ h', List.append_assoc]
    rfl
theorem nrm_red {qs : SL} (h : Red qs) : nrm qs = qs := fold_red qs [] h
theorem nrm_nrm (qs : SL) : nrm (nrm qs) = nrm qs := nrm_red (nrm_Red qs)
theorem red_of : ∀ (qs : SL) (h0 : ∀ (i : Nat) q, qs[i]? = some q → q.2 ≠ 0) (h1 : ∀ (i : Nat) p q, qs[i]? = some p → qs[i + 1]? = some q → p.1 ≠ q.1), Red qs := by
  refine snocRec ?_ ?_
  · exact fun _ _ => .nil
  · intro r l ih h0 h1
    refine .snoc (ih (fun i q e => h0 i q ?_) (fun i p q e e' => h1 i p q ?_ ?_)) (h0 r.length l (by simp)) fun k hk => ?_
    · rw [List.getElem?_append_left (List.getElem?_eq_some_iff.mp e).1]; exact e
    · rw [List.getElem?_append_left (List.getElem?_eq_some_iff.mp e).1]; exact e
    · rw [List.getElem?_append_left (List.getElem?_eq_some_iff.mp e').1]; exact e'
    · rw [List.getLast?_eq_getElem?] at hk
      have hlt := (List.getElem?_eq_some_iff.mp hk).1
      refine h1 (r.length - 1) k l ?_ ?_
      · rw [List.getElem?_append_left hlt]; exact hk
      · have e : r.length - 1 + 1 = r.length := by omega
        rw [e]
        simp
/-! ### how large it gets -/
def absS (qs : SL) : Nat := (qs.map fun q => q.2.natAbs).sum
theorem absS_app (a b : SL) : absS (a ++ b) = absS a + absS b := by unfold absS; rw [List.map_append, List.sum_append]
theorem absS_nStep (r : SL) (q : Str × Int) : absS (nStep r q) ≤ absS r + q.2.natAbs := by
  rcases List.eq_nil_or_concat r with rfl | ⟨r, l, rfl⟩
  · rw [nStep_fresh (fun l z => by simp at z)]
    split
    · omega
    · rw [absS_app]; show absS [] + (q.2.natAbs + 0) ≤ _; omega
  · rw [List.concat_eq_append, nStep_snoc]
    have e1 : absS (r ++ [l]) = absS r + l.2.natAbs := by rw [absS_app]; rfl
    split
    · split
      · omega
      · rw [absS_app, e1]
        show absS r + ((q.2 + l.2).natAbs + 0) ≤ _
        omega
    · split
      · omega
      · rw [absS_app]; show absS (r ++ [l]) + (q.2.natAbs + 0) ≤ _; omega
theorem absS_fold : ∀ (qs r : SL), absS (qs.foldl nStep r) ≤ absS r + absS qs
  | [], r => Nat.le_refl _
  | q :: qs, r => by
    have h1 := absS_fold qs (nStep r q)
    have h2 := absS_nStep r q
    have h3 : absS (q :: qs) = q.2.natAbs + absS qs := by unfold absS; rw [List.map_cons, List.sum_cons]
    rw [List.foldl_cons, h3]
    omega
theorem absS_nrm (qs : SL) : absS (nrm qs) ≤ absS qs := by
  have := absS_fold qs []
  unfold nrm
  have h0 : absS [] = 0 := rfl
  omega
theorem absS_mem {qs : SL} {q : Str × Int} (h : q ∈ qs) : q.2.natAbs ≤ absS qs := by
  induction qs with
  | nil => cases h
  | cons a r ih =>
    have h3 : absS (a :: r) = a.2.natAbs + absS r := by unfold absS; rw [List.map_cons, List.sum_cons]
    rcases List.mem_cons.mp h with rfl | h
    · omega
    · have := ih h; omega
theorem nm_fold : ∀ (qs r : SL) (q : Str × Int), q ∈ qs.foldl nStep r → q.1 ∈ r.map (·.1) ∨ q.1 ∈ qs.map (·.1)
  | [], r, q, h => .inl (List.mem_map.mpr ⟨q, h, rfl⟩)
  | p :: qs, r, q, h => by
    rcases nm_fold qs (nStep r p) q h with h | h
    · obtain ⟨z, hz, e⟩ := List.mem_map.mp h
      have : z.1 ∈ r.map (·.1) ∨ z.1 = p.1 := by
        rcases List.eq_nil_or_concat r with rfl | ⟨r, l, rfl⟩
        · rw [nStep_fresh (fun l z => by simp at z)] at hz
          split at hz
          · cases hz
          · have := List.mem_singleton.mp hz
            exact .inr (by rw [this])
        · rw [List.concat_eq_append, nStep_snoc] at hz
          rw [List.concat_eq_append]
          have key : ∀ s : SL, z ∈ s → (∀ y ∈ s, y ∈ r ++ [l] ∨ y.1 = p.1) → z.1 ∈ (r ++ [l]).map (·.1) ∨ z.1 = p.1 := fun s hs hh => (hh z hs).imp (fun y => List.mem_map.mpr ⟨z, y, rfl⟩) id
          refine key _ hz fun y hy => ?_
          split at hy
          · split at hy
            · exact .inl (List.mem_append_left _ hy)
            · rcases List.mem_append.mp hy with hy | hy
              · exact .inl (List.mem_append_left _ hy)
              · rw [List.mem_singleton.mp hy]; exact .inr rfl
          · split at hy
            · exact .inl hy
            · rcases List.mem_append.mp hy with hy | hy
              · exact .inl hy
              · rw [List.mem_singleton.mp hy]; exact .inr rfl
      rw [← e]
      rcases this with h | h
      · exact .inl h
      · exact .inr (by rw [h, List.map_cons]; exact List.mem_cons_self ..)
    · exact .inr (by rw [List.map_cons]; exact List.mem_cons_of_mem _ h)
theorem nm_nrm {qs : SL} {q : Str × Int} (h : q ∈ nrm qs) : q.1 ∈ qs.map (·.1) := by
  rcases nm_fold qs [] q h with h | h
  · cases h
  · exact h
theorem len_fold : ∀ (qs r : SL), (qs.foldl nStep r).length ≤ r.length + qs.length
  | [], r => Nat.le_refl _
  | q :: qs, r => by
    have h1 := len_fold qs (nStep r q)
    have h2 := nStep_len r q
    rw [List.foldl_cons, List.length_cons]
    omega
theorem len_nrm (qs : SL) : (nrm qs).length ≤ qs.length := by
  have := len_fold qs []
  rw [List.length_nil] at this
  unfold nrm
  omega
theorem nat_len {n k : Nat} (hk : 0 < k) (h : n < 10 ^ k) : n.repr.toList.length ≤ k := by
  rw [Nat.toList_repr]
  exact (Nat.length_toDigits_le_iff (by decide) hk).mpr h
theorem int_len {i : Int} {k : Nat} (hk : 0 < k) (h : i.natAbs < 10 ^ k) : ((toString i : String) : Str).length ≤ k + 1 := by
  have e : ∀ s : String, (s : Str).length = s.toList.length := fun s => by
    show (Str.ofString s).cps.size = _
    rw [Str.ofString_eq_toList]
    simp
  rw [e]
  cases i with
  | ofNat n =>
    show n.repr.toList.length ≤ _
    exact Nat.le_succ_of_le (nat_len hk h)
  | negSucc n =>
    show ("-" ++ (n + 1).repr).toList.length ≤ _
    have h1 := nat_len (n := n + 1) hk h
    rw [String.toList_append, List.length_append]
    have h2 : ("-" : String).toList.length = 1 := by decide
    omega
/-! ### places where a row may be rewritten -/
theorem atD_mapZ {α : Type} {f : α → D} {xs : List α} {z : Int} (h0 : 0 ≤ z) (h1 : z < (xs.length : Int)) : ∃ r ∈ xs, atD (xs.map f) z = some (f r) := by
  obtain ⟨n, rfl⟩ : ∃ n : Nat, z = (n : Int) := ⟨z.toNat, by omega⟩
  have hn : n < xs.length := by omega
  refine ⟨xs[n], List.getElem_mem hn, ?_⟩
  rw [atD_nat (by rw [List.length_map]; exact hn), List.getElem?_map, List.getElem?_eq_getElem hn]
  rfl
theorem atD_some {α : Type} {f : α → D} {xs : List α} {i : Nat} {r : α} {z : Int} (h : xs[i]? = some r) (hz : z = (i : Int)) : atD (xs.map f) z = some (f r) := by
  subst hz
  have hn := (List.getElem?_eq_some_iff.mp h).1
  rw [atD_nat (by rw [List.length_map]; exact hn), List.getElem?_map, h]
  rfl
theorem cut_from {xs : List D} {i : Nat} {z : Int} (hz : z = (i : Int)) : cutD xs (some z) none = xs.drop i := by
  subst hz
  unfold cutD
  rw [HT.sIx_nat, HT.sIx_none]
  by_cases h : i ≤ xs.length
  · rw [Nat.min_eq_left h, ← List.length_drop, List.take_length]
  · rw [Nat.min_eq_right (by omega), List.drop_length, List.drop_eq_nil_of_le (by omega), List.take_nil]
theorem cut_to {xs : List D} {i : Nat} {z : Int} (hz : z = (i : Int)) : cutD xs none (some z) = xs.take i := by
  subst hz
  unfold cutD
  rw [HT.sIx_nat, HT.sIx_none, List.drop_zero, Nat.sub_zero]
  by_cases h : i ≤ xs.length
  · rw [Nat.min_eq_left h]
  · rw [Nat.min_eq_right (by omega), List.take_length, List.take_of_length_le (by omega)]
theorem split1 {α : Type} {qs : List α} {i : Nat} {q : α} (h : qs[i]? = some q) : qs = qs.take i ++ q :: qs.drop (i + 1) := by
  obtain ⟨h1, h2⟩ := List.getElem?_eq_some_iff.mp h
  rw [← h2, ← List.drop_eq_getElem_cons h1, List.take_append_drop]
theorem split2 {α : Type} {qs : List α} {i : Nat} {q q2 : α} (h : qs[i]? = some q) (h2 : qs[i + 1]? = some q2) : qs = qs.take i ++ q :: q2 :: qs.drop (i + 2) := by
  obtain ⟨h1, h3⟩ := List.getElem?_eq_some_iff.mp h2
  have e : qs.drop (i + 1) = q2 :: qs.drop (i + 2) := by rw [← h3]; exact List.drop_eq_getElem_cons h1
  rw [← e]
  exact split1 h
def Rdx (qs : SL) (f : Int × Str) : Prop := ∃ (i : Nat) (q : Str × Int), f.1 = (i : Int) ∧ qs[i]? = some q ∧ ((q.2 = 0 ∧ f.2 = "drop") ∨ (f.2 = "join" ∧ ∃ q2, qs[i + 1]? = some q2 ∧ q2.1 = q.1))
structure DrF (qs : SL) (j : Nat) (fs : List (Int × Str)) : Prop where
  rdx : ∀ f ∈ fs, Rdx qs f
  few : fs.length ≤ j
  all : fs = [] → ∀ (i : Nat) q, i < j → qs[i]? = some q → q.2 ≠ 0
structure JnF (qs : SL) (j : Nat) (fs : List (Int × Str)) : Prop where
  rdx : ∀ f ∈ fs, Rdx qs f
  few : fs.length ≤ j
  all : fs = [] → ∀ (i : Nat) p q, i < j → qs[i]? = some p → qs[i + 1]? = some q → p.1 ≠ q.1
theorem DrF.zero (qs : SL) : DrF qs 0 [] := ⟨fun _ z => (nomatch z), Nat.le_refl _, fun _ i q h => absurd h (by omega)⟩
theorem JnF.zero (qs : SL) : JnF qs 0 [] := ⟨fun _ z => (nomatch z), Nat.le_refl _, fun _ i p q h => absurd h (by omega)⟩
theorem DrF.no {qs : SL} {j : Nat} {fs : List (Int × Str)} {q : Str × Int} (h : DrF qs j fs) (e : qs[j]? = some q) (n : q.2 ≠ 0) : DrF qs (j + 1) fs := ⟨h.rdx, Nat.le_succ_of_le h.few, fun z i r hi hr => by
  by_cases hj : i = j
  · subst hj; rw [e] at hr; cases hr; exact n
  · exact h.all z i r (by omega) hr⟩
theorem DrF.yes {qs : SL} {j : Nat} {fs : List (Int × Str)} {q : Str × Int} (h : DrF qs j fs) (e : qs[j]? = some q) (n : q.2 = 0) : DrF qs (j + 1) (fs ++ [((j : Int), ("drop" : Str))]) := ⟨fun f hf => by
  rcases List.mem_append.mp hf with hf | hf
  · exact h.rdx f hf
  · rw [List.mem_singleton.mp hf]; exact ⟨j, q, rfl, e, .inl ⟨n, rfl⟩⟩, by rw [List.length_append]; exact Nat.succ_le_succ h.few, fun z => by simp at z⟩
theorem JnF.no {qs : SL} {j : Nat} {fs : List (Int × Str)} {p q : Str × Int} (h : JnF qs j fs) (e : qs[j]? = some p) (e2 : qs[j + 1]? = some q) (n : p.1 ≠ q.1) : JnF qs (j + 1) fs := ⟨h.rdx, Nat.le_succ_of_le h.few, fun z i r s hi hr hs => by
  by_cases hj : i = j
  · subst hj; rw [e] at hr; rw [e2] at hs; cases hr; cases hs; exact n
  · exact h.all z i r s (by omega) hr hs⟩
theorem JnF.yes {qs : SL} {j : Nat} {fs : List (Int × Str)} {p q : Str × Int} (h : JnF qs j fs) (e : qs[j]? = some p) (e2 : qs[j + 1]? = some q) (n : p.1 = q.1) : JnF qs (j + 1) (fs ++ [((j : Int), ("join" : Str))]) := ⟨fun f hf => by
  rcases List.mem_append.mp hf with hf | hf
  · exact h.rdx f hf
  · rw [List.mem_singleton.mp hf]; exact ⟨j, p, rfl, e, .inr ⟨rfl, q, e2, n.symm⟩⟩, by rw [List.length_append]; exact Nat.succ_le_succ h.few, fun z => by simp at z⟩
/-- the places of a row -/
structure Plc (qs : SL) (fs : List (Int × Str)) : Prop where
  rdx : ∀ f ∈ fs, Rdx qs f
  few : fs.length ≤ 2 * qs.length
  red : fs = [] → Red qs
theorem Plc.of {qs : SL} {fs gs : List (Int × Str)} (h : DrF qs qs.length fs) (h2 : JnF qs (qs.length - 1) gs) : Plc qs (fs ++ gs) := ⟨fun f hf => (List.mem_append.mp hf).elim (h.rdx f) (h2.rdx f), by rw [List.length_append]; have := h.few; have := h2.few; omega, fun z => by
  obtain ⟨z1, z2⟩ := List.append_eq_nil_iff.mp z
  refine red_of qs (fun i q e => h.all z1 i q (List.getElem?_eq_some_iff.mp e).1 e) fun i p q e e2 => h2.all z2 i p q ?_ e e2
  have := (List.getElem?_eq_some_iff.mp e2).1
  omega⟩
end RS

set_option maxRecDepth 100000
set_option maxHeartbeats 4000000
namespace RS
open PySem PySem.Spec PyProof.Rows L2 NdefX He PySem.W
variable [Tbls]
/-! ### the head's facts, for the D layer -/
def allBT : List BT := [.int, .bool, .str, .tuple, .list, .dict, .none, .verr]
theorem allBT_mem (t : BT) : t ∈ allBT := by cases t <;> simp [allBT]
def kaB (K : Frg) (C : Addr) : Bool := allBT.all fun t => decide (PySem.W.kitOne K (.type t.name) (.ref C) = some false)
theorem kaB_ok {K : Frg} {C : Addr} (h : kaB K C = true) (t : BT) : IsA K (.bt t) (.own C) false := show PySem.W.kitOne K (.type t.name) (.ref C) = some false from of_decide_eq_true (List.all_eq_true.mp h t (allBT_mem t))
def kbB (K : Frg) (C : Addr) : Bool := allBT.all fun t => decide (PySem.W.kitOne K (.ref C) (.type t.name) = some false)
theorem kbB_ok {K : Frg} {C : Addr} (h : kbB K C = true) (t : BT) : IsA K (.own C) (.bt t) false := show PySem.W.kitOne K (.ref C) (.type t.name) = some false from of_decide_eq_true (List.all_eq_true.mp h t (allBT_mem t))
def nbB (K : Frg) (C : Addr) : Bool := allBT.all fun t => PySem.W.notFirst K C (.type t.name)
theorem nbB_ok {K : Frg} {C : Addr} (h : nbB K C = true) (t : BT) : NotF K C (.bt t) := List.all_eq_true.mp h t (allBT_mem t)
/-- constants as data -/
def dvD : Dv → Option D
  | .non => some .non
  | .bl b => some (.bl b)
  | .int i => some (.int i)
  | .str x => some (.str x)
  | _ => none
def dvDs : List Dv → Option (List D)
  | [] => some []
  | v :: vs => match dvD v, dvDs vs with
    | some d, some ds => some (d :: ds)
    | _, _ => none
theorem dvD_ok {K : Frg} {F : Hp} {v : Dv} {d : D} (h : dvD v = some d) : Rv K F (Dv.v K v) d := by
  cases v <;> cases h
  · exact .non
  · exact .bl _
  · exact .int _
  · exact .str _
theorem dvDs_ok {K : Frg} {F : Hp} : ∀ {vs : List Dv} {ds : List D}, dvDs vs = some ds → Rvs K F (vs.map (Dv.v K)) ds
  | [], _, h => by cases h; exact .nil
  | v :: vs, ds, h => by
    unfold dvDs at h
    split at h
    · rename_i d ds' e1 e2
      cases h
      exact .cons (dvD_ok e1) (dvDs_ok e2)
    · cases h
theorem tupd_ok {K : Frg} {x : Str} {vs : List Dv} {ds : List D} (h : tupB K x vs = true) (e : dvDs vs = some ds) (F : Hp) : Rv K F (.ref (ga K x)) (.tup ds) := .tup (tupB_ok h F) (dvDs_ok e)
/-- the tuple at a holds these -/
def tupAB (K : Frg) (a : Addr) (vs : List Dv) : Bool := match K.lookup a with
  | some ⟨.type c, _, .seq its _, _⟩ => decide (c = "tuple") && (decide (its.size ≤ sizeLine) && relAll (vs.map (Dv.v K)) its.toList)
  | _ => false
theorem tupAB_ok {K : Frg} {a : Addr} {vs : List Dv} (h : tupAB K a vs = true) (H : Hp) : SqT K H a (vs.map (Dv.v K)) := by
  unfold tupAB at h
  split at h
  · rename_i c od its n osl q
    obtain ⟨h1, h2⟩ := ba h
    obtain ⟨h3, h4⟩ := ba h2
    exact .inr ⟨_, its, n, q, congrArg Value.type (of_decide_eq_true h1), rfl, of_decide_eq_true h3, relAll_ok h4⟩
  · cases h
theorem tupad_ok {K : Frg} {a : Addr} {vs : List Dv} {ds : List D} (h : tupAB K a vs = true) (e : dvDs vs = some ds) (F : Hp) : Rv K F (.ref a) (.tup ds) := .tup (tupAB_ok h F) (dvDs_ok e)
theorem Dfl.one {K : Frg} {v : V} {d : D} (h : ∀ F, Rv K F v d) : Dfl K [v] [d] := fun F => .cons (h F) .nil
theorem Dfl.cons {K : Frg} {v : V} {d : D} {vs : List V} {ds : List D} (h : ∀ F, Rv K F v d) (t : Dfl K vs ds) : Dfl K (v :: vs) (d :: ds) := fun F => .cons (h F) (t F)
end RS

set_option maxRecDepth 100000
set_option maxHeartbeats 4000000
namespace RS.Pn
open PySem PySem.Spec PyProof.Rows L2
/-! ### the second family's source of draws: what its dict holds, and the draw's promise -/
/-- all that was tracked is as it was, but for the object at a -/
def Sav (a : Addr) (H H' : Hp) : Prop := ∀ b o, b ≠ a → H b = some o → H' b = some o
theorem Sav.refl (a : Addr) (H : Hp) : Sav a H H := fun _ _ _ h => h
theorem Sav.trans {a : Addr} {H H1 H2 : Hp} (x : Sav a H H1) (y : Sav a H1 H2) : Sav a H H2 := fun b o n h => y b o n (x b o n h)
theorem Sav.at {a b : Addr} {H H' : Hp} {o : HO} (x : Sav a H H') (n : b ≠ a) (h : H b = some o) : H' b = some o := x b o n h
theorem Sav.new {a p : Addr} {H : Hp} {o : HO} (h : H p = none) : Sav a H (upd H p o) := fun b u _ e => by rw [upd_ne (ne_of_none e h)]; exact e
theorem Sav.own {a : Addr} {H : Hp} {o : HO} : Sav a H (upd H a o) := fun b u n e => by rw [upd_ne n]; exact e
theorem Sav.free {a b : Addr} {H H' : Hp} (x : Sav a H H') (n : b ≠ a) (h : H' b = none) : H b = none := by
  cases q : H b with
  | none => rfl
  | some o => rw [x b o n q] at h; cases h
theorem Same.sav {a : Addr} {H H' : Hp} (x : Same H H') : Sav a H H' := fun b o _ h => x b o h
theorem upd_old {H : Hp} {p q : Addr} {o u : HO} (hp : H p = none) (hq : H q = some o) : upd H p u q = some o := by rw [upd_ne (ne_of_none hq hp)]; exact hq

def penD (c : Addr) (at_ rest : Int) : List (Key × V) := [(.inr "cells", .ref c), (.inr "at", .int at_), (.inr "rest", .int rest)]
theorem ne_ca : ¬ (("cells" : Str) = "at") := by decide +kernel
theorem ne_cr : ¬ (("cells" : Str) = "rest") := by decide +kernel
theorem ne_ar : ¬ (("at" : Str) = "rest") := by decide +kernel
theorem ne_ra : ¬ (("rest" : Str) = "at") := by decide +kernel
theorem pen_cells (c : Addr) (a r : Int) : valV (penD c a r) (Sum.inr "cells") = some (.ref c) := by simp [valV, penD]
theorem pen_at (c : Addr) (a r : Int) : valV (penD c a r) (Sum.inr "at") = some (.int a) := by simp [valV, penD, ne_ca]
theorem pen_rest (c : Addr) (a r : Int) : valV (penD c a r) (Sum.inr "rest") = some (.int r) := by simp [valV, penD, ne_cr, ne_ar]
theorem put_at (c : Addr) (a r z : Int) : putK (penD c a r) (Sum.inr "at") (.int z) = penD c z r := by simp [putK, penD, ne_ca, ne_ra]
theorem put_rest (c : Addr) (a r z : Int) : putK (penD c a r) (Sum.inr "rest") (.int z) = penD c a z := by simp [putK, penD, ne_cr, ne_ar]
section
variable {H : Hp} {p c : Addr} {a r z : Int}
theorem dg_cells (h : H p = some (.dK (penD c a r))) : DGet H p (.str "cells") (some (.ref c)) := by rw [← pen_cells c a r]; exact DGet.k (k := Sum.inr "cells") h
theorem dg_at (h : H p = some (.dK (penD c a r))) : DGet H p (.str "at") (some (.int a)) := by rw [← pen_at c a r]; exact DGet.k (k := Sum.inr "at") h
theorem dg_rest (h : H p = some (.dK (penD c a r))) : DGet H p (.str "rest") (some (.int r)) := by rw [← pen_rest c a r]; exact DGet.k (k := Sum.inr "rest") h
theorem dp_at (h : H p = some (.dK (penD c a r))) : DPut H p (.str "at") (.int z) (upd H p (.dK (penD c z r))) := by
  rw [← put_at c a r z]; exact DPut.k (k := Sum.inr "at") h (by show 3 < sizeLine; rw [sizeLine_eq]; decide)
theorem dp_rest (h : H p = some (.dK (penD c a r))) : DPut H p (.str "rest") (.int z) (upd H p (.dK (penD c a z))) := by
  rw [← put_rest c a r z]; exact DPut.k (k := Sum.inr "rest") h (by show 3 < sizeLine; rw [sizeLine_eq]; decide)
end
/-- a pen stands at p, good for b more draws -/
structure Pen (H : Hp) (p c : Addr) (b : Nat) : Prop where
  ex : ∃ (cs : List Int) (a r : Int), H p = some (.dK (penD c a r)) ∧ H c = some (.lst (cs.map V.int)) ∧ cs.length ≤ 63 ∧ 0 ≤ a ∧ a + b ≤ 2 ^ 60
theorem Pen.mono {H : Hp} {p c : Addr} {b b' : Nat} (x : Pen H p c b) (h : b' ≤ b) : Pen H p c b' := by
  obtain ⟨cs, a, r, h1, h2, h3, h4, h5⟩ := x.ex
  exact ⟨cs, a, r, h1, h2, h3, h4, by omega⟩
theorem Pen.dk {H : Hp} {p c : Addr} {b : Nat} (x : Pen H p c b) : ∃ kvs, H p = some (.dK kvs) := let ⟨_, _, _, h, _⟩ := x.ex; ⟨_, h⟩
/-- what stands at q is not the pen -/
theorem Pen.ne {H : Hp} {p c q : Addr} {b : Nat} {o : HO} (x : Pen H p c b) (h : H q = some o) (d : ∀ kvs, o ≠ .dK kvs) : q ≠ p := by
  obtain ⟨kvs, e⟩ := x.dk
  exact ne_of h e (d kvs)
theorem Pen.fresh_ne {H : Hp} {p c q : Addr} {b : Nat} (x : Pen H p c b) (h : H q = none) : q ≠ p := by
  obtain ⟨kvs, e⟩ := x.dk
  exact (ne_of_none e h).symm
/-- a new object beside it -/
theorem Pen.fresh_ne2 {H : Hp} {p c q : Addr} {b : Nat} (x : Pen H p c b) (h : H q = none) : q ≠ c := by
  obtain ⟨cs, a, r, h1, h2, h3, h4, h5⟩ := x.ex
  exact (ne_of_none h2 h).symm
/-- an object that is neither the pen nor its list is written -/
theorem Pen.mut {H : Hp} {p c q : Addr} {b : Nat} {o : HO} (x : Pen H p c b) (h1 : q ≠ p) (h2 : q ≠ c) : Pen (upd H q o) p c b := by
  obtain ⟨cs, a, r, e1, e2, h3, h4, h5⟩ := x.ex
  exact ⟨cs, a, r, by rw [upd_ne h1.symm]; exact e1, by rw [upd_ne h2.symm]; exact e2, h3, h4, h5⟩
theorem Pen.old {H H' : Hp} {p c : Addr} {b : Nat} (x : Pen H p c b) (k : Same H H') : Pen H' p c b := by
  obtain ⟨cs, a, r, h1, h2, h3, h4, h5⟩ := x.ex
  exact ⟨cs, a, r, k _ _ h1, k _ _ h2, h3, h4, h5⟩
theorem Same.new {H : Hp} {p : Addr} {o : HO} (h : H p = none) : Same H (upd H p o) := fun b u e => by rw [upd_ne (ne_of_none e h)]; exact e
theorem Pen.new {H : Hp} {p c q : Addr} {b : Nat} {o : HO} (x : Pen H p c b) (h : H q = none) : Pen (upd H q o) p c b := x.old (Same.new h)
def spPen (K : PySem.W.Frag) : Sp := fun vs H Q _ => ∃ (a : Addr) (ns : List Int), vs = [.ref a] ∧ SqL K H a (ns.map V.int) ∧ ∀ p c H', Same H H' → H p = none → H c = none → Pen H' p c (2 ^ 59) → Q (.ref p) H'
def spDraw : Sp := fun vs H Q _ => ∃ (p c : Addr) (m : Int) (b : Nat), vs = [.ref p, .int m] ∧ 0 < m ∧ m.natAbs.log2 < 9000 ∧ Pen H p c (b + 1) ∧
  ∀ d H', 0 ≤ d → d < m → Pen H' p c b → Sav p H H' → Q (.int d) H'
theorem dp_ints {K : PySem.W.Frag} {H : Hp} : ∀ cs : List Int, DpAll K H (cs.map V.int) (cs.map PyData.int)
  | [] => .nil
  | c :: cs => .cons (.int c) (dp_ints cs)
theorem shaped_ints (cs : List Int) : SeqAt.shaped (.list (cs.map PyData.int)) = true := PySem.W.shaped_ints cs
theorem eqv_nil (cs : List Int) : (!PyData.eqv (.list (cs.map PyData.int)) (.list [])) = !cs.isEmpty := by cases cs <;> rfl
theorem at_mod {cs : List Int} {a : Int} (h : 0 < cs.length) : ∃ z, atI (cs.map V.int) (a % (((cs.map V.int).length : Nat) : Int)) = some (.int z) := by
  rw [List.length_map]
  have h1 : 0 ≤ a % (cs.length : Int) := Int.emod_nonneg a (by omega)
  have h2 : a % (cs.length : Int) < cs.length := Int.emod_lt_of_pos a (by omega)
  generalize a % (cs.length : Int) = j at *
  obtain ⟨n, rfl⟩ : ∃ n : Nat, j = (n : Int) := ⟨j.toNat, by omega⟩
  have hn : n < cs.length := by omega
  exact ⟨cs[n], atI_nat (by rw [List.getElem?_map, List.getElem?_eq_getElem hn]; rfl)⟩
theorem mul_mod {x y m : Int} (h : 0 < m) (h2 : m < 2 ^ 64) : CMul (x % m) y := .inl ⟨by have := Int.emod_nonneg x (show m ≠ 0 by omega); omega, by have := Int.emod_lt_of_pos x h; omega⟩
theorem Same.mut {H H' : Hp} {p : Addr} {o : HO} (e : Same H H') (h : H p = none) : Same H (upd H' p o) := fun a u ha => by
  rw [upd_ne (ne_of_none ha h)]
  exact e a u ha
theorem cut63 (ns : List Int) : ∃ cs : List Int, cutV (ns.map V.int) none (some 63) = cs.map V.int ∧ cs.length ≤ 63 := by
  refine ⟨ns.take (min 63 ns.length), ?_, by rw [List.length_take]; omega⟩
  show ((ns.map V.int).drop 0).take (HT.sIx (ns.map V.int).length (ns.map V.int).length (some ((63 : Nat) : Int)) - 0) = _
  rw [HT.sIx_nat, List.drop_zero, Nat.sub_zero, List.length_map, List.map_take]
theorem ints_at {cs : List Int} {i : Nat} {x : V} (h : (cs.map V.int)[i]? = some x) : ∃ z, cs[i]? = some z ∧ x = .int z := by
  rw [List.getElem?_map] at h
  cases e : cs[i]? with
  | none => rw [e] at h; cases h
  | some z => rw [e] at h; exact ⟨z, rfl, (Option.some.inj h).symm⟩
theorem take_int {cs : List Int} {i : Nat} {z : Int} (h : cs[i]? = some z) : (cs.take (i + 1)).map V.int = (cs.take i).map V.int ++ [V.int z] := by
  rw [List.take_succ, h, List.map_append]
  rfl
theorem merge_pen (D : Addr) : mergeK [] [(Sum.inr ("cells" : Str), V.ref D), (Sum.inr "at", .int 0), (Sum.inr "rest", .int 0)] = penD D 0 0 := by
  simp [mergeK, putK, penD, ne_ca, ne_cr, ne_ar]
theorem free2 {H : Hp} {p q D : Addr} {o u : HO} (hp : H p = none) (hq : (upd H p o) q = none) (hD : (upd (upd H p o) q u) D = none) : H D = none := by
  have n1 : D ≠ q := fun z => by rw [z, upd_same] at hD; cases hD
  rw [upd_ne n1] at hD
  have n2 : D ≠ p := fun z => by rw [z, upd_same] at hD; cases hD
  rw [upd_ne n2] at hD
  exact hD
theorem mod_in {x m : Int} (h : 0 < m) : 0 ≤ x % m ∧ x % m < m := ⟨Int.emod_nonneg x (by omega), Int.emod_lt_of_pos x h⟩
end RS.Pn

set_option maxRecDepth 100000
set_option maxHeartbeats 4000000
namespace RS.Pn
open PySem PySem.Spec PyProof.Rows L2 NdefX He PySem.W
variable [Tbls]
/-! ### the pen as data -/
def penDD (cs : List Int) (a r : Int) : List (Key × D) := [(.inr "cells", .lst (cs.map .int)), (.inr "at", .int a), (.inr "rest", .int r)]
/-- a pen from which b numbers may still be drawn -/
def PenM (m : MO) (b : Nat) : Prop := ∃ (cs : List Int) (a r : Int), m = .dct (penDD cs a r) ∧ cs.length ≤ 63 ∧ 0 ≤ a ∧ a + b ≤ 2 ^ 60
theorem PenM.mono {m : MO} {b b' : Nat} (h : b' ≤ b) (x : PenM m b) : PenM m b' := by
  obtain ⟨cs, a, r, h1, h2, h3, h4⟩ := x
  exact ⟨cs, a, r, h1, h2, h3, by omega⟩
theorem PenM.pen {K : Frg} {F : Hp} {M : MS} {G H : Hp} {p : Addr} {m : MO} {b : Nat} (rep : Rep K F M G H) (e : M p = some m) (x : PenM m b) : ∃ (c : Addr) (cs : List Int), F c = some (.lst (cs.map V.int)) ∧ Pen H p c b := by
  obtain ⟨cs, a, r, rfl, h2, h3, h4⟩ := x
  obtain ⟨kvs, h1, rr⟩ := rep.dct e
  unfold penDD at rr
  cases rr with
  | cons r1 rr =>
  cases rr with
  | cons r2 rr =>
  cases rr with
  | cons r3 rr =>
  cases rr
  cases r1 with
  | lst fc rr =>
  cases r2; cases r3
  cases ints_rv rr
  exact ⟨_, cs, fc, ⟨cs, a, r, h1, rep.fz _ _ fc, h2, h3, h4⟩⟩
theorem ints_inj : ∀ {xs ys : List Int}, xs.map V.int = ys.map V.int → xs = ys
  | [], [], _ => rfl
  | [], y :: ys, h => by simp at h
  | x :: xs, [], h => by simp at h
  | x :: xs, y :: ys, h => by
    rw [List.map_cons, List.map_cons] at h
    obtain ⟨h1, h2⟩ := List.cons.inj h
    cases h1
    rw [ints_inj h2]
theorem Pen.pm {K : Frg} {F : Hp} {H : Hp} {p c : Addr} {b : Nat} {cs : List Int} (x : Pen H p c b) (fc : F c = some (.lst (cs.map V.int))) (hc : H c = some (.lst (cs.map V.int))) : ∃ m o, H p = some o ∧ RepO K F (some o) m ∧ PenM m b := by
  obtain ⟨cs', a, r, h1, h2, h3, h4, h5⟩ := x.ex
  rw [h2] at hc
  have e : cs' = cs := ints_inj (HO.lst.inj (Option.some.inj hc))
  subst e
  exact ⟨.dct (penDD cs' a r), _, h1, .cons (.lst fc (Rvs.ints cs')) (.cons (.int _) (.cons (.int _) .nil)), ⟨cs', a, r, rfl, h3, h4, h5⟩⟩
def spDrawD : SpD := fun ds M R _ => ∃ (p : Addr) (m : MO) (i : Int) (b : Nat), ds = [.ref p, .int i] ∧ 0 < i ∧ i.natAbs.log2 < 9000 ∧ M p = some m ∧ PenM m (b + 1) ∧ ∀ z m', 0 ≤ z → z < i → PenM m' b → R (.int z) (updM M p m')
def spPenD : SpD := fun ds M R _ => ∃ ns : List Int, ds = [.scr ns] ∧ ns.length ≤ 63 ∧ ∀ p m, M p = none → PenM m (2 ^ 59) → R (.ref p) (updM M p m)
theorem draw_up {K : Frg} (vs : List V) (H : Hp) (Q : VK) (E : XK) (h : upSp K spDrawD vs H Q E) : spDraw vs H Q E := by
  obtain ⟨F, M, G, ds, R, W, rv, rep, ⟨p, m, i, b, rfl, h1, h2, h3, h4, h5⟩, k, kx⟩ := h
  cases rv with
  | cons r1 rv =>
  cases rv with
  | cons r2 rv =>
  cases rv; cases r1; cases r2
  obtain ⟨c, cs, fc, pn⟩ := h4.pen rep h3
  refine ⟨p, c, i, b, rfl, h1, h2, pn, fun z H' z0 z1 pn' sv => ?_⟩
  have np : ∀ {a : Addr} {o : HO}, F a = some o → a ≠ p := fun e q => by subst q; rw [(rep.mu _ _ h3).1] at e; cases e
  have hc : H' c = some (.lst (cs.map V.int)) := sv _ _ (np fc) (rep.fz _ _ fc)
  obtain ⟨m', o, e1, ro, bm⟩ := pn'.pm (K := K) fc hc
  refine k _ _ F H' _ (h5 z m' z0 z1 bm) (L2.Same.refl F) ⟨fun a o e => sv _ _ (np e) (rep.fz _ _ e), fun a n e => ?_, fun a o e => ?_, rep.nt, rep.ng, tabs_rep rep h3 sv⟩ (.int z)
  · by_cases ha : a = p
    · subst ha
      rw [updM_same] at e
      cases e
      rw [e1]
      exact ⟨(rep.mu _ _ h3).1, (rep.mu _ _ h3).2.1, ro⟩
    · rw [updM_ne ha] at e
      obtain ⟨x, y, w⟩ := rep.mu _ _ e
      obtain ⟨u, hu⟩ := w.some
      rw [sv _ _ ha hu, ← hu]
      exact ⟨x, y, w⟩
  · have ha : a ≠ p := fun q => by subst q; rw [(rep.mu _ _ h3).2.1] at e; cases e
    exact ⟨sv _ _ ha (rep.fr _ _ e).1, (rep.fr _ _ e).2⟩
theorem pen_up {K : Frg} (vs : List V) (H : Hp) (Q : VK) (E : XK) (h : upSp K spPenD vs H Q E) : spPen K vs H Q E := by
  obtain ⟨F, M, G, ds, R, W, rv, rep, ⟨ns, rfl, h1, h2⟩, k, kx⟩ := h
  cases rv with
  | cons r1 rv =>
  cases rv
  cases r1 with
  | scr sq =>
  refine ⟨_, ns, rfl, rep.fz.seq sq, fun p c H' s hp hc pn => ?_⟩
  obtain ⟨cs, a, r, e1, e2, _⟩ := id pn.ex
  have npc : p ≠ c := ne_of e1 e2 fun z => nomatch z
  have s' : L2.Same F (upd F c (.lst (cs.map V.int))) := Same.new (rep.freeF hc)
  obtain ⟨m, o, e3, ro, bm⟩ := pn.pm (K := K) (F := upd F c (.lst (cs.map V.int))) upd_same e2
  refine k _ _ _ H' _ (h2 p m (rep.freeM hp) bm) s' ⟨fun b o e => ?_, fun b n e => ?_, fun b o e => ?_, fun b o e => ?_, rep.ng, rep.tb.ext s⟩ (.ref p)
  · by_cases hb : b = c
    · subst hb; rw [upd_same] at e; cases e; exact e2
    · rw [upd_ne hb] at e; exact s _ _ (rep.fz _ _ e)
  · by_cases hb : b = p
    · subst hb
      rw [updM_same] at e
      cases e
      rw [e3, upd_ne npc]
      exact ⟨rep.freeF hp, rep.freeG hp, ro⟩
    · rw [updM_ne hb] at e
      obtain ⟨x, y, w⟩ := rep.mu _ _ e
      obtain ⟨u, hu⟩ := w.some
      have hbc : b ≠ c := fun q => by subst q; rw [hc] at hu; cases hu
      rw [upd_ne hbc, s _ _ hu, ← hu]
      exact ⟨x, y, w.mono s'⟩
  · have hbc : b ≠ c := fun q => by subst q; rw [rep.freeG hc] at e; cases e
    rw [upd_ne hbc]
    exact ⟨s _ _ (rep.fr _ _ e).1, (rep.fr _ _ e).2⟩
  · by_cases hb : b = c
    · subst hb; rw [upd_same] at e; cases e; exact True.intro
    · rw [upd_ne hb] at e; exact rep.nt _ _ e
end RS.Pn

set_option maxRecDepth 100000
set_option maxHeartbeats 4000000
namespace RS
open PySem PySem.Spec PyProof.Rows L2 NdefX He PySem.W RZ
variable [Tbls]
/-! ### zip, enumerate -/
def zipD (xs ys : List D) : List D := (xs.zip ys).map fun p => .tup [p.1, p.2]
theorem zipD_len (xs ys : List D) : (zipD xs ys).length = min xs.length ys.length := by
  unfold zipD
  rw [List.length_map, List.length_zip]
theorem zipD_at {xs ys : List D} {i : Nat} {x y : D} (h1 : xs[i]? = some x) (h2 : ys[i]? = some y) : (zipD xs ys)[i]? = some (.tup [x, y]) := by
  unfold zipD
  rw [List.getElem?_map]
  have e : (xs.zip ys)[i]? = some (x, y) := by
    rw [List.getElem?_zip_eq_some]
    exact ⟨h1, h2⟩
  rw [e]
  rfl
def enumD : Nat → List D → List D
  | _, [] => []
  | j, x :: xs => .tup [.int j, x] :: enumD (j + 1) xs
theorem enumD_len : ∀ (xs : List D) (j : Nat), (enumD j xs).length = xs.length
  | [], _ => rfl
  | x :: xs, j => by rw [enumD, List.length_cons, List.length_cons, enumD_len xs]
theorem enumD_at : ∀ {xs : List D} {j i : Nat} {x : D}, xs[i]? = some x → (enumD j xs)[i]? = some (.tup [.int ((j + i : Nat) : Int), x])
  | [], _, _, _, h => by simp at h
  | y :: xs, j, 0, x, h => by
    simp at h
    subst h
    rfl
  | y :: xs, j, i + 1, x, h => by
    have h2 : xs[i]? = some x := by simpa using h
    have := enumD_at (j := j + 1) h2
    rw [enumD, List.getElem?_cons_succ, this]
    congr 5
    omega
section
variable {K : Frg} {G F : Hp} {a b : Addr} {vs ws : List V} {xs ys : List D}
theorem itok_zipT (r : Rvs K F vs xs) (t : Rvs K F ws ys) (ha : SqT K F a vs) (hb : SqT K F b ws) : ItOk K G (ItzT K a b) F (zipD xs ys) := fun i F' M' H s rep hi => by
  have ha' : SqT K H a vs := Same.sqT rep.fz (Same.sqT s ha)
  have hb' : SqT K H b ws := Same.sqT rep.fz (Same.sqT s hb)
  have l1 := r.len
  have l2 := t.len
  rw [zipD_len]
  refine ⟨fun e => ⟨vs, ws, ha', hb', by omega⟩, fun hlt => ?_⟩
  have e1 : vs[i]? = some (vs[i]'(by omega)) := List.getElem?_eq_getElem _
  have e2 : ws[i]? = some (ws[i]'(by omega)) := List.getElem?_eq_getElem _
  obtain ⟨d1, q1, r1⟩ := r.at e1
  obtain ⟨d2, q2, r2⟩ := t.at e2
  refine ⟨⟨vs, ws, _, _, ha', hb', e1, e2⟩, fun v H' ⟨T, x, y, hv, hT, hH, hx, hy⟩ => ?_⟩
  subst hv hH
  have h1 := hx vs ha'
  have h2 := hy ws hb'
  rw [e1] at h1
  rw [e2] at h2
  cases h1
  cases h2
  obtain ⟨rep', s'⟩ := rep.newF (o := .tup [vs[i]'(by omega), ws[i]'(by omega)]) hT
  refine ⟨_, _, s', rep', zipD_at q1 q2, .tup (SqT.of upd_same) (.cons (r1.mono (s.trans s')) (.cons (r2.mono (s.trans s')) .nil))⟩
theorem itok_zipL (r : Rvs K F vs xs) (t : Rvs K F ws ys) (ha : F a = some (.lst vs)) (hb : F b = some (.lst ws)) : ItOk K G (Itz K a b) F (zipD xs ys) := fun i F' M' H s rep hi => by
  have ha' : SqL K H a vs := SqL.of (rep.fz _ _ (s _ _ ha))
  have hb' : SqL K H b ws := SqL.of (rep.fz _ _ (s _ _ hb))
  have l1 := r.len
  have l2 := t.len
  rw [zipD_len]
  refine ⟨fun e => ⟨vs, ws, ha', hb', by omega⟩, fun hlt => ?_⟩
  have e1 : vs[i]? = some (vs[i]'(by omega)) := List.getElem?_eq_getElem _
  have e2 : ws[i]? = some (ws[i]'(by omega)) := List.getElem?_eq_getElem _
  obtain ⟨d1, q1, r1⟩ := r.at e1
  obtain ⟨d2, q2, r2⟩ := t.at e2
  refine ⟨⟨vs, ws, _, _, ha', hb', e1, e2⟩, fun v H' ⟨T, x, y, hv, hT, hH, hx, hy⟩ => ?_⟩
  subst hv hH
  have h1 := hx vs ha'
  have h2 := hy ws hb'
  rw [e1] at h1
  rw [e2] at h2
  cases h1
  cases h2
  obtain ⟨rep', s'⟩ := rep.newF (o := .tup [vs[i]'(by omega), ws[i]'(by omega)]) hT
  refine ⟨_, _, s', rep', zipD_at q1 q2, .tup (SqT.of upd_same) (.cons (r1.mono (s.trans s')) (.cons (r2.mono (s.trans s')) .nil))⟩
theorem itok_enumL (r : Rvs K F vs xs) (ha : F a = some (.lst vs)) : ItOk K G (Ite K a) F (enumD 0 xs) := fun i F' M' H s rep hi => by
  have ha' : SqL K H a vs := SqL.of (rep.fz _ _ (s _ _ ha))
  have l1 := r.len
  rw [enumD_len]
  refine ⟨fun e => ⟨vs, ha', by omega⟩, fun hlt => ?_⟩
  have e1 : vs[i]? = some (vs[i]'(by omega)) := List.getElem?_eq_getElem _
  obtain ⟨d1, q1, r1⟩ := r.at e1
  refine ⟨⟨vs, _, ha', e1⟩, fun v H' ⟨T, x, hv, hT, hH, hx⟩ => ?_⟩
  subst hv hH
  have h1 := hx vs ha'
  rw [e1] at h1
  cases h1
  obtain ⟨rep', s'⟩ := rep.newF (o := .tup [.int (i : Nat), vs[i]'(by omega)]) hT
  refine ⟨_, _, s', rep', enumD_at q1, .tup (SqT.of upd_same) (.cons ?_ (.cons (r1.mono (s.trans s')) .nil))⟩
  have : ((0 + i : Nat) : Int) = (i : Int) := by omega
  rw [this]
  exact .int _
end
section
variable {X : Cx} {E : L2.St → XK} {pos p tpos : Pos} {e e2 : Expr} {elts : List Expr} {kk : Nat} {Ta : TAD}
def dZip (T : TAD) : TID := fun τ M R W => T τ M (fun ds M1 => match ds with
  | [.tup xs, .tup ys] => R (zipD xs ys) M1
  | [.lst xs, .lst ys] => R (zipD xs ys) M1
  | _ => False) W
theorem di_zip (hm : X.mg "zip" = none) (ha : DAs X E [e, e2] Ta) (hg : Gl X "zip" := by rfl) (hs : starEach [e, e2] X.env = (false, eval e X.env) :: starEach [e2] X.env := by rfl) (hpl : (backTo pos (starEach [e2] X.env)).any (·.1) = false := by rfl) :
    DI X E (.Tuple elts kk tpos) (.Call (.Name "zip" p) [e, e2] [] pos) (dZip Ta) := by
  refine ⟨(pi_zipA hg hm ha.p hs hpl).imp fun σ H R ⟨F, M, G, τ, Rd, W, rs, rep, h, k, kx⟩ => ?_⟩
  refine ⟨F, M, G, τ, _, W, rs, rep, h, fun ds M1 F1 H1 vs q s1 rep1 r1 => ?_, kx⟩
  dsimp only at q
  split at q
  · cases r1 with
    | cons r1 r2 =>
    cases r2 with
    | cons r2 r3 =>
    cases r3
    cases r1 with
    | tup t1 v1 =>
    cases r2 with
    | tup t2 v2 =>
    exact ⟨_, _, _, _, rfl, .inr ⟨Same.sqT rep1.fz t1, Same.sqT rep1.fz t2, k _ M1 F1 H1 _ q s1 rep1 fun G' => itok_zipT v1 v2 t1 t2⟩⟩
  · cases r1 with
    | cons r1 r2 =>
    cases r2 with
    | cons r2 r3 =>
    cases r3
    cases r1 with
    | lst t1 v1 =>
    cases r2 with
    | lst t2 v2 =>
    exact ⟨_, _, _, _, rfl, .inl ⟨SqL.of (rep1.fz _ _ t1), SqL.of (rep1.fz _ _ t2), k _ M1 F1 H1 _ q s1 rep1 fun G' => itok_zipL v1 v2 t1 t2⟩⟩
  · exact q.elim
def dEnum (T : TAD) : TID := fun τ M R W => T τ M (fun ds M1 => match ds with
  | [.lst xs] => R (enumD 0 xs) M1
  | _ => False) W
theorem di_enum (hm : X.mg "enumerate" = none) (ha : DAs X E [e] Ta) (hg : Gl X "enumerate" := by rfl) (hs : starEach [e] X.env = [(false, eval e X.env)] := by rfl) :
    DI X E (.Tuple elts kk tpos) (.Call (.Name "enumerate" p) [e] [] pos) (dEnum Ta) := by
  refine ⟨(pi_enum hg hm ha.p hs).imp fun σ H R ⟨F, M, G, τ, Rd, W, rs, rep, h, k, kx⟩ => ?_⟩
  refine ⟨F, M, G, τ, _, W, rs, rep, h, fun ds M1 F1 H1 vs q s1 rep1 r1 => ?_, kx⟩
  dsimp only at q
  split at q
  · cases r1 with
    | cons r1 r2 =>
    cases r2
    cases r1 with
    | lst t1 v1 =>
    exact ⟨_, _, rfl, SqL.of (rep1.fz _ _ t1), k _ M1 F1 H1 _ q s1 rep1 fun G' => itok_enumL v1 t1⟩
  · exact q.elim
end
end RS

set_option maxRecDepth 100000
set_option maxHeartbeats 4000000
namespace RS
open PySem PySem.Spec PyProof.Rows L2 NdefX He PySem.W
open scoped Rat
variable [Tbls]
/-! ### numbers of the line -/
def nG (a b : Int) : Int := ((Int.gcd a b : Nat) : Int)
def nP (a b : Int) : Int := if b < 0 then -nG a b else nG a b
theorem nG_pos {a b : Int} (h : b ≠ 0) : 0 < nG a b := by
  unfold nG
  have : 0 < Int.gcd a b := Int.gcd_pos_of_ne_zero_right a h
  omega
theorem nP_ne {a b : Int} (h : b ≠ 0) : nP a b ≠ 0 := by
  unfold nP
  have := nG_pos (a := a) h
  split <;> omega
theorem nP_abs (a b : Int) : (nP a b).natAbs = Int.gcd a b := by
  unfold nP nG
  split <;> simp
theorem nP_le {a b : Int} (h : b ≠ 0) : (nP a b).natAbs ≤ b.natAbs := by
  rw [nP_abs]
  exact Nat.le_of_dvd (by omega) (by rw [Int.gcd_eq_natAbs_gcd_natAbs]; exact Nat.gcd_dvd_right _ _)
theorem gcd_step (x y : Nat) : Int.gcd (y : Int) ((x : Int) % (y : Int)) = Int.gcd (x : Int) (y : Int) := by
  rw [← Int.natCast_emod, Int.gcd_natCast_natCast, Int.gcd_natCast_natCast, Nat.gcd_comm y, ← Nat.gcd_rec, Nat.gcd_comm]
theorem abs_if (i : Int) : (if i < 0 then -i else i) = (i.natAbs : Int) := by split <;> omega
/-- x is of fewer than k bits -/
def Bd (k : Nat) (x : Int) : Prop := x.natAbs < 2 ^ k
theorem Bd.mono {k j : Nat} {x : Int} (h : Bd k x) (hk : k ≤ j) : Bd j x := Nat.lt_of_lt_of_le h (Nat.pow_le_pow_right (by decide) hk)
theorem Bd.mul {k j : Nat} {x y : Int} (h : Bd k x) (h2 : Bd j y) : Bd (k + j) (x * y) := wide_lt h h2
theorem Bd.add {k : Nat} {x y : Int} (h : Bd k x) (h2 : Bd k y) : Bd (k + 1) (x + y) := by
  unfold Bd at *
  rw [Nat.pow_succ]
  omega
theorem Bd.sub {k : Nat} {x y : Int} (h : Bd k x) (h2 : Bd k y) : Bd (k + 1) (x - y) := by
  unfold Bd at *
  rw [Nat.pow_succ]
  omega
theorem Bd.neg {k : Nat} {x : Int} (h : Bd k x) : Bd k (-x) := by
  unfold Bd at *
  omega
theorem Bd.w {k j : Nat} {x y : Int} (h : Bd k x) (h2 : Bd j y) (h3 : k ≤ 100000) (h4 : j ≤ 100000) : IntMulOk x y := CMulW.ok (wide_mul (a := k + 1) (b := j + 1) (h.mono (by omega)) (h2.mono (by omega)) (by omega) (by omega) (by omega))
theorem Bd.log {k : Nat} {x : Int} (h : Bd k x) (h9 : k ≤ 8000) : x.natAbs.log2 < 9000 := Nat.lt_of_lt_of_le (PySem.Flt.log2_lt_of (k := k + 1) (by omega) (h.mono (by omega))) (by omega)
theorem Bd.le {k : Nat} {x y : Int} (h : Bd k x) (hy : y.natAbs ≤ x.natAbs) : Bd k y := Nat.lt_of_le_of_lt hy h
theorem bd_of {k n : Nat} {x : Int} (h : x.natAbs ≤ n) (hn : Nat.blt n (2 ^ k) = true) : Bd k x := Nat.lt_of_le_of_lt h (Nat.blt_eq.mp hn)
/-- a number as data -/
def qN (r : Rat) : D := .tup [.int r.num, .int (r.den : Int)]
/-- its size -/
def Sz (k : Nat) (r : Rat) : Prop := Bd k r.num ∧ Bd k (r.den : Int)
theorem Sz.mono {k j : Nat} {r : Rat} (h : Sz k r) (hk : k ≤ j) : Sz j r := ⟨h.1.mono hk, h.2.mono hk⟩
theorem dEqB_qN (a b : Rat) : dEqB (qN a) (qN b) = decide (a = b) := by
  show dEqB (Dt.d ((a.num, (a.den : Int)) : Int × Int)) (Dt.d ((b.num, (b.den : Int)) : Int × Int)) = _
  rw [dEqB_d]
  refine decide_eq_decide.mpr ⟨fun e => ?_, fun e => by rw [e]⟩
  rw [Prod.mk.injEq] at e
  exact Rat.ext e.1 (by omega)
theorem fdiv_dvd {a b : Int} (h : b ∣ a) : a.fdiv b = a / b := by
  rw [Int.fdiv_eq_ediv_of_dvd h]
theorem num_of {top low : Int} (h : low ≠ 0) : top.fdiv (nP top low) = (top /. low).num ∧ low.fdiv (nP top low) = ((top /. low).den : Int) := by
  have g := Int.gcd_pos_of_ne_zero_right top h
  have d1 : ((Int.gcd top low : Nat) : Int) ∣ top := Int.gcd_dvd_left ..
  have d2 : ((Int.gcd top low : Nat) : Int) ∣ low := Int.gcd_dvd_right ..
  rw [Rat.num_divInt, Rat.den_divInt, if_neg h, Int.gcd_comm low top]
  unfold nP nG
  by_cases hl : low < 0
  · rw [if_pos hl]
    have n1 : (-((Int.gcd top low : Nat) : Int)) ∣ top := Int.neg_dvd.mpr d1
    have n2 : (-((Int.gcd top low : Nat) : Int)) ∣ low := Int.neg_dvd.mpr d2
    rw [fdiv_dvd n1, fdiv_dvd n2, Int.ediv_neg, Int.ediv_neg, Int.sign_eq_neg_one_of_neg hl]
    constructor
    · rw [Int.neg_mul, Int.one_mul, Int.neg_ediv_of_dvd d1]
    · rw [Int.natCast_ediv, ← Int.neg_ediv_of_dvd d2]
      congr 1
      omega
  · rw [if_neg hl]
    rw [fdiv_dvd d1, fdiv_dvd d2, Int.sign_eq_one_of_pos (by omega)]
    constructor
    · rw [Int.one_mul]
    · rw [Int.natCast_ediv]
      congr 1
      omega
theorem Sz.of {k : Nat} {top low : Int} (h : low ≠ 0) (h1 : Bd k top) (h2 : Bd k low) : Sz k (top /. low) := by
  have g : 0 < Int.gcd top low := Int.gcd_pos_of_ne_zero_right top h
  constructor
  · refine h1.le ?_
    rw [Rat.num_divInt, Int.gcd_comm low top]
    have d1 : ((Int.gcd top low : Nat) : Int) ∣ low.sign * top := Int.dvd_mul_of_dvd_right (Int.gcd_dvd_left ..)
    rw [Int.natAbs_ediv_of_dvd d1, Int.natAbs_mul]
    refine Nat.le_trans (Nat.div_le_self _ _) ?_
    rw [Int.natAbs_sign_of_ne_zero h]
    omega
  · refine h2.le ?_
    rw [Rat.den_divInt, if_neg h]
    simp only [Int.natAbs_natCast]
    exact Nat.div_le_self _ _
theorem den_ne (r : Rat) : ((r.den : Int)) ≠ 0 := by have := r.den_pos; omega
theorem den_ne2 (a b : Rat) : (a.den : Int) * (b.den : Int) ≠ 0 := Int.mul_ne_zero (den_ne a) (den_ne b)
theorem q_add (a b : Rat) : (a.num * b.den + b.num * a.den) /. ((a.den : Int) * b.den) = a + b := by
  rw [Rat.add_def', ← Int.natCast_mul, Rat.divInt_ofNat]
theorem q_sub (a b : Rat) : (a.num * b.den - b.num * a.den) /. ((a.den : Int) * b.den) = a - b := by
  rw [Rat.sub_def', ← Int.natCast_mul, Rat.divInt_ofNat]
theorem q_mul (a b : Rat) : (a.num * b.num) /. ((a.den : Int) * b.den) = a * b := by
  rw [Rat.mul_def', ← Int.natCast_mul, Rat.divInt_ofNat]
theorem q_div (a b : Rat) : (a.num * b.den) /. ((a.den : Int) * b.num) = a / b := by
  rw [Rat.div_def, Rat.inv_def, ← Rat.divInt_mul_divInt, Rat.num_divInt_den]
theorem Sz.add {k j : Nat} {a b : Rat} (x : Sz k a) (y : Sz j b) : Sz (k + j + 1) (a + b) := by
  rw [← q_add]
  refine Sz.of (den_ne2 a b) ?_ ?_
  · exact Bd.add (x.1.mul y.2) ((y.1.mul x.2).mono (by omega))
  · exact (x.2.mul y.2).mono (by omega)
theorem Sz.sub {k j : Nat} {a b : Rat} (x : Sz k a) (y : Sz j b) : Sz (k + j + 1) (a - b) := by
  rw [← q_sub]
  refine Sz.of (den_ne2 a b) ?_ ?_
  · exact Bd.sub (x.1.mul y.2) ((y.1.mul x.2).mono (by omega))
  · exact (x.2.mul y.2).mono (by omega)
theorem Sz.mul {k j : Nat} {a b : Rat} (x : Sz k a) (y : Sz j b) : Sz (k + j) (a * b) := by
  rw [← q_mul]
  exact Sz.of (den_ne2 a b) (x.1.mul y.1) (x.2.mul y.2)
theorem num_ne {b : Rat} (h : b ≠ 0) : b.num ≠ 0 := fun z => h (Rat.num_eq_zero.mp z)
theorem Sz.div {k j : Nat} {a b : Rat} (h : b ≠ 0) (x : Sz k a) (y : Sz j b) : Sz (k + j) (a / b) := by
  rw [← q_div]
  exact Sz.of (Int.mul_ne_zero (den_ne a) (num_ne h)) (x.1.mul y.2) (x.2.mul y.1)
theorem Sz.int {k : Nat} {i : Int} (h : Bd k i) (h0 : 1 ≤ k) : Sz k (i : Rat) := ⟨h, by
  show Bd k (((i : Rat).den : Nat) : Int)
  rw [Rat.den_intCast]
  exact Nat.lt_of_lt_of_le (show 1 < 2 ^ 1 by decide) (Nat.pow_le_pow_right (by decide) h0)⟩
theorem qN_int (i : Int) : qN (i : Rat) = .tup [.int i, .int 1] := rfl
theorem lt_iff' (a b : Rat) : a < b ↔ a.num * b.den < b.num * a.den := Rat.lt_iff a b
/-- cross sums -/
theorem cross_lt (a b : Rat) : decide (a.num * (b.den : Int) < b.num * (a.den : Int)) = decide (a < b) := decide_eq_decide.mpr (lt_iff' a b).symm
theorem Rt.lt_asymm {a b : Rat} (h : a < b) : ¬ b < a := fun z => Rat.not_le.mpr h (Rat.le_of_lt z)
/-- the sign of the difference -/
def sgQ (a b : Rat) : Int := (if b < a then 1 else 0) - (if a < b then 1 else 0)
theorem sgQ_lt {a b : Rat} (h : a < b) : sgQ a b = -1 := by
  unfold sgQ
  rw [if_pos h, if_neg (Rt.lt_asymm h)]
  rfl
theorem sgQ_neg (a b : Rat) : decide (sgQ a b < 0) = decide (a < b) := by
  refine decide_eq_decide.mpr ?_
  unfold sgQ
  by_cases h : a < b
  · rw [if_pos h, if_neg (Rt.lt_asymm h)]
    exact ⟨fun _ => h, fun _ => by decide⟩
  · rw [if_neg h]
    refine ⟨fun z => ?_, fun z => (h z).elim⟩
    split at z <;> omega
end RS

set_option maxRecDepth 100000
set_option maxHeartbeats 4000000
namespace RS
open PySem PySem.Spec PyProof.Rows L2 NdefX He PySem.W
variable [Tbls]
/-! ### rays and what leads along them -/
structure Ray where
  low : Option Rat
  high : Option Rat
  way : Int
  cs : List (Rat × Rat)
def oN : Option Rat → D
  | none => .non
  | some r => qN r
def cD (c : Rat × Rat) : D := .tup [qN c.1, qN c.2]
/-- as told; as kept -/
def rayG (r : Ray) : D := .tup [oN r.low, oN r.high, .int r.way, .lst (r.cs.map cD)]
def rayD (r : Ray) : D := .tup [oN r.low, oN r.high, .int r.way, .tup (r.cs.map cD)]
def AscQ : List (Rat × Rat) → Prop
  | a :: b :: r => a.1 < b.1 ∧ a.2 < b.2 ∧ AscQ (b :: r)
  | _ => True
def fstC (r : Ray) : Rat × Rat := r.cs.head?.getD (0, 0)
def lstC (r : Ray) : Rat × Rat := r.cs.getLast?.getD (0, 0)
structure RayOK (r : Ray) : Prop where
  way : r.way = 1 ∨ r.way = -1
  ne : r.cs ≠ []
  few : r.cs.length ≤ 100
  asc : AscQ r.cs
  lo : ∀ x, r.low = some x → x < (fstC r).2
  hi : ∀ x, r.high = some x → (lstC r).2 < x
  szc : ∀ c ∈ r.cs, Sz 110 c.1 ∧ Sz 110 c.2
  szl : ∀ x, r.low = some x → Sz 110 x
  szh : ∀ x, r.high = some x → Sz 110 x
theorem fst_mem {r : Ray} (h : r.cs ≠ []) : fstC r ∈ r.cs := by
  unfold fstC
  cases e : r.cs with
  | nil => exact absurd e h
  | cons a b => simp
theorem lst_mem {r : Ray} (h : r.cs ≠ []) : lstC r ∈ r.cs := by
  unfold lstC
  rw [List.getLast?_eq_some_getLast h]
  exact List.getLast_mem h
theorem atD_fst {r : Ray} (h : r.cs ≠ []) : atD (r.cs.map cD) 0 = some (cD (fstC r)) := by
  unfold fstC
  cases e : r.cs with
  | nil => exact absurd e h
  | cons a b => exact atD_0
theorem atD_lst {r : Ray} (h : r.cs ≠ []) : atD (r.cs.map cD) (-1) = some (cD (lstC r)) := by
  unfold lstC
  obtain ⟨a, b, e⟩ : ∃ a b, r.cs = a ++ [b] := ⟨_, _, (List.dropLast_concat_getLast h).symm⟩
  rw [e, List.map_append, List.getLast?_concat]
  exact atD_last
def interC : List (Rat × Rat) → Rat → Option Rat
  | a :: b :: r, t => if b.1 < t then interC (b :: r) t else some (a.2 + (t - a.1) * ((b.2 - a.2) / (b.1 - a.1)))
  | _, _ => none
def interP : List (Rat × Rat) → Rat → Option Rat
  | a :: b :: r, t => if b.2 < t then interP (b :: r) t else some (a.1 + (t - a.2) * ((b.1 - a.1) / (b.2 - a.2)))
  | _, _ => none
def placeAt (r : Ray) (t : Rat) : Rat :=
  if t < (lstC r).1 then
    (if (fstC r).1 < t then (interC r.cs t).getD (lstC r).2
    else match r.low with
      | none => (fstC r).2 - ((fstC r).1 - t)
      | some lo => lo + ((fstC r).2 - lo) / (1 + ((fstC r).1 - t)))
  else match r.high with
    | none => (lstC r).2 + (t - (lstC r).1)
    | some h => h - (h - (lstC r).2) / (1 + (t - (lstC r).1))
def clockAt (r : Ray) (p : Rat) : Rat :=
  if p < (lstC r).2 then
    (if (fstC r).2 < p then (interP r.cs p).getD (lstC r).1
    else match r.low with
      | none => (fstC r).1 - ((fstC r).2 - p)
      | some lo => ((fstC r).1 + 1) - ((fstC r).2 - lo) / (p - lo))
  else match r.high with
    | none => (lstC r).1 + (p - (lstC r).2)
    | some h => ((lstC r).1 - 1) + (h - (lstC r).2) / (h - p)
def onB (r : Ray) (p : Rat) : Bool := (match r.low with
  | none => true
  | some x => decide (x < p)) && (match r.high with
  | none => true
  | some x => decide (p < x))
def powQ : List Ray → Rat → Int → Rat
  | [], x, _ => x
  | r :: rs, x, n => if onB r x = true then (if n = 0 then x else placeAt r (clockAt r x + ((r.way * n : Int) : Rat))) else powQ rs x n
def abvB (r b : Ray) : Bool := match b.high, r.low with
  | some h, some l => !decide (l < h)
  | _, _ => false
/-- rays one above the other -/
def ChainR : List Ray → Prop
  | a :: b :: r => abvB b a = true ∧ ChainR (b :: r)
  | _ => True
theorem onB_lo {r : Ray} {p x : Rat} (h : onB r p = true) (e : r.low = some x) : x < p := by
  unfold onB at h
  rw [e] at h
  exact of_decide_eq_true (ba h).1
theorem onB_hi {r : Ray} {p x : Rat} (h : onB r p = true) (e : r.high = some x) : p < x := by
  unfold onB at h
  rw [e] at h
  exact of_decide_eq_true (ba h).2
theorem sub_ne {a b : Rat} (h : a < b) : b - a ≠ 0 := fun z => by
  have := (Rat.lt_iff_sub_pos a b).mp h
  rw [z] at this
  exact Rat.lt_irrefl this
theorem one_ne {a b : Rat} (h : ¬ b < a) : 1 + (b - a) ≠ 0 := fun z => by grind
theorem sz_one : Sz 1 (1 : Rat) := ⟨by show (1 : Int).natAbs < 2; decide, by show (1 : Int).natAbs < 2; decide⟩
theorem Sz.ge1 {k : Nat} {r : Rat} (h : Sz k r) : 1 ≤ k := by
  have h1 := h.2
  unfold Bd at h1
  have := r.den_pos
  rcases Nat.eq_zero_or_pos k with z | z
  · subst z
    simp at h1
    omega
  · exact z
theorem interC_sz {k : Nat} {t : Rat} (ht : Sz k t) : ∀ {cs : List (Rat × Rat)} {x : Rat}, (∀ c ∈ cs, Sz 110 c.1 ∧ Sz 110 c.2) → AscQ cs → interC cs t = some x → Sz (k + 700) x
  | a :: b :: r, x, h, ha, e => by
    obtain ⟨a1, a2⟩ := h a (by simp)
    obtain ⟨b1, b2⟩ := h b (by simp)
    unfold interC at e
    split at e
    · exact interC_sz ht (fun c hc => h c (List.mem_cons_of_mem _ hc)) ha.2.2 e
    · cases e
      exact (a2.add ((ht.sub a1).mul (Sz.div (sub_ne ha.1) (b2.sub a2) (b1.sub a1)))).mono (by omega)
  | [], _, _, _, e => by cases e
  | [_], _, _, _, e => by cases e
theorem interP_sz {k : Nat} {t : Rat} (ht : Sz k t) : ∀ {cs : List (Rat × Rat)} {x : Rat}, (∀ c ∈ cs, Sz 110 c.1 ∧ Sz 110 c.2) → AscQ cs → interP cs t = some x → Sz (k + 700) x
  | a :: b :: r, x, h, ha, e => by
    obtain ⟨a1, a2⟩ := h a (by simp)
    obtain ⟨b1, b2⟩ := h b (by simp)
    unfold interP at e
    split at e
    · exact interP_sz ht (fun c hc => h c (List.mem_cons_of_mem _ hc)) ha.2.2 e
    · cases e
      exact (a1.add ((ht.sub a2).mul (Sz.div (sub_ne ha.2.1) (b1.sub a1) (b2.sub a2)))).mono (by omega)
  | [], _, _, _, e => by cases e
  | [_], _, _, _, e => by cases e
theorem placeAt_sz {r : Ray} (o : RayOK r) {k : Nat} {t : Rat} (ht : Sz k t) : Sz (k + 700) (placeAt r t) := by
  obtain ⟨f1, f2⟩ := o.szc _ (fst_mem o.ne)
  obtain ⟨l1, l2⟩ := o.szc _ (lst_mem o.ne)
  unfold placeAt
  split
  · split
    · cases e : interC r.cs t with
      | none => exact l2.mono (by omega)
      | some x => exact interC_sz ht o.szc o.asc e
    · rename_i h1 h2
      cases e : r.low with
      | none => exact (f2.sub (f1.sub ht)).mono (by omega)
      | some lo => exact ((o.szl _ e).add (Sz.div (one_ne h2) (f2.sub (o.szl _ e)) (sz_one.add (f1.sub ht)))).mono (by omega)
  · rename_i h1
    cases e : r.high with
    | none => exact (l2.add (ht.sub l1)).mono (by omega)
    | some hi => exact ((o.szh _ e).sub (Sz.div (one_ne h1) ((o.szh _ e).sub l2) (sz_one.add (ht.sub l1)))).mono (by omega)
theorem clockAt_sz {r : Ray} (o : RayOK r) {k : Nat} {p : Rat} (hp : Sz k p) (on : onB r p = true) : Sz (k + 700) (clockAt r p) := by
  obtain ⟨f1, f2⟩ := o.szc _ (fst_mem o.ne)
  obtain ⟨l1, l2⟩ := o.szc _ (lst_mem o.ne)
  unfold clockAt
  split
  · split
    · cases e : interP r.cs p with
      | none => exact l1.mono (by omega)
      | some x => exact interP_sz hp o.szc o.asc e
    · rename_i h1 h2
      cases e : r.low with
      | none => exact (f1.sub (f2.sub hp)).mono (by omega)
      | some lo => exact ((f1.add sz_one).sub (Sz.div (sub_ne (onB_lo on e)) (f2.sub (o.szl _ e)) (hp.sub (o.szl _ e)))).mono (by omega)
  · rename_i h1
    cases e : r.high with
    | none => exact (l1.add (hp.sub l2)).mono (by omega)
    | some hi => exact ((l1.sub sz_one).add (Sz.div (sub_ne (onB_hi on e)) ((o.szh _ e).sub l2) ((o.szh _ e).sub hp))).mono (by omega)
theorem way_bd {r : Ray} (o : RayOK r) {n : Int} (h : Bd 140 n) : Bd 140 (r.way * n) := by
  rcases o.way with e | e
  · rw [e, Int.one_mul]
    exact h
  · rw [e, Int.neg_mul, Int.one_mul]
    exact h.neg
theorem powQ_sz {k : Nat} {x : Rat} (hx : Sz k x) {n : Int} (hn : Bd 140 n) : ∀ {rs : List Ray}, (∀ r ∈ rs, RayOK r) → Sz (k + 1600) (powQ rs x n)
  | [], _ => hx.mono (by omega)
  | r :: rs, h => by
    unfold powQ
    split
    · split
      · exact hx.mono (by omega)
      · rename_i on _
        have o := h r (by simp)
        exact (placeAt_sz o ((clockAt_sz o hx on).add (Sz.int (way_bd o hn) (by omega)))).mono (by omega)
    · exact powQ_sz hx hn fun r hr => h r (List.mem_cons_of_mem _ hr)
theorem dIte_fe {b : Bool} {p q : Prop} (e : b = false) (h : q) : dIte b p q := ⟨fun z => (by rw [e] at z; cases z), fun _ => h⟩
theorem dIte_te {b : Bool} {p q : Prop} (e : b = true) (h : p) : dIte b p q := ⟨fun _ => h, fun z => (by rw [e] at z; cases z)⟩
theorem ChainR.at_ : ∀ {r1 r2 : List Ray} {b x : Ray}, ChainR (r1 ++ b :: x :: r2) → abvB x b = true
  | [], _, _, _, h => h.1
  | [_], _, _, _, h => (ChainR.at_ (r1 := []) h.2)
  | _ :: a :: r1, _, _, _, h => ChainR.at_ (r1 := a :: r1) h.2
def kndQ : List Ray → List Str
  | [⟨none, none, w, _⟩] => if w = 1 then ["free", "rising"] else ["free", "falling"]
  | _ => ["free"]
theorem q_share (x y z : Rat) : Rat.divInt (x.num * y.num * z.den) ((x.den : Int) * y.den * z.num) = x * y / z := by
  rw [← Rat.divInt_mul_divInt, q_mul, Rat.div_def, Rat.inv_def]
theorem way_pd : ∀ d ∈ [D.int 1, D.int (-1)], PD 63 d := fun d hd => by
  rcases List.mem_cons.mp hd with rfl | hd
  · trivial
  · rw [List.mem_singleton.mp hd]
    trivial
theorem way_in {w : Int} (h : w = 1 ∨ w = -1) : inB (.int w) [.int 1, .int (-1)] = true := by
  rcases h with rfl | rfl <;> rfl
def curD (C : Addr) (rs : List Ray) : D := .ins C [("rays", .tup (rs.map rayD))]
theorem cut_1 {xs : List D} : cutD xs (some 1) none = xs.drop 1 := cut_from (i := 1) rfl
theorem zip_cons (a b : Rat × Rat) (r : List (Rat × Rat)) : zipD ((a :: b :: r).map cD) (((a :: b :: r).drop 1).map cD) = .tup [cD a, cD b] :: zipD ((b :: r).map cD) (((b :: r).drop 1).map cD) := rfl
end RS

set_option maxRecDepth 100000
set_option maxHeartbeats 4000000
namespace RS
variable [Tbls]
/-! ### plain laws of rays: order kept, a power behind a power -/
theorem lin_inv {x y dx dy : Rat} (h1 : dx ≠ 0) (h2 : dy ≠ 0) (h : y = x * (dy / dx)) : y * (dx / dy) = x := by
  subst h
  grind
theorem lin_pos {x dx dy : Rat} (h0 : 0 < x) (h1 : 0 < dx) (h2 : 0 < dy) : 0 < x * (dy / dx) := Rat.mul_pos h0 (by rw [Rat.div_def]; exact Rat.mul_pos h2 (Rat.inv_pos.mpr h1))
theorem div_pos {a b : Rat} (h1 : 0 < a) (h2 : 0 < b) : 0 < a / b := by rw [Rat.div_def]; exact Rat.mul_pos h1 (Rat.inv_pos.mpr h2)
theorem lin_le {x dx dy : Rat} (h0 : x ≤ dx) (h1 : 0 < dx) (h2 : 0 < dy) : x * (dy / dx) ≤ dy := by
  have h3 := Rat.mul_le_mul_of_nonneg_right h0 (Rat.le_of_lt (div_pos h2 h1))
  have h4 : dx * (dy / dx) = dy := by
    have : dx ≠ 0 := (Rat.ne_of_lt h1).symm
    grind
  rw [h4] at h3
  exact h3
theorem lin_lt {x y dx dy : Rat} (h : x < y) (h1 : 0 < dx) (h2 : 0 < dy) : x * (dy / dx) < y * (dy / dx) := (Rat.mul_lt_mul_right (div_pos h2 h1)).mpr h
theorem sub_pos' {a b : Rat} (h : a < b) : 0 < b - a := (Rat.lt_iff_sub_pos a b).mp h
def lastC : Rat × Rat → List (Rat × Rat) → Rat × Rat
  | a, [] => a
  | _, b :: r => lastC b r
theorem lastC_cons (a b : Rat × Rat) (r : List (Rat × Rat)) : lastC a (b :: r) = lastC b r := rfl
theorem last_ge : ∀ (a : Rat × Rat) (cs : List (Rat × Rat)), AscQ (a :: cs) → a.1 ≤ (lastC a cs).1 ∧ a.2 ≤ (lastC a cs).2
  | a, [], _ => ⟨Rat.le_refl, Rat.le_refl⟩
  | a, b :: r, h => by
    obtain ⟨h1, h2⟩ := last_ge b r h.2.2
    have h3 := h.1
    have h4 := h.2.1
    rw [lastC_cons]
    constructor <;> grind
theorem interC_spec : ∀ (cs : List (Rat × Rat)) (a : Rat × Rat) (t : Rat), AscQ (a :: cs) → a.1 < t → t ≤ (lastC a cs).1 → ∃ v, interC (a :: cs) t = some v ∧ a.2 < v ∧ v ≤ (lastC a cs).2 ∧ interP (a :: cs) v = some t
  | [], a, t, _, h1, h2 => by
    have : t ≤ a.1 := h2
    grind
  | b :: r, a, t, h, h1, h2 => by
    have d1 := sub_pos' h.1
    have d2 := sub_pos' h.2.1
    rw [lastC_cons] at h2 ⊢
    unfold interC interP
    by_cases hb : b.1 < t
    · obtain ⟨v, e1, e2, e3, e4⟩ := interC_spec r b t h.2.2 hb h2
      have h3 := h.2.1
      refine ⟨v, by rw [if_pos hb]; exact e1, by grind, e3, by rw [if_pos e2]; exact e4⟩
    · have hl := (last_ge b r h.2.2).2
      have p0 := sub_pos' h1
      have p1 := lin_pos p0 d1 d2
      have p2 : (t - a.1) * ((b.2 - a.2) / (b.1 - a.1)) ≤ b.2 - a.2 := lin_le (by grind) d1 d2
      refine ⟨a.2 + (t - a.1) * ((b.2 - a.2) / (b.1 - a.1)), by rw [if_neg hb], by grind, by grind, ?_⟩
      rw [if_neg (by grind)]
      have e := lin_inv (x := t - a.1) (y := a.2 + (t - a.1) * ((b.2 - a.2) / (b.1 - a.1)) - a.2) (Rat.ne_of_gt d1) (Rat.ne_of_gt d2) (by grind)
      rw [e]
      congr 1
      grind
theorem interC_mono : ∀ (cs : List (Rat × Rat)) (a : Rat × Rat) (t u v w : Rat), AscQ (a :: cs) → a.1 < t → t < u → u ≤ (lastC a cs).1 → interC (a :: cs) t = some v → interC (a :: cs) u = some w → v < w
  | [], a, t, u, v, w, _, h1, h2, h3, _, _ => by
    have : u ≤ a.1 := h3
    grind
  | b :: r, a, t, u, v, w, h, h1, h2, h3, e1, e2 => by
    have d1 := sub_pos' h.1
    have d2 := sub_pos' h.2.1
    rw [lastC_cons] at h3
    unfold interC at e1 e2
    by_cases hb : b.1 < t
    · rw [if_pos hb] at e1
      rw [if_pos (by grind)] at e2
      exact interC_mono r b t u v w h.2.2 hb h2 h3 e1 e2
    · rw [if_neg hb] at e1
      have p2 : (t - a.1) * ((b.2 - a.2) / (b.1 - a.1)) ≤ b.2 - a.2 := lin_le (by grind) d1 d2
      by_cases hu : b.1 < u
      · rw [if_pos hu] at e2
        obtain ⟨w', q1, q2, q3, q4⟩ := interC_spec r b u h.2.2 hu h3
        rw [e2] at q1
        cases q1
        cases e1
        grind
      · rw [if_neg hu] at e2
        cases e1
        cases e2
        have := lin_lt (x := t - a.1) (y := u - a.1) (by grind) d1 d2
        grind
/-! the other way round by exchanging the two -/
def swp (c : Rat × Rat) : Rat × Rat := (c.2, c.1)
theorem swp_asc : ∀ {cs : List (Rat × Rat)}, AscQ cs → AscQ (cs.map swp)
  | [], _ => trivial
  | [_], _ => trivial
  | a :: b :: r, h => ⟨h.2.1, h.1, swp_asc (cs := b :: r) h.2.2⟩
theorem swp_C : ∀ (cs : List (Rat × Rat)) (t : Rat), interC (cs.map swp) t = interP cs t
  | [], _ => rfl
  | [_], _ => rfl
  | a :: b :: r, t => by
    show (if b.2 < t then interC ((b :: r).map swp) t else _) = _
    rw [swp_C (b :: r) t]
    rfl
theorem swp_P : ∀ (cs : List (Rat × Rat)) (t : Rat), interP (cs.map swp) t = interC cs t
  | [], _ => rfl
  | [_], _ => rfl
  | a :: b :: r, t => by
    show (if b.1 < t then interP ((b :: r).map swp) t else _) = _
    rw [swp_P (b :: r) t]
    rfl
theorem swp_last : ∀ (a : Rat × Rat) (cs : List (Rat × Rat)), lastC (swp a) (cs.map swp) = swp (lastC a cs)
  | a, [] => rfl
  | a, b :: r => by
    rw [List.map_cons, lastC_cons, lastC_cons]
    exact swp_last b r
theorem interP_spec (cs : List (Rat × Rat)) (a : Rat × Rat) (p : Rat) (h : AscQ (a :: cs)) (h1 : a.2 < p) (h2 : p ≤ (lastC a cs).2) : ∃ t, interP (a :: cs) p = some t ∧ a.1 < t ∧ t ≤ (lastC a cs).1 ∧ interC (a :: cs) t = some p := by
  obtain ⟨v, e1, e2, e3, e4⟩ := interC_spec (cs.map swp) (swp a) p (swp_asc h) h1 (by rw [swp_last]; exact h2)
  rw [swp_last] at e3
  rw [← List.map_cons, swp_C] at e1
  rw [← List.map_cons, swp_P] at e4
  exact ⟨v, e1, e2, e3, e4⟩
/-! the ends of a ray -/
def Lf (lo : Option Rat) (f : Rat × Rat) (t : Rat) : Rat := match lo with
  | none => f.2 - (f.1 - t)
  | some x => x + (f.2 - x) / (1 + (f.1 - t))
def Hf (hi : Option Rat) (l : Rat × Rat) (t : Rat) : Rat := match hi with
  | none => l.2 + (t - l.1)
  | some h => h - (h - l.2) / (1 + (t - l.1))
theorem div_le_self {a d : Rat} (h0 : 0 ≤ a) (h1 : 1 ≤ d) : a / d ≤ a := Rat.not_lt.mp fun z => by
  have h2 := (Rat.lt_div_iff (show 0 < d by grind)).mp z
  have h3 := Rat.mul_le_mul_of_nonneg_left h1 h0
  grind
theorem one_le_div {a b : Rat} (hb : 0 < b) (h : b ≤ a) : 1 ≤ a / b := Rat.not_lt.mp fun z => by
  have h2 := (Rat.div_lt_iff hb).mp z
  grind
theorem div_anti {a d e : Rat} (h0 : 0 < a) (h1 : 0 < d) (h2 : d < e) : a / e < a / d := by
  have he : 0 < e := by grind
  rw [Rat.div_lt_iff he]
  have h3 : a / d * d = a := Rat.div_mul_cancel (Rat.ne_of_gt h1)
  have h4 := (Rat.mul_lt_mul_left (div_pos h0 h1)).mpr h2
  rw [h3] at h4
  exact h4
theorem div_div_self {a b : Rat} (h0 : 0 < a) (h1 : 0 < b) : a / (a / b) = b := by
  have n1 := Rat.ne_of_gt h0
  have n2 := Rat.ne_of_gt h1
  grind
theorem Lf_le {lo : Option Rat} {f : Rat × Rat} {t : Rat} (hl : ∀ x, lo = some x → x < f.2) (h : t ≤ f.1) : Lf lo f t ≤ f.2 := by
  cases lo with
  | none => show f.2 - (f.1 - t) ≤ f.2; grind
  | some x =>
    show x + (f.2 - x) / (1 + (f.1 - t)) ≤ f.2
    have h1 := sub_pos' (hl x rfl)
    have := div_le_self (Rat.le_of_lt h1) (show 1 ≤ 1 + (f.1 - t) by grind)
    grind
theorem Lf_lo {lo : Option Rat} {f : Rat × Rat} {t x : Rat} (hl : ∀ x, lo = some x → x < f.2) (h : t ≤ f.1) (e : lo = some x) : x < Lf lo f t := by
  subst e
  show x < x + (f.2 - x) / (1 + (f.1 - t))
  have := div_pos (sub_pos' (hl x rfl)) (show 0 < 1 + (f.1 - t) by grind)
  grind
theorem Lf_mono {lo : Option Rat} {f : Rat × Rat} {t u : Rat} (hl : ∀ x, lo = some x → x < f.2) (h : t < u) (h2 : u ≤ f.1) : Lf lo f t < Lf lo f u := by
  cases lo with
  | none => show f.2 - (f.1 - t) < f.2 - (f.1 - u); grind
  | some x =>
    show x + (f.2 - x) / (1 + (f.1 - t)) < x + (f.2 - x) / (1 + (f.1 - u))
    have := div_anti (sub_pos' (hl x rfl)) (show 0 < 1 + (f.1 - u) by grind) (show 1 + (f.1 - u) < 1 + (f.1 - t) by grind)
    grind
theorem Hf_ge {hi : Option Rat} {l : Rat × Rat} {t : Rat} (hh : ∀ x, hi = some x → l.2 < x) (h : l.1 ≤ t) : l.2 ≤ Hf hi l t := by
  cases hi with
  | none => show l.2 ≤ l.2 + (t - l.1); grind
  | some x =>
    show l.2 ≤ x - (x - l.2) / (1 + (t - l.1))
    have h1 := sub_pos' (hh x rfl)
    have := div_le_self (Rat.le_of_lt h1) (show 1 ≤ 1 + (t - l.1) by grind)
    grind
theorem Hf_hi {hi : Option Rat} {l : Rat × Rat} {t x : Rat} (hh : ∀ x, hi = some x → l.2 < x) (h : l.1 ≤ t) (e : hi = some x) : Hf hi l t < x := by
  subst e
  show x - (x - l.2) / (1 + (t - l.1)) < x
  have := div_pos (sub_pos' (hh x rfl)) (show 0 < 1 + (t - l.1) by grind)
  grind
theorem Hf_mono {hi : Option Rat} {l : Rat × Rat} {t u : Rat} (hh : ∀ x, hi = some x → l.2 < x) (h : l.1 ≤ t) (h2 : t < u) : Hf hi l t < Hf hi l u := by
  cases hi with
  | none => show l.2 + (t - l.1) < l.2 + (u - l.1); grind
  | some x =>
    show x - (x - l.2) / (1 + (t - l.1)) < x - (x - l.2) / (1 + (u - l.1))
    have := div_anti (sub_pos' (hh x rfl)) (show 0 < 1 + (t - l.1) by grind) (show 1 + (t - l.1) < 1 + (u - l.1) by grind)
    grind
theorem one_lt_div {a b : Rat} (hb : 0 < b) (h : b < a) : 1 < a / b := (Rat.lt_div_iff hb).mpr (by grind)
theorem onB_of {r : Ray} {p : Rat} (k1 : ∀ x, r.low = some x → x < p) (k2 : ∀ x, r.high = some x → p < x) : onB r p = true := by
  obtain ⟨lo, hi, w, cs⟩ := r
  unfold onB
  have e1 : ∀ x, lo = some x → decide (x < p) = true := fun x e => decide_eq_true (k1 x e)
  have e2 : ∀ x, hi = some x → decide (p < x) = true := fun x e => decide_eq_true (k2 x e)
  cases lo with
  | none =>
    cases hi with
    | none => rfl
    | some y => show (true && decide (p < y)) = true; rw [e2 y rfl]; rfl
  | some x =>
    cases hi with
    | none => show (decide (x < p) && true) = true; rw [e1 x rfl]; rfl
    | some y => show (decide (x < p) && decide (p < y)) = true; rw [e1 x rfl, e2 y rfl]; rfl
/-! a ray by its pieces -/
structure RayC (r : Ray) (a : Rat × Rat) (cs : List (Rat × Rat)) : Prop where
  eq : r.cs = a :: cs
  f : fstC r = a
  l : lstC r = lastC a cs
  asc : AscQ (a :: cs)
  lo : ∀ x, r.low = some x → x < a.2
  hi : ∀ x, r.high = some x → (lastC a cs).2 < x
theorem last_eq : ∀ (a : Rat × Rat) (cs : List (Rat × Rat)), (a :: cs).getLast? = some (lastC a cs)
  | a, [] => rfl
  | a, b :: r => by rw [List.getLast?_cons_cons]; exact last_eq b r
theorem RayOK.c {r : Ray} (o : RayOK r) : ∃ a cs, RayC r a cs := by
  cases e : r.cs with
  | nil => exact absurd e o.ne
  | cons a cs =>
    have e1 : fstC r = a := by unfold fstC; rw [e]; rfl
    have e2 : lstC r = lastC a cs := by unfold lstC; rw [e, last_eq]; rfl
    exact ⟨a, cs, e, e1, e2, by rw [← e]; exact o.asc, fun x h => by rw [← e1]; exact o.lo x h, fun x h => by rw [← e2]; exact o.hi x h⟩
theorem strict_of : ∀ (a : Rat × Rat) (cs : List (Rat × Rat)), AscQ (a :: cs) → (a.1 < (lastC a cs).1 ↔ a.2 < (lastC a cs).2)
  | a, [], _ => ⟨fun h => absurd h Rat.lt_irrefl, fun h => absurd h Rat.lt_irrefl⟩
  | a, b :: r, h => by
    obtain ⟨h1, h2⟩ := last_ge b r h.2.2
    have h3 := h.1
    have h4 := h.2.1
    rw [lastC_cons]
    constructor <;> intro _ <;> grind
section
variable {r : Ray} {a : Rat × Rat} {cs : List (Rat × Rat)} (o : RayC r a cs)
include o
theorem RayC.place (t : Rat) : placeAt r t = if t < (lastC a cs).1 then (if a.1 < t then (interC (a :: cs) t).getD (lastC a cs).2 else Lf r.low a t) else Hf r.high (lastC a cs) t := by
  unfold placeAt
  rw [o.f, o.l, o.eq]
  try rfl
theorem RayC.clock (p : Rat) : clockAt r p = if p < (lastC a cs).2 then (if a.2 < p then (interP (a :: cs) p).getD (lastC a cs).1 else match r.low with
      | none => a.1 - (a.2 - p)
      | some lo => (a.1 + 1) - (a.2 - lo) / (p - lo)) else match r.high with
    | none => (lastC a cs).1 + (p - (lastC a cs).2)
    | some h => ((lastC a cs).1 - 1) + (h - (lastC a cs).2) / (h - p) := by
  unfold clockAt
  rw [o.f, o.l, o.eq]
  try (generalize r.low = lo; generalize r.high = hi; cases lo <;> cases hi <;> rfl)
theorem RayC.mid {t : Rat} (h1 : a.1 < t) (h2 : t < (lastC a cs).1) : ∃ v, interC (a :: cs) t = some v ∧ a.2 < v ∧ v < (lastC a cs).2 ∧ interP (a :: cs) v = some t := by
  obtain ⟨v, e1, e2, e3, e4⟩ := interC_spec cs a t o.asc h1 (Rat.le_of_lt h2)
  obtain ⟨w, q1, q2, q3, q4⟩ := interC_spec cs a (lastC a cs).1 o.asc (by grind) Rat.le_refl
  have := interC_mono cs a t (lastC a cs).1 v w o.asc h1 h2 Rat.le_refl e1 q1
  exact ⟨v, e1, e2, by grind, e4⟩
theorem RayC.mono {t u : Rat} (h : t < u) : placeAt r t < placeAt r u := by
  rw [o.place, o.place]
  have hl := last_ge a cs o.asc
  by_cases h1 : t < (lastC a cs).1
  · rw [if_pos h1]
    by_cases h2 : a.1 < t
    · rw [if_pos h2]
      obtain ⟨v, e1, e2, e3, e4⟩ := o.mid h2 h1
      rw [e1]
      show v < _
      by_cases h3 : u < (lastC a cs).1
      · rw [if_pos h3, if_pos (by grind)]
        obtain ⟨w, q1, q2, q3, q4⟩ := o.mid (t := u) (by grind) h3
        rw [q1]
        exact interC_mono cs a t u v w o.asc h2 h (by grind) e1 q1
      · rw [if_neg h3]
        have := Hf_ge o.hi (t := u) (by grind)
        grind
    · rw [if_neg h2]
      have p1 := Lf_le o.lo (t := t) (by grind)
      by_cases h3 : u < (lastC a cs).1
      · rw [if_pos h3]
        by_cases h4 : a.1 < u
        · rw [if_pos h4]
          obtain ⟨w, q1, q2, q3, q4⟩ := o.mid h4 h3
          rw [q1]
          show _ < w
          grind
        · rw [if_neg h4]
          exact Lf_mono o.lo h (by grind)
      · rw [if_neg h3]
        have p2 := Hf_ge o.hi (t := u) (by grind)
        by_cases h5 : a.1 < (lastC a cs).1
        · have := (strict_of a cs o.asc).mp h5
          grind
        · have p3 := Lf_mono o.lo (t := t) (u := a.1) (by grind) (by grind)
          have p4 := Lf_le o.lo (t := a.1) Rat.le_refl
          grind
  · rw [if_neg h1, if_neg (by grind)]
    exact Hf_mono o.hi (by grind) h
theorem RayC.inside (t : Rat) : onB r (placeAt r t) = true := by
  have hl := last_ge a cs o.asc
  have key : (∀ x, r.low = some x → x < placeAt r t) ∧ (∀ x, r.high = some x → placeAt r t < x) := by
    rw [o.place]
    by_cases h1 : t < (lastC a cs).1
    · rw [if_pos h1]
      by_cases h2 : a.1 < t
      · rw [if_pos h2]
        obtain ⟨v, e1, e2, e3, e4⟩ := o.mid h2 h1
        rw [e1]
        exact ⟨fun x e => (by have := o.lo x e; show x < v; grind), fun x e => (by have := o.hi x e; show v < x; grind)⟩
      · rw [if_neg h2]
        have p1 := Lf_le o.lo (t := t) (by grind)
        exact ⟨fun x e => Lf_lo o.lo (by grind) e, fun x e => (by have := o.hi x e; grind)⟩
    · rw [if_neg h1]
      have p2 := Hf_ge o.hi (t := t) (by grind)
      exact ⟨fun x e => (by have := o.lo x e; grind), fun x e => Hf_hi o.hi (by grind) e⟩
  exact onB_of key.1 key.2
theorem RayC.back {p : Rat} (on : onB r p = true) : placeAt r (clockAt r p) = p := by
  have hl := last_ge a cs o.asc
  have st := strict_of a cs o.asc
  rw [o.clock]
  by_cases h1 : p < (lastC a cs).2
  · rw [if_pos h1]
    by_cases h2 : a.2 < p
    · rw [if_pos h2]
      obtain ⟨t, e1, e2, e3, e4⟩ := interP_spec cs a p o.asc h2 (Rat.le_of_lt h1)
      rw [e1]
      show placeAt r t = p
      rw [o.place]
      by_cases h3 : t < (lastC a cs).1
      · rw [if_pos h3, if_pos e2, e4]
        rfl
      · have e5 : t = (lastC a cs).1 := by grind
        obtain ⟨w, q1, q2, q3, q4⟩ := interC_spec cs a (lastC a cs).1 o.asc (by grind) Rat.le_refl
        obtain ⟨t2, e1', e2', e3', e4'⟩ := interP_spec cs a (lastC a cs).2 o.asc (by grind) Rat.le_refl
        rw [← e5, e4] at q1
        cases q1
        have h6 : t2 < t ∨ t2 = t := by grind
        rcases h6 with h6 | h6
        · have := interC_mono cs a t2 t (lastC a cs).2 p o.asc e2' h6 e3 e4' e4
          grind
        · rw [h6, e4] at e4'
          have := Option.some.inj e4'
          grind
    · rw [if_neg h2]
      have hk : p < a.2 ∨ (p = a.2 ∧ a.1 < (lastC a cs).1) := by
        by_cases hp : p < a.2
        · exact .inl hp
        · have e9 : p = a.2 := by grind
          exact .inr ⟨e9, st.mpr (by rw [← e9]; exact h1)⟩
      cases e : r.low with
      | none =>
        show placeAt r (a.1 - (a.2 - p)) = p
        have ht : a.1 - (a.2 - p) < (lastC a cs).1 := by rcases hk with hk | ⟨hk, hk2⟩ <;> grind
        rw [o.place, if_pos ht, if_neg (by grind), e]
        show a.2 - (a.1 - (a.1 - (a.2 - p))) = p
        grind
      | some lo =>
        show placeAt r ((a.1 + 1) - (a.2 - lo) / (p - lo)) = p
        have l1 := onB_lo on e
        have l2 := o.lo lo e
        have g0 : 0 < p - lo := sub_pos' l1
        have g1 := one_le_div (a := a.2 - lo) (b := p - lo) g0 (by grind)
        have ht : (a.1 + 1) - (a.2 - lo) / (p - lo) < (lastC a cs).1 := by
          rcases hk with hk | ⟨hk, hk2⟩
          · have := one_lt_div (a := a.2 - lo) (b := p - lo) g0 (by grind)
            grind
          · grind
        rw [o.place, if_pos ht, if_neg (by grind), e]
        show lo + (a.2 - lo) / (1 + (a.1 - ((a.1 + 1) - (a.2 - lo) / (p - lo)))) = p
        have g2 : 1 + (a.1 - ((a.1 + 1) - (a.2 - lo) / (p - lo))) = (a.2 - lo) / (p - lo) := by grind
        rw [g2, div_div_self (sub_pos' l2) g0]
        grind
  · rw [if_neg h1]
    cases e : r.high with
    | none =>
      show placeAt r ((lastC a cs).1 + (p - (lastC a cs).2)) = p
      rw [o.place, if_neg (by grind), e]
      show (lastC a cs).2 + ((lastC a cs).1 + (p - (lastC a cs).2) - (lastC a cs).1) = p
      grind
    | some h =>
      show placeAt r (((lastC a cs).1 - 1) + (h - (lastC a cs).2) / (h - p)) = p
      have l1 := onB_hi on e
      have l2 := o.hi h e
      have g1 := one_le_div (a := h - (lastC a cs).2) (b := h - p) (by grind) (by grind)
      rw [o.place, if_neg (by grind), e]
      show h - (h - (lastC a cs).2) / (1 + ((((lastC a cs).1 - 1) + (h - (lastC a cs).2) / (h - p)) - (lastC a cs).1)) = p
      have g2 : 1 + ((((lastC a cs).1 - 1) + (h - (lastC a cs).2) / (h - p)) - (lastC a cs).1) = (h - (lastC a cs).2) / (h - p) := by grind
      rw [g2, div_div_self (by grind) (by grind)]
      grind
theorem RayC.inj {t u : Rat} (h : placeAt r t = placeAt r u) : t = u := by
  have h3 : t < u ∨ t = u ∨ u < t := by grind
  rcases h3 with h1 | h1 | h1
  · have := o.mono h1
    rw [h] at this
    exact absurd this Rat.lt_irrefl
  · exact h1
  · have := o.mono h1
    rw [h] at this
    exact absurd this Rat.lt_irrefl
theorem RayC.forth (t : Rat) : clockAt r (placeAt r t) = t := o.inj (o.back (o.inside t))
theorem RayC.cmono {p q : Rat} (h1 : onB r p = true) (h2 : onB r q = true) (h : p < q) : clockAt r p < clockAt r q := by
  have h3 : clockAt r p < clockAt r q ∨ clockAt r p = clockAt r q ∨ clockAt r q < clockAt r p := by grind
  rcases h3 with h3 | h3 | h3
  · exact h3
  · have e1 := o.back h1
    rw [h3, o.back h2] at e1
    grind
  · have := o.mono h3
    rw [o.back h1, o.back h2] at this
    grind
end
/-! rays one above the other -/
theorem RayC.gap {r : Ray} {a : Rat × Rat} {cs : List (Rat × Rat)} (o : RayC r a cs) {l h : Rat} (e1 : r.low = some l) (e2 : r.high = some h) : l < h := by
  have h1 := o.lo l e1
  have h2 := o.hi h e2
  have h3 := (last_ge a cs o.asc).2
  grind
theorem abv_get {r b : Ray} (h : abvB r b = true) : ∃ x y, b.high = some x ∧ r.low = some y ∧ x ≤ y := by
  unfold abvB at h
  cases e1 : b.high with
  | none => rw [e1] at h; cases h
  | some x =>
    cases e2 : r.low with
    | none => rw [e1, e2] at h; cases h
    | some y =>
      rw [e1, e2] at h
      exact ⟨x, y, rfl, rfl, Rat.not_lt.mp (by simpa using h)⟩
theorem chain_all : ∀ {rs : List Ray} {r : Ray}, (∀ x ∈ r :: rs, RayOK x) → ChainR (r :: rs) → ∀ r2 ∈ rs, ∃ h l, r.high = some h ∧ r2.low = some l ∧ h ≤ l
  | [], _, _, _, r2, h => nomatch h
  | b :: rs, r, ok, ch, r2, hm => by
    obtain ⟨x, y, e1, e2, e3⟩ := abv_get ch.1
    rcases List.mem_cons.mp hm with rfl | hm
    · exact ⟨x, y, e1, e2, e3⟩
    · obtain ⟨h, l, q1, q2, q3⟩ := chain_all (r := b) (rs := rs) (fun z hz => ok z (List.mem_cons_of_mem _ hz)) ch.2 r2 hm
      obtain ⟨a, cs, o⟩ := (ok b (by simp)).c
      have := o.gap e2 q1
      exact ⟨x, l, e1, q2, by grind⟩
structure Fine (rs : List Ray) : Prop where
  ok : ∀ x ∈ rs, RayOK x
  ch : ChainR rs
theorem ChainR.tail : ∀ {rs : List Ray} {r : Ray}, ChainR (r :: rs) → ChainR rs
  | [], _, _ => trivial
  | _ :: _, _, h => h.2
theorem Fine.tail {r : Ray} {rs : List Ray} (h : Fine (r :: rs)) : Fine rs := ⟨fun x hx => h.ok x (List.mem_cons_of_mem _ hx), h.ch.tail⟩
theorem Fine.hd {r : Ray} {rs : List Ray} (h : Fine (r :: rs)) : RayOK r := h.ok r (by simp)
theorem Fine.gap {r : Ray} {rs : List Ray} (h : Fine (r :: rs)) : ∀ r2 ∈ rs, ∃ x y, r.high = some x ∧ r2.low = some y ∧ x ≤ y := chain_all h.ok h.ch
theorem powQ_cons {r : Ray} {rs : List Ray} (h : Fine (r :: rs)) (x : Rat) (n : Int) : powQ (r :: rs) x n = if onB r x = true then placeAt r (clockAt r x + ((r.way * n : Int) : Rat)) else powQ rs x n := by
  rw [powQ]
  split
  · rename_i on
    split
    · rename_i hn
      subst hn
      obtain ⟨a, cs, o⟩ := h.hd.c
      rw [Int.mul_zero]
      have : clockAt r x + ((0 : Int) : Rat) = clockAt r x := by
        rw [Rat.intCast_zero]
        exact Rat.add_zero _
      rw [this, o.back on]
    · rfl
  · rfl
theorem powQ_in : ∀ {rs : List Ray} (h : Fine rs) (x : Rat) (n : Int), powQ rs x n = x ∨ ∃ r ∈ rs, onB r (powQ rs x n) = true
  | [], _, _, _ => .inl rfl
  | r :: rs, h, x, n => by
    rw [powQ_cons h]
    split
    · obtain ⟨a, cs, o⟩ := h.hd.c
      exact .inr ⟨r, by simp, o.inside _⟩
    · rcases powQ_in h.tail x n with e | ⟨r2, m2, e⟩
      · exact .inl e
      · exact .inr ⟨r2, List.mem_cons_of_mem _ m2, e⟩
theorem off_of {r : Ray} {rs : List Ray} (h : Fine (r :: rs)) {r2 : Ray} (m : r2 ∈ rs) {y : Rat} (on : onB r2 y = true) : ¬ onB r y = true := fun z => by
  obtain ⟨u, v, e1, e2, e3⟩ := h.gap r2 m
  have h1 := onB_lo on e2
  have h2 := onB_hi z e1
  grind
theorem powQ_off {r : Ray} {rs : List Ray} (h : Fine (r :: rs)) {x : Rat} (off : ¬ onB r x = true) (n : Int) : ¬ onB r (powQ rs x n) = true := by
  rcases powQ_in h.tail x n with e | ⟨r2, m2, e⟩
  · rw [e]
    exact off
  · exact off_of h m2 e
theorem powQ_add : ∀ {rs : List Ray} (h : Fine rs) (x : Rat) (m n : Int), powQ rs (powQ rs x m) n = powQ rs x (m + n)
  | [], _, _, _, _ => rfl
  | r :: rs, h, x, m, n => by
    by_cases on : onB r x = true
    · obtain ⟨a, cs, o⟩ := h.hd.c
      rw [powQ_cons h x m, if_pos on, powQ_cons h x (m + n), if_pos on, powQ_cons h _ n, if_pos (o.inside _), o.forth]
      congr 1
      rw [Int.mul_add, Rat.intCast_add]
      grind
    · rw [powQ_cons h x m, if_neg on, powQ_cons h x (m + n), if_neg on, powQ_cons h _ n, if_neg (powQ_off h on m)]
      exact powQ_add h.tail x m n
theorem off_hi {r : Ray} {x y : Rat} (on : onB r x = true) (h : x < y) (off : ¬ onB r y = true) : ∃ u, r.high = some u ∧ u ≤ y := by
  cases e : r.high with
  | none => exact absurd (onB_of (fun v ev => (by have := onB_lo on ev; grind)) (fun v ev => (by rw [e] at ev; cases ev))) off
  | some u =>
    refine ⟨u, rfl, Rat.not_lt.mp fun z => off (onB_of (fun v ev => (by have := onB_lo on ev; grind)) fun v ev => ?_)⟩
    rw [e] at ev
    cases ev
    exact z
theorem off_lo {r : Ray} {x y : Rat} (on : onB r y = true) (h : x < y) (off : ¬ onB r x = true) : ∃ u, r.low = some u ∧ x ≤ u := by
  cases e : r.low with
  | none => exact absurd (onB_of (fun v ev => (by rw [e] at ev; cases ev)) (fun v ev => (by have := onB_hi on ev; grind))) off
  | some u =>
    refine ⟨u, rfl, Rat.not_lt.mp fun z => off (onB_of (fun v ev => ?_) fun v ev => (by have := onB_hi on ev; grind))⟩
    rw [e] at ev
    cases ev
    exact z
theorem powQ_ge {r : Ray} {rs : List Ray} (h : Fine (r :: rs)) {u y : Rat} (e : r.high = some u) (hy : u ≤ y) (n : Int) : u ≤ powQ rs y n := by
  rcases powQ_in h.tail y n with q | ⟨r2, m2, q⟩
  · rw [q]
    exact hy
  · obtain ⟨a, b, e1, e2, e3⟩ := h.gap r2 m2
    rw [e] at e1
    cases e1
    have := onB_lo q e2
    grind
theorem powQ_id : ∀ {rs : List Ray} {x : Rat} (n : Int), (∀ r ∈ rs, ¬ onB r x = true) → powQ rs x n = x
  | [], _, _, _ => rfl
  | r :: rs, x, n, h => by
    rw [powQ, if_neg (h r (by simp))]
    exact powQ_id n fun r hr => h r (List.mem_cons_of_mem _ hr)
theorem powQ_mono : ∀ {rs : List Ray} (h : Fine rs) {x y : Rat} (n : Int), x < y → powQ rs x n < powQ rs y n
  | [], _, _, _, _, h => h
  | r :: rs, h, x, y, n, hxy => by
    obtain ⟨a, cs, o⟩ := h.hd.c
    rw [powQ_cons h, powQ_cons h]
    by_cases hx : onB r x = true
    · rw [if_pos hx]
      by_cases hy : onB r y = true
      · rw [if_pos hy]
        have := o.cmono hx hy hxy
        exact o.mono (by grind)
      · rw [if_neg hy]
        obtain ⟨u, e1, e2⟩ := off_hi hx hxy hy
        have h1 := onB_hi (o.inside (clockAt r x + ((r.way * n : Int) : Rat))) e1
        have h2 := powQ_ge h e1 e2 n
        grind
    · rw [if_neg hx]
      by_cases hy : onB r y = true
      · rw [if_pos hy]
        obtain ⟨u, e1, e2⟩ := off_lo hy hxy hx
        have e3 : powQ rs x n = x := powQ_id n fun r2 m2 on => by
          obtain ⟨v, w, q1, q2, q3⟩ := h.gap r2 m2
          have h1 := onB_lo on q2
          have h2 := o.gap e1 q1
          grind
        rw [e3]
        have h1 := onB_lo (o.inside (clockAt r y + ((r.way * n : Int) : Rat))) e1
        grind
      · rw [if_neg hy]
        exact powQ_mono h.tail n hxy
theorem sgQ_eq {a b : Rat} (h : a = b) : sgQ a b = 0 := by
  unfold sgQ
  rw [if_neg (by rw [h]; exact Rat.lt_irrefl), if_neg (by rw [h]; exact Rat.lt_irrefl)]
  rfl
theorem sgQ_gt {a b : Rat} (h : b < a) : sgQ a b = 1 := by
  unfold sgQ
  rw [if_pos h, if_neg (Rt.lt_asymm h)]
  rfl
theorem powQ_sg {rs : List Ray} (h : Fine rs) (x y : Rat) (n : Int) : sgQ (powQ rs x n) (powQ rs y n) = sgQ x y := by
  have h3 : x < y ∨ x = y ∨ y < x := by grind
  rcases h3 with h1 | h1 | h1
  · rw [sgQ_lt h1, sgQ_lt (powQ_mono h n h1)]
  · rw [h1, sgQ_eq rfl, sgQ_eq rfl]
  · rw [sgQ_gt h1, sgQ_gt (powQ_mono h n h1)]
def sgI (n : Int) : Int := (if 0 < n then 1 else 0) - (if n < 0 then 1 else 0)
theorem sg_way {w n : Int} (hw : w = 1 ∨ w = -1) : sgQ ((w * n : Int) : Rat) 0 = w * sgI n := by
  have h3 : n < 0 ∨ n = 0 ∨ 0 < n := by omega
  have z : (((0 : Int)) : Rat) = 0 := rfl
  rcases hw with rfl | rfl <;> rcases h3 with h | h | h
  · rw [Int.one_mul, Int.one_mul, sgQ_lt (by rw [← z]; exact Rat.intCast_lt_intCast.mpr h)]
    unfold sgI
    rw [if_neg (by omega), if_pos h]
    rfl
  · subst h
    rfl
  · rw [Int.one_mul, Int.one_mul, sgQ_gt (by rw [← z]; exact Rat.intCast_lt_intCast.mpr h)]
    unfold sgI
    rw [if_pos h, if_neg (by omega)]
    rfl
  · rw [sgQ_gt (by rw [← z]; exact Rat.intCast_lt_intCast.mpr (by omega))]
    unfold sgI
    rw [if_neg (by omega), if_pos h]
    rfl
  · subst h
    rfl
  · rw [sgQ_lt (by rw [← z]; exact Rat.intCast_lt_intCast.mpr (by omega))]
    unfold sgI
    rw [if_pos h, if_neg (by omega)]
    rfl
theorem powQ_way : ∀ {rs : List Ray} (h : Fine rs) (x : Rat), ∃ w : Int, (w = 1 ∨ w = -1 ∨ w = 0) ∧ (∀ n, sgQ (powQ rs x n) x = w * sgI n) ∧ (∀ r, rs = [r] → onB r x = true → w = r.way)
  | [], _, x => ⟨0, .inr (.inr rfl), fun n => (by rw [Int.zero_mul]; exact sgQ_eq rfl), fun r e => (nomatch e)⟩
  | r :: rs, h, x => by
    by_cases on : onB r x = true
    · obtain ⟨a, cs, o⟩ := h.hd.c
      refine ⟨r.way, by rcases h.hd.way with e | e <;> simp [e], fun n => ?_, fun r2 e _ => by cases e; rfl⟩
      rw [powQ_cons h, if_pos on, ← sg_way h.hd.way]
      have e1 := o.back on
      have h3 : ((r.way * n : Int) : Rat) < 0 ∨ ((r.way * n : Int) : Rat) = 0 ∨ 0 < ((r.way * n : Int) : Rat) := by grind
      rcases h3 with h1 | h1 | h1
      · have h2 := o.mono (t := clockAt r x + ((r.way * n : Int) : Rat)) (u := clockAt r x) (by grind)
        rw [e1] at h2
        rw [sgQ_lt h1, sgQ_lt h2]
      · rw [h1, Rat.add_zero, e1, sgQ_eq rfl, sgQ_eq rfl]
      · have h2 := o.mono (t := clockAt r x) (u := clockAt r x + ((r.way * n : Int) : Rat)) (by grind)
        rw [e1] at h2
        rw [sgQ_gt h1, sgQ_gt h2]
    · obtain ⟨w, h1, h2, h3⟩ := powQ_way h.tail x
      refine ⟨w, h1, fun n => ?_, fun r2 e q => by cases e; exact absurd q on⟩
      rw [powQ_cons h, if_neg on]
      exact h2 n
end RS

set_option maxRecDepth 100000
set_option maxHeartbeats 4000000
namespace RS
open PySem PySem.Spec PyProof.Rows L2 NdefX He PySem.W
variable [Tbls]
/-! ### corners that are being told -/
theorem q_pos {a b : Int} (ha : 0 < a) (hb : 0 < b) : 0 < Rat.divInt a b := by
  rw [Rat.divInt_eq_div, Rat.div_def]
  exact Rat.mul_pos (Rat.intCast_pos.mpr ha) (Rat.inv_pos.mpr (Rat.intCast_pos.mpr hb))
theorem AscQ.snoc : ∀ {ds : List (Rat × Rat)} {a : Rat × Rat}, AscQ ds → (∀ l, ds.getLast? = some l → l.1 < a.1 ∧ l.2 < a.2) → AscQ (ds ++ [a])
  | [], _, _, _ => trivial
  | [b], a, _, h => ⟨(h b rfl).1, (h b rfl).2, trivial⟩
  | b :: c :: r, a, q, h => ⟨q.1, q.2.1, AscQ.snoc (ds := c :: r) q.2.2 fun l e => h l (by rw [List.getLast?_cons_cons]; exact e)⟩
structure CornS (x : Rat) (k : Nat) (ds : List (Rat × Rat)) (c y : Rat) : Prop where
  asc : AscQ ds
  hd : ∀ a, ds.head? = some a → x < a.2
  lst : ∀ a, ds.getLast? = some a → a = (c, y)
  emp : ds = [] → y = x
  sz : ∀ a ∈ ds, Sz 40 a.1 ∧ Sz (k + 18) a.2
theorem CornS.start (x c : Rat) (k : Nat) : CornS x k [] c x := ⟨trivial, fun _ e => (nomatch e), fun _ e => (nomatch e), fun _ => rfl, fun _ e => (nomatch e)⟩
theorem CornS.snoc {x : Rat} {k : Nat} {ds : List (Rat × Rat)} {c y c' y' : Rat} (h : CornS x k ds c y) (hc : c < c') (hy : y < y') (s1 : Sz 40 c') (s2 : Sz (k + 18) y') : CornS x k (ds ++ [(c', y')]) c' y' := by
  refine ⟨h.asc.snoc fun l e => ?_, fun a e => ?_, fun a e => ?_, fun e => by simp at e, fun a e => ?_⟩
  · rw [h.lst l e]
    exact ⟨hc, hy⟩
  · cases ds with
    | nil =>
      cases e
      rw [← h.emp rfl]
      exact hy
    | cons d ds =>
      cases e
      exact h.hd _ rfl
  · rw [List.getLast?_concat] at e
    cases e
    rfl
  · rcases List.mem_append.mp e with e | e
    · exact h.sz a e
    · rw [List.mem_singleton.mp e]
      exact ⟨s1, s2⟩
/-- a pair of integers that tells a number -/
def QP (d : D) (y : Rat) (l : Nat) : Prop := ∃ u v : Int, d = .tup [.int u, .int v] ∧ v ≠ 0 ∧ Bd l u ∧ Bd l v ∧ y = Rat.divInt u v
theorem QP.of {y : Rat} {l : Nat} (h : Sz l y) : QP (qN y) y l := ⟨y.num, y.den, rfl, den_ne y, h.1, h.2, (Rat.num_divInt_den y).symm⟩
theorem bd_log {k : Nat} {i : Int} (h : Bd k i) (hk : k ≤ 8000) : i.natAbs.log2 < 9000 := h.log hk
theorem RayOK.told {lo hi : Option Rat} {w : Int} {cs : List (Rat × Rat)} {y y2 : Rat} (hw : w = 1 ∨ w = -1) (ne : cs ≠ []) (few : cs.length ≤ 100) (asc : AscQ cs) (hd : ∀ c, cs.head? = some c → y < c.2) (lst : ∀ c, cs.getLast? = some c → c.2 < y2)
    (hlo : ∀ x, lo = some x → x = y) (hhi : ∀ x, hi = some x → x = y2) (sz : ∀ c ∈ cs, Sz 110 c.1 ∧ Sz 110 c.2) (sy : Sz 110 y) (sy2 : Sz 110 y2) : RayOK ⟨lo, hi, w, cs⟩ := by
  have e1 : cs.head? = some (fstC ⟨lo, hi, w, cs⟩) := by
    unfold fstC
    cases cs with
    | nil => exact absurd rfl ne
    | cons a b => rfl
  have e2 : cs.getLast? = some (lstC ⟨lo, hi, w, cs⟩) := by
    unfold lstC
    rw [List.getLast?_eq_some_getLast ne]
    rfl
  refine ⟨hw, ne, few, asc, fun x e => ?_, fun x e => ?_, sz, fun x e => ?_, fun x e => ?_⟩
  · rw [hlo x e]
    exact hd _ e1
  · rw [hhi x e]
    exact lst _ e2
  · rw [hlo x e]
    exact sy
  · rw [hhi x e]
    exact sy2
theorem ChainR.snoc : ∀ {rs : List Ray} {r : Ray}, ChainR rs → (∀ b, rs.getLast? = some b → abvB r b = true) → ChainR (rs ++ [r])
  | [], _, _, _ => trivial
  | [b], r, _, h => ⟨h b rfl, trivial⟩
  | a :: b :: rs, r, q, h => ⟨q.1, ChainR.snoc (rs := b :: rs) q.2 fun l e => h l (by rw [List.getLast?_cons_cons]; exact e)⟩
theorem abv_of {r b : Ray} {y h : Rat} (e1 : b.high = some h) (e2 : r.low = some y) (hy : h ≤ y) : abvB r b = true := by
  unfold abvB
  rw [e1, e2]
  show (!decide (y < h)) = true
  rw [decide_eq_false (Rat.not_lt.mpr hy)]
  rfl
theorem le_addn {a b : Rat} (h : 0 ≤ b) : a ≤ a + b := by grind
theorem sz_zero : Sz 110 (0 : Rat) := ⟨by show (0 : Int).natAbs < _; decide, by show (1 : Int).natAbs < _; decide⟩
theorem PD_int (n : Nat) (i : Int) : PD n (.int i) := by cases n <;> trivial
theorem PD_non (n : Nat) : PD n .non := by cases n <;> trivial
theorem PD_qN {n : Nat} (h : 1 ≤ n) (r : Rat) : PD n (qN r) := by
  obtain ⟨n, rfl⟩ : ∃ k, n = k + 1 := ⟨n - 1, by omega⟩
  intro x hx
  rcases List.mem_cons.mp hx with rfl | hx
  · exact PD_int _ _
  · rw [List.mem_singleton.mp hx]
    exact PD_int _ _
theorem PD_oN {n : Nat} (h : 1 ≤ n) (o : Option Rat) : PD n (oN o) := by
  cases o with
  | none => exact PD_non _
  | some r => exact PD_qN h r
theorem PD_cD {n : Nat} (h : 2 ≤ n) (c : Rat × Rat) : PD n (cD c) := by
  obtain ⟨n, rfl⟩ : ∃ k, n = k + 1 := ⟨n - 1, by omega⟩
  intro x hx
  rcases List.mem_cons.mp hx with rfl | hx
  · exact PD_qN (by omega) _
  · rw [List.mem_singleton.mp hx]
    exact PD_qN (by omega) _
theorem PD_rayG {n : Nat} (h : 4 ≤ n) (r : Ray) : PD n (rayG r) := by
  obtain ⟨n, rfl⟩ : ∃ k, n = k + 2 := ⟨n - 2, by omega⟩
  intro x hx
  simp only [List.mem_cons, List.not_mem_nil, or_false] at hx
  rcases hx with rfl | rfl | rfl | rfl
  · exact PD_oN (by omega) _
  · exact PD_oN (by omega) _
  · exact PD_int _ _
  · intro y hy
    obtain ⟨c, _, rfl⟩ := List.mem_map.mp hy
    exact PD_cD (by omega) c
theorem PD_rays (rs : List Ray) : ∀ x ∈ rs.map rayG, PD 63 x := fun x hx => by
  obtain ⟨r, _, rfl⟩ := List.mem_map.mp hx
  exact PD_rayG (by decide) r
theorem dEqB_lnil (xs : List D) : dEqB (.lst xs) (.lst []) = xs.isEmpty := by
  show PyData.eqv (.list (D.pys xs)) (.list []) = _
  cases xs <;> rfl
theorem in_strs (x : Str) (xs : List Str) : inB (.str x) (xs.map .str) = decide (x ∈ xs) := inB_d x xs
theorem knd_rise {rs : List Ray} {x : Rat} {w : Int} (hw : ∀ r, rs = [r] → onB r x = true → w = r.way) (h : ("rising" : Str) ∈ kndQ rs) : w = 1 := by
  unfold kndQ at h
  split at h
  · rename_i w' cs
    split at h
    · rename_i e
      rw [hw _ rfl rfl]
      exact e
    · simp at h
      exact absurd h.symm (by decide +kernel)
  · simp at h
    exact absurd h.symm (by decide +kernel)
theorem knd_fall {rs : List Ray} {x : Rat} {w : Int} (ok : ∀ r ∈ rs, RayOK r) (hw : ∀ r, rs = [r] → onB r x = true → w = r.way) (h : ("falling" : Str) ∈ kndQ rs) : w = -1 := by
  unfold kndQ at h
  split at h
  · rename_i w' cs
    split at h
    · rename_i e
      simp at h
      exact absurd h (by decide +kernel)
    · rename_i e
      rw [hw _ rfl rfl]
      exact (ok _ (by simp)).way.resolve_left e
  · simp at h
    exact absurd h.symm (by decide +kernel)
theorem lt_addp {a b : Rat} (h : 0 < b) : a < a + b := by grind
section
variable {X : Cx} {E : L2.St → XK} {pos : Pos}
/-- a, b, c = e1, e2, e3 of plain names -/
def dPar3 (i j l : Nat) (Ta : TAD) : TSD := fun N τ M => Ta τ M (fun ds M1 => match ds with
  | [d, e, f] => N.nx (((τ.set i (some d)).set j (some e)).set l (some f)) M1
  | _ => False) (N.ex τ)
theorem ds_par3 {i j l : Nat} {x y z : Str} {a b c : Expr} {Ta : TAD} {px py pz pt : Pos} {kt k2 pt2} (hN : X.N.Nodup) (ha : DAs X E [a, b, c] Ta) (p : ∀ {ta : TA}, PA X [a, b, c] ta → PS X (.Assign [.Tuple [.Name x px, .Name y py, .Name z pz] kt pt] (.Tuple [a, b, c] k2 pt2) pos) (tPar3 i j l ta)) : DS X E (.Assign [.Tuple [.Name x px, .Name y py, .Name z pz] kt pt] (.Tuple [a, b, c] k2 pt2) pos) (dPar3 i j l Ta) := by
  refine ⟨(p ha.p).imp fun D σ H ⟨F, M, G, τ, N, rs, rep, h, lk⟩ => ?_⟩
  refine ⟨F, M, G, τ, _, _, rs, rep, h, fun ds M1 F1 H1 v q s1 rep1 r1 => ?_, lk.ex.at rs⟩
  dsimp only at q
  split at q
  · cases r1 with
    | cons r1 r2 =>
    cases r2 with
    | cons r2 r3 =>
    cases r3 with
    | cons r3 r4 =>
    cases r4
    exact ⟨_, _, _, rfl, lk.nx _ _ _ F1 _ q s1 rep1 ((((rs.mono s1).set r1 i).set r2 j).set r3 l)⟩
  · exact q.elim
end
end RS

set_option maxRecDepth 100000
set_option maxHeartbeats 4000000
namespace RS
open PySem PySem.Spec PyProof.Rows L2 NdefX He PySem.W
variable [Tbls]
section
variable {X : Cx} {E : L2.St → XK} {pos : Pos} {C : Addr} {S : SpD} {CX : CXT} {lv : Nat} {fe e : Expr} {es : List Expr} {Tf : TD} {Ta : TAD}
/-- o(..), o an instance of C -/
def dClo (C : Addr) (S : SpD) (Tf : TD) (Ta : TAD) : TD := fun τ M R W => Tf τ M (fun d M1 => isC M1 C d ∧ Ta τ M1 (fun ds M2 => isC M2 C d ∧ S (d :: ds) M2 R XF) W) W
theorem isC.ref {K : Frg} {F : Hp} {v : V} {d : D} {M : MS} (h : isC M C d) (r : Rv K F v d) : ∃ a, v = .ref a := by
  unfold isC vw at h
  cases r <;> first | exact ⟨_, rfl⟩ | exact h.elim
theorem de_cl (F : Clo X.prog X.w X.K X.mg X.base CX lv C (upSp X.K S)) (hr : Room lv X.A) (hx : Passes CX X E0) (hf : DE X E fe Tf) (ha : DAs X E (e :: es) Ta)
    (hcall : eval (.Call fe (e :: es) [] pos) X.env = (do callWith pos (← eval fe X.env) [] (backTo pos (starEach (e :: es) X.env)) (backToKw pos (keywordEach [] X.env))) := by rfl) (he : starEach (e :: es) X.env = (false, eval e X.env) :: starEach es X.env := by rfl) (hpl : (backTo pos (starEach es X.env)).any (·.1) = false := by rfl) : DE X E (.Call fe (e :: es) [] pos) (dClo C S Tf Ta) := by
  refine ⟨(pe_cl F hr hx hf.p ha.p hcall he hpl).imp fun σ H Q ⟨F0, M, G, τ, R, W, rs, rep, h, k, kx⟩ => ?_⟩
  refine ⟨F0, M, G, τ, _, W, rs, rep, h, fun d M1 F1 H1 v q s1 rep1 r1 => ?_, kx⟩
  obtain ⟨qc, q⟩ := q
  have hv := qc.ref r1
  obtain ⟨a, rfl⟩ := hv
  refine ⟨a, rfl, F1, M1, G, τ, _, W, rs.mono s1, rep1, q, fun ds M2 F2 H2 vs q2 s2 rep2 r2 => ?_, kx.le s1⟩
  obtain ⟨b, dx, fs, eb, e1⟩ := q2.1.at rep2 (r1.mono s2)
  cases eb
  exact ⟨.inr ⟨dx, fs, e1⟩, F2, M2, G, _, R, XF, .cons (r1.mono s2) r2, rep2, q2.2, k.le (s1.trans s2), KX.none⟩
end
/-! ### == of a thing with itself -/
theorem PD.plain : ∀ (n : Nat) (d : D), PD n d → d.py.plain = true := by
  intro n
  induction n with
  | zero =>
    intro d p
    cases d <;> first | exact p.elim | rfl
  | succ n ih =>
    have all : ∀ ds : List D, (∀ x ∈ ds, PD n x) → PyData.plainAll (D.pys ds) = true := by
      intro ds
      induction ds with
      | nil => intro _; rfl
      | cons d ds ihd =>
        intro p
        rw [D.pys, PyData.plainAll, ih d (p d (List.mem_cons_self ..)), ihd fun x hx => p x (List.mem_cons_of_mem _ hx)]
        rfl
    intro d p
    cases d <;> first | exact p.elim | rfl | (exact all _ p)
theorem dEqB_refl {n : Nat} {d : D} (p : PD n d) : dEqB d d = true := by
  rw [dEqB_eq]
  exact SeqAt.eqv_refl_plain _ (p.plain n d)
theorem PD_rayD {n : Nat} (h : 4 ≤ n) (r : Ray) : PD n (rayD r) := by
  obtain ⟨n, rfl⟩ : ∃ k, n = k + 2 := ⟨n - 2, by omega⟩
  intro x hx
  simp only [List.mem_cons, List.not_mem_nil, or_false] at hx
  rcases hx with rfl | rfl | rfl | rfl
  · exact PD_oN (by omega) _
  · exact PD_oN (by omega) _
  · exact PD_int _ _
  · intro y hy
    obtain ⟨c, _, rfl⟩ := List.mem_map.mp hy
    exact PD_cD (by omega) c
theorem PD_raysD (rs : List Ray) : PD 64 (.tup (rs.map rayD)) := fun x hx => by
  obtain ⟨r, _, rfl⟩ := List.mem_map.mp hx
  exact PD_rayD (by decide) r
theorem dEqB_tnil (xs : List D) : dEqB (.tup xs) (.tup []) = xs.isEmpty := by
  show PyData.eqv (.tuple (D.pys xs)) (.tuple []) = _
  cases xs <;> rfl
/-! ### the curve taken back -/
def negR (r : Ray) : Ray := ⟨r.low, r.high, -r.way, r.cs⟩
theorem negR_neg (r : Ray) : negR (negR r) = r := by
  unfold negR
  rw [Int.neg_neg]
theorem negR_map (rs : List Ray) : (rs.map negR).map negR = rs := by
  rw [List.map_map]
  conv => rhs; rw [← List.map_id rs]
  exact List.map_congr_left fun r _ => negR_neg r
theorem RayOK.neg {r : Ray} (o : RayOK r) : RayOK (negR r) := ⟨by have := o.way; show -r.way = 1 ∨ -r.way = -1; omega, o.ne, o.few, o.asc, o.lo, o.hi, o.szc, o.szl, o.szh⟩
theorem chain_neg : ∀ {rs : List Ray}, ChainR rs → ChainR (rs.map negR)
  | [], _ => trivial
  | [_], _ => trivial
  | a :: b :: r, h => ⟨h.1, chain_neg (rs := b :: r) h.2⟩
theorem Fine.neg {rs : List Ray} (h : Fine rs) : Fine (rs.map negR) := ⟨fun x hx => by
  obtain ⟨r, hr, rfl⟩ := List.mem_map.mp hx
  exact (h.ok r hr).neg, chain_neg h.ch⟩
theorem powQ_neg : ∀ {rs : List Ray} (h : Fine rs) (x : Rat) (n : Int), powQ (rs.map negR) x n = powQ rs x (-n)
  | [], _, _, _ => rfl
  | r :: rs, h, x, n => by
    have hn : Fine (negR r :: rs.map negR) := h.neg
    rw [List.map_cons, powQ_cons hn, powQ_cons h, powQ_neg h.tail x n]
    have e : (negR r).way * n = r.way * -n := by show -r.way * n = _; rw [Int.neg_mul, Int.mul_neg]
    rw [e]
    rfl
theorem powQ_zero : ∀ {rs : List Ray} (x : Rat), powQ rs x 0 = x
  | [], _ => rfl
  | r :: rs, x => by
    rw [powQ]
    split
    · rw [if_pos rfl]
    · exact powQ_zero x
theorem powQ_back {rs : List Ray} (h : Fine rs) (x : Rat) (n : Int) : powQ rs (powQ rs x n) (-n) = x := by
  rw [powQ_add h, Int.add_right_neg, powQ_zero]
/-! ### the law's own walk along a ray -/
theorem int_div1 (i : Int) : (i : Rat) = Rat.divInt i 1 := by rw [Rat.divInt_eq_div]; show (i : Rat) = (i : Rat) / ((1 : Int) : Rat); rw [Rat.intCast_one, Rat.div_def]; grind
def loB (o : Option Rat) (p : Rat) : Bool := match o with
  | none => true
  | some x => decide (x < p)
def hiB (o : Option Rat) (p : Rat) : Bool := match o with
  | none => true
  | some x => decide (p < x)
/-- how many corners are not ahead of t -/
def cntC (cs : List (Rat × Rat)) (t : Rat) : Nat := (cs.filter fun c => !decide (t < c.1)).length
theorem cntC_le (cs : List (Rat × Rat)) (t : Rat) : cntC cs t ≤ cs.length := List.length_filter_le _ _
theorem cntC_cons (a : Rat × Rat) (cs : List (Rat × Rat)) (t : Rat) : cntC (a :: cs) t = (if t < a.1 then 0 else 1) + cntC cs t := by
  unfold cntC
  rw [List.filter_cons]
  by_cases h : t < a.1
  · rw [if_pos h, decide_eq_true h]
    simp
  · rw [if_neg h, decide_eq_false h]
    simp
    omega
theorem cnt_lt : ∀ {cs : List (Rat × Rat)} {a : Rat × Rat} {t : Rat}, AscQ (a :: cs) → t < a.1 → cntC (a :: cs) t = 0
  | [], a, t, _, h => by rw [cntC_cons, if_pos h]; rfl
  | b :: r, a, t, q, h => by
    rw [cntC_cons, if_pos h]
    have h2 := q.1
    rw [cnt_lt q.2.2 (by grind)]
theorem cnt_all : ∀ {cs : List (Rat × Rat)} {a : Rat × Rat} {t : Rat}, AscQ (a :: cs) → (cntC (a :: cs) t = (a :: cs).length ↔ ¬ t < (lastC a cs).1)
  | [], a, t, _ => by
    rw [cntC_cons]
    show _ ↔ ¬ t < a.1
    by_cases h : t < a.1
    · rw [if_pos h]
      exact ⟨fun z => (nomatch z), fun z => absurd h z⟩
    · rw [if_neg h]
      exact ⟨fun _ => h, fun _ => rfl⟩
  | b :: r, a, t, q => by
    have ih := cnt_all (t := t) q.2.2
    have le := cntC_le (b :: r) t
    rw [cntC_cons, lastC_cons]
    have hl := (last_ge b r q.2.2).1
    have h2 := q.1
    by_cases h : t < a.1
    · rw [if_pos h]
      refine ⟨fun z => ?_, fun z => absurd (by grind) z⟩
      rw [List.length_cons] at z
      omega
    · rw [if_neg h, ← ih, List.length_cons (as := b :: r)]
      omega
theorem cntC_app (a b : List (Rat × Rat)) (t : Rat) : cntC (a ++ b) t = cntC a t + cntC b t := by
  unfold cntC
  rw [List.filter_append, List.length_append]
theorem cntC_take {cs : List (Rat × Rat)} {t : Rat} {j : Nat} {c : Rat × Rat} (h : cs[j]? = some c) : cntC (cs.take (j + 1)) t = cntC (cs.take j) t + (if t < c.1 then 0 else 1) := by
  rw [List.take_succ, h, cntC_app]
  show _ + cntC [c] t = _
  rw [cntC_cons]
  rfl
/-- between two corners -/
theorem cnt_mid : ∀ {cs : List (Rat × Rat)} {a : Rat × Rat} {t : Rat}, AscQ (a :: cs) → ¬ t < a.1 → t < (lastC a cs).1 → ∃ one two, 1 ≤ cntC (a :: cs) t ∧ (a :: cs)[cntC (a :: cs) t - 1]? = some one ∧ (a :: cs)[cntC (a :: cs) t]? = some two ∧ one.1 < two.1 ∧ one.2 < two.2 ∧
    (a.1 < t → interC (a :: cs) t = some (one.2 + (t - one.1) * (two.2 - one.2) / (two.1 - one.1))) ∧ (t = a.1 → one = a)
  | [], a, t, _, h1, h2 => absurd h2 h1
  | b :: r, a, t, q, h1, h2 => by
    rw [lastC_cons] at h2
    rw [cntC_cons, if_neg h1]
    by_cases h : t < b.1
    · rw [cnt_lt q.2.2 h]
      refine ⟨a, b, by omega, rfl, rfl, q.1, q.2.1, fun h3 => ?_, fun _ => rfl⟩
      unfold interC
      rw [if_neg (by grind)]
      congr 1
      have : b.1 - a.1 ≠ 0 := sub_ne q.1
      grind
    · obtain ⟨one, two, e1, e2, e3, e4, e5, e6, e7⟩ := cnt_mid q.2.2 h h2
      refine ⟨one, two, by omega, ?_, ?_, e4, e5, fun h3 => ?_, fun h3 => ?_⟩
      · rw [show 1 + cntC (b :: r) t - 1 = (cntC (b :: r) t - 1) + 1 by omega, List.getElem?_cons_succ]
        exact e2
      · rw [show 1 + cntC (b :: r) t = cntC (b :: r) t + 1 by omega, List.getElem?_cons_succ]
        exact e3
      · unfold interC
        by_cases h4 : b.1 < t
        · rw [if_pos h4]
          exact e6 h4
        · rw [if_neg h4]
          have e8 : t = b.1 := by grind
          rw [e7 e8, e8]
          congr 1
          have : b.1 - a.1 ≠ 0 := sub_ne q.1
          have : two.1 - b.1 ≠ 0 := by
            have := sub_ne e4
            rw [e7 e8] at this
            exact this
          grind
      · have := q.1
        grind
/-- the law's place behind a clock -/
theorem out_hi {r : Ray} (o : RayOK r) {t : Rat} (h : cntC r.cs t = r.cs.length) : placeAt r t = match r.high with
    | none => (lstC r).2 + (t - (lstC r).1)
    | some h => h - (h - (lstC r).2) * 1 / ((t - (lstC r).1) + 1) := by
  obtain ⟨a, cs, c⟩ := o.c
  rw [c.eq] at h
  have h2 := (cnt_all c.asc).mp h
  unfold placeAt
  rw [c.l, if_neg h2]
  cases r.high with
  | none => rfl
  | some h => show h - _ / _ = h - _ / _; rw [Rat.mul_one, Rat.add_comm]
theorem out_lo {r : Ray} (o : RayOK r) {t : Rat} (h1 : cntC r.cs t ≠ r.cs.length) (h : cntC r.cs t = 0) : placeAt r t = match r.low with
    | none => (fstC r).2 - ((fstC r).1 - t)
    | some lo => lo + ((fstC r).2 - lo) * 1 / (((fstC r).1 - t) + 1) := by
  obtain ⟨a, cs, c⟩ := o.c
  rw [c.eq] at h h1
  have h2 : t < (lastC a cs).1 := by
    by_cases z : t < (lastC a cs).1
    · exact z
    · exact absurd ((cnt_all c.asc).mpr z) h1
  have h3 : t < a.1 := by
    by_cases z : t < a.1
    · exact z
    · rw [cntC_cons, if_neg z] at h
      omega
  unfold placeAt
  rw [c.l, c.f, if_pos h2, if_neg (Rt.lt_asymm h3)]
  cases r.low with
  | none => rfl
  | some lo => show lo + _ / _ = lo + _ / _; rw [Rat.mul_one, Rat.add_comm 1]
theorem out_mid {r : Ray} (o : RayOK r) {t : Rat} (h1 : cntC r.cs t ≠ r.cs.length) (h : cntC r.cs t ≠ 0) : ∃ one two, r.cs[cntC r.cs t - 1]? = some one ∧ r.cs[cntC r.cs t]? = some two ∧ one.1 < two.1 ∧ one.2 < two.2 ∧ placeAt r t = one.2 + (t - one.1) * (two.2 - one.2) / (two.1 - one.1) := by
  obtain ⟨a, cs, c⟩ := o.c
  rw [c.eq] at h h1 ⊢
  have h2 : t < (lastC a cs).1 := by
    by_cases z : t < (lastC a cs).1
    · exact z
    · exact absurd ((cnt_all c.asc).mpr z) h1
  have h3 : ¬ t < a.1 := fun z => h (cnt_lt c.asc z)
  obtain ⟨one, two, e1, e2, e3, e4, e5, e6, e7⟩ := cnt_mid c.asc h3 h2
  refine ⟨one, two, e2, e3, e4, e5, ?_⟩
  unfold placeAt
  rw [c.l, c.f, c.eq, if_pos h2]
  by_cases h4 : a.1 < t
  · rw [if_pos h4, e6 h4]
    rfl
  · rw [if_neg h4]
    have e8 : t = a.1 := by grind
    have e9 := e7 e8
    subst e9
    rw [e8]
    have e10 : one.2 + (one.1 - one.1) * (two.2 - one.2) / (two.1 - one.1) = one.2 := by
      have : two.1 - one.1 ≠ 0 := sub_ne e4
      grind
    rw [e10]
    cases r.low with
    | none => show one.2 - (one.1 - one.1) = one.2; grind
    | some lo => show lo + (one.2 - lo) / (1 + (one.1 - one.1)) = one.2; grind
/-- the law's clock of a place -/
def cntP (cs : List (Rat × Rat)) (p : Rat) : Nat := (cs.filter fun c => !decide (p < c.2)).length
theorem cntP_swp (cs : List (Rat × Rat)) (p : Rat) : cntP cs p = cntC (cs.map swp) p := by
  unfold cntP cntC
  rw [List.filter_map, List.length_map]
  rfl
theorem cntP_app (a b : List (Rat × Rat)) (t : Rat) : cntP (a ++ b) t = cntP a t + cntP b t := by
  unfold cntP
  rw [List.filter_append, List.length_append]
theorem cntP_cons (a : Rat × Rat) (cs : List (Rat × Rat)) (t : Rat) : cntP (a :: cs) t = (if t < a.2 then 0 else 1) + cntP cs t := by
  rw [cntP_swp, List.map_cons, cntC_cons, cntP_swp]
  rfl
theorem cntP_take {cs : List (Rat × Rat)} {t : Rat} {j : Nat} {c : Rat × Rat} (h : cs[j]? = some c) : cntP (cs.take (j + 1)) t = cntP (cs.take j) t + (if t < c.2 then 0 else 1) := by
  rw [List.take_succ, h, cntP_app]
  show _ + cntP [c] t = _
  rw [cntP_cons]
  rfl
theorem cntP_le (cs : List (Rat × Rat)) (t : Rat) : cntP cs t ≤ cs.length := List.length_filter_le _ _
theorem in_hi {r : Ray} (o : RayOK r) {p : Rat} (h : cntP r.cs p = r.cs.length) : clockAt r p = match r.high with
    | none => (lstC r).1 + (p - (lstC r).2)
    | some h => (lstC r).1 + ((h - (lstC r).2) * 1 / (h - p) - 1) := by
  obtain ⟨a, cs, c⟩ := o.c
  rw [c.eq, cntP_swp, ← List.length_map (f := swp)] at h
  have h2 := (cnt_all (a := swp a) (cs := cs.map swp) (swp_asc c.asc)).mp h
  rw [swp_last] at h2
  have h3 : ¬ p < (lastC a cs).2 := h2
  unfold clockAt
  rw [c.l, if_neg h3]
  cases r.high with
  | none => rfl
  | some h => show (_ - 1) + _ / _ = _ + (_ / _ - 1); rw [Rat.mul_one]; grind
theorem in_lo {r : Ray} (o : RayOK r) {p : Rat} (h1 : cntP r.cs p ≠ r.cs.length) (h : cntP r.cs p = 0) : clockAt r p = match r.low with
    | none => (fstC r).1 - ((fstC r).2 - p)
    | some lo => (fstC r).1 - (((fstC r).2 - lo) * 1 / (p - lo) - 1) := by
  obtain ⟨a, cs, c⟩ := o.c
  rw [c.eq, cntP_swp] at h h1
  rw [← List.length_map (f := swp)] at h1
  have h2 : p < (lastC a cs).2 := by
    by_cases z : p < (lastC a cs).2
    · exact z
    · refine absurd ((cnt_all (a := swp a) (cs := cs.map swp) (swp_asc c.asc)).mpr ?_) h1
      rw [swp_last]
      exact z
  have h3 : p < a.2 := by
    by_cases z : p < a.2
    · exact z
    · rw [List.map_cons, cntC_cons, if_neg (show ¬ p < (swp a).1 from z)] at h
      omega
  unfold clockAt
  rw [c.l, c.f, if_pos h2, if_neg (Rt.lt_asymm h3)]
  cases r.low with
  | none => rfl
  | some lo => show (_ + 1) - _ / _ = _ - (_ / _ - 1); rw [Rat.mul_one]; grind
theorem in_mid {r : Ray} (o : RayOK r) {p : Rat} (h1 : cntP r.cs p ≠ r.cs.length) (h : cntP r.cs p ≠ 0) : ∃ one two, r.cs[cntP r.cs p - 1]? = some one ∧ r.cs[cntP r.cs p]? = some two ∧ one.1 < two.1 ∧ one.2 < two.2 ∧ clockAt r p = one.1 + (p - one.2) * (two.1 - one.1) / (two.2 - one.2) := by
  obtain ⟨a, cs, c⟩ := o.c
  rw [c.eq, cntP_swp] at h h1 ⊢
  rw [← List.length_map (f := swp)] at h1
  have h2 : p < (lastC a cs).2 := by
    by_cases z : p < (lastC a cs).2
    · exact z
    · refine absurd ((cnt_all (a := swp a) (cs := cs.map swp) (swp_asc c.asc)).mpr ?_) h1
      rw [swp_last]
      exact z
  have h3 : ¬ p < a.2 := fun z => h (cnt_lt (a := swp a) (cs := cs.map swp) (swp_asc c.asc) z)
  obtain ⟨one', two', e1, e2, e3, e4, e5, e6, e7⟩ := cnt_mid (a := swp a) (cs := cs.map swp) (t := p) (swp_asc c.asc) h3 (by rw [swp_last]; exact h2)
  rw [List.map_cons]
  rw [← List.map_cons, List.getElem?_map, Option.map_eq_some_iff] at e2 e3
  obtain ⟨one, q1, rfl⟩ := e2
  obtain ⟨two, q2, rfl⟩ := e3
  refine ⟨one, two, q1, q2, e5, e4, ?_⟩
  unfold clockAt
  rw [c.l, c.f, c.eq, if_pos h2]
  have e7' : p = a.2 → one = a := fun z => by
    have := e7 z
    have h8 := congrArg swp this
    exact h8
  by_cases h4 : a.2 < p
  · have e8 := e6 h4
    rw [← List.map_cons, swp_C] at e8
    rw [if_pos h4, e8]
    rfl
  · rw [if_neg h4]
    have e8 : p = a.2 := by grind
    have e9 := e7' e8
    subst e9
    rw [e8]
    have e10 : one.1 + (one.2 - one.2) * (two.1 - one.1) / (two.2 - one.2) = one.1 := by
      have : two.2 - one.2 ≠ 0 := sub_ne e4
      grind
    rw [e10]
    cases e11 : r.low with
    | none => show one.1 - (one.2 - one.2) = one.1; grind
    | some lo =>
      show (one.1 + 1) - (one.2 - lo) / (one.2 - lo) = one.1
      have : one.2 - lo ≠ 0 := sub_ne (c.lo lo e11)
      grind
end RS

set_option maxRecDepth 100000
set_option maxHeartbeats 4000000
namespace PySem.SeqAt
open AutoSeq1 (wpAny_loadPart')
open MeetsSeq MeetsSeq2 MeetsSeq3 SeqRoads2
/-! ### == and != of tuples, != of lists, where all items are equal (dicts among them) -/
section
variable {prog : Program} {w : World}
theorem rs_tup_same (l b : Addr) (xs ys : Array Value) (n n2 : Nat) (dd dd2 : Option Addr) (sl sl2 : Array (Option Value)) (hz : xs.size = ys.size) :
    MeetsIn prog w (Builtin.«tuple.__eq__» ⟨[.ref l, .ref b], []⟩) (fun A R s => s.heap.get? l = some { cls := .type "tuple", dict := dd, data := .seq xs n, slots := sl } ∧ s.heap.get? b = some { cls := .type "tuple", dict := dd2, data := .seq ys n2, slots := sl2 } ∧
        (∀ p ∈ xs.toList.zip ys.toList, EqP prog w A.in1 s p.1 p.2 true) ∧ R (.ok (.ret (.bool true))) s) := by
  refine fun A R s h => wpAny_mono (?_ : wpAny _ _ _ (fun fin s' => ∃ v, fin = .done (.ret v) ∧ R (.ok (.ret v)) s') _ _) (fun fin s' z => by obtain ⟨v, rfl, z⟩ := z; exact z) (fun _ _ z => z)
  obtain ⟨hp, g, d, tk, os⟩ := s
  obtain ⟨e1, e2, he, hR⟩ := h
  have f2 := AutoSeq1.sub_tuple_tuple
  wp_walk using wpAny_loadPart' e1, wpAny_loadPart' e2, wpAny_forIn_list _ (fun rest c s' => c.1 = none ∧ s' = ⟨hp, g, d, tk, os⟩ ∧ ∀ p ∈ rest, p ∈ xs.toList.zip ys.toList) _
  case turn =>
    rintro ⟨y, x⟩ rest c s' ⟨hc, rfl, sub⟩
    refine wpAny_bind (he (y, x) (sub _ List.mem_cons_self) _ _ ?_)
    wp_walk
    exact ⟨rfl, rfl, fun p hp' => sub p (List.mem_cons_of_mem _ hp')⟩
  case fin =>
    rintro ⟨b1, b2⟩ s' ⟨hc, rfl, _⟩
    simp only at hc
    subst hc
    wp_walk
    exact ⟨_, rfl, by simpa [Builtin.Tuple.tupleCompareSizes, hz] using hR⟩
  case h => exact ⟨rfl, rfl, fun p hp' => hp'⟩
theorem rs_tup_differ (l b : Addr) (xs ys : Array Value) (n n2 : Nat) (dd dd2 : Option Addr) (sl sl2 : Array (Option Value)) (hz : xs.size = ys.size) :
    MeetsIn prog w (Builtin.«tuple.__ne__» ⟨[.ref l, .ref b], []⟩) (fun A R s => s.heap.get? l = some { cls := .type "tuple", dict := dd, data := .seq xs n, slots := sl } ∧ s.heap.get? b = some { cls := .type "tuple", dict := dd2, data := .seq ys n2, slots := sl2 } ∧
        (∀ p ∈ xs.toList.zip ys.toList, EqP prog w A.in1 s p.1 p.2 true) ∧ R (.ok (.ret (.bool false))) s) := by
  refine fun A R s h => wpAny_mono (?_ : wpAny _ _ _ (fun fin s' => ∃ v, fin = .done (.ret v) ∧ R (.ok (.ret v)) s') _ _) (fun fin s' z => by obtain ⟨v, rfl, z⟩ := z; exact z) (fun _ _ z => z)
  obtain ⟨hp, g, d, tk, os⟩ := s
  obtain ⟨e1, e2, he, hR⟩ := h
  have f2 := AutoSeq1.sub_tuple_tuple
  wp_walk using wpAny_loadPart' e1, wpAny_loadPart' e2, wpAny_forIn_list _ (fun rest c s' => c.1 = none ∧ s' = ⟨hp, g, d, tk, os⟩ ∧ ∀ p ∈ rest, p ∈ xs.toList.zip ys.toList) _
  case turn =>
    rintro ⟨y, x⟩ rest c s' ⟨hc, rfl, sub⟩
    refine wpAny_bind (he (y, x) (sub _ List.mem_cons_self) _ _ ?_)
    wp_walk
    exact ⟨rfl, rfl, fun p hp' => sub p (List.mem_cons_of_mem _ hp')⟩
  case fin =>
    rintro ⟨b1, b2⟩ s' ⟨hc, rfl, _⟩
    simp only at hc
    subst hc
    wp_walk
    exact ⟨_, rfl, by simpa [Builtin.Tuple.tupleCompareSizes, hz] using hR⟩
  case h => exact ⟨rfl, rfl, fun p hp' => hp'⟩
theorem rs_lst_loop (l b : Addr) (xs ys : Array Value) (n n2 : Nat) (dd dd2 : Option Addr) (sl sl2 : Array (Option Value)) (hz : xs.size = ys.size) (m : Nat) :
    ∀ i : Nat, i + m = xs.size → MeetsIn prog w (Builtin.«list.__eq__.loop» ⟨[.ref l, .ref b, rawInt i, rawInt 3], []⟩) (fun A R s => s.heap.get? l = some { cls := .type "list", dict := dd, data := .seq xs n, slots := sl } ∧ s.heap.get? b = some { cls := .type "list", dict := dd2, data := .seq ys n2, slots := sl2 } ∧
        (∀ j (h1 : j < xs.size) (h2 : j < ys.size), EqP prog w A.in1 s xs[j] ys[j] true) ∧ R (.ok (.ret (.bool false))) s) := by
  induction m with
  | zero =>
    intro i hi A R s h
    obtain ⟨hp, g, d, tk, os⟩ := s
    obtain ⟨e1, e2, _, hR⟩ := h
    wp_walk using wpAny_loadPart' e1, wpAny_loadPart' e2
    have o1 : xs[((i : Nat) : Int).toNat]? = none := Array.getElem?_eq_none (by simp; omega)
    have o2 : ys[((i : Nat) : Int).toNat]? = none := Array.getElem?_eq_none (by simp; omega)
    rw [o1, o2]
    wp_walk using wpAny_loadPart' e1, wpAny_loadPart' e2
    show R (.ok (.ret (.bool (xs.size != ys.size)))) _
    have e : (xs.size != ys.size) = false := by rw [hz, bne_self_eq_false]
    rw [e]
    exact hR
  | succ m ih =>
    intro i hi A R s h
    obtain ⟨hp, g, d, tk, os⟩ := s
    obtain ⟨e1, e2, he, hR⟩ := h
    wp_walk using wpAny_loadPart' e1, wpAny_loadPart' e2
    have l1 : i < xs.size := by omega
    have l2 : i < ys.size := by omega
    have o1 : xs[((i : Nat) : Int).toNat]? = some xs[i] := Array.getElem?_eq_getElem (by simpa using l1)
    have o2 : ys[((i : Nat) : Int).toNat]? = some ys[i] := Array.getElem?_eq_getElem (by simpa using l2)
    rw [o1, o2]
    refine wpAny_bind (he i l1 l2 _ _ ?_)
    wp_walk
    rw [show ((i : Int) + 1) = ((i + 1 : Nat) : Int) from rfl]
    refine ⟨plainId_quiet plain_eq_loop _, codeAny_builtin entry_eq_loop ?_⟩
    rw [Around.under_plainId plain_eq_loop _]
    exact ih (i + 1) (by omega) A R _ ⟨e1, e2, he, hR⟩
theorem rs_lst_differ (l b : Addr) (xs ys : Array Value) (n n2 : Nat) (dd dd2 : Option Addr) (sl sl2 : Array (Option Value)) (hz : xs.size = ys.size) :
    MeetsIn prog w (Builtin.«list.__ne__» ⟨[.ref l, .ref b], []⟩) (fun A R s => s.heap.get? l = some { cls := .type "list", dict := dd, data := .seq xs n, slots := sl } ∧ s.heap.get? b = some { cls := .type "list", dict := dd2, data := .seq ys n2, slots := sl2 } ∧
        (∀ j (h1 : j < xs.size) (h2 : j < ys.size), EqP prog w A.in1 s xs[j] ys[j] true) ∧ R (.ok (.ret (.bool false))) s) := by
  intro A R s h
  obtain ⟨hp, g, d, tk, os⟩ := s
  obtain ⟨e1, e2, he, hR⟩ := h
  have f3 := AutoSeq1.sub_list_list
  have nz : ¬ (xs.size != ys.size) = true := by rw [hz, bne_self_eq_false]; exact nofun
  wp_walk using wpAny_loadPart' e1, wpAny_loadPart' e2
  refine ⟨plainId_quiet plain_eq_loop _, codeAny_builtin entry_eq_loop ?_⟩
  rw [Around.under_plainId plain_eq_loop _]
  exact rs_lst_loop l b xs ys n n2 dd dd2 sl sl2 hz xs.size 0 (by omega) A R _ ⟨e1, e2, he, hR⟩
section
variable {A : Around} {s : Shared} {l b : Addr} {xs ys : Array Value} {E Q : Value → Shared → Prop}
theorem zip_at (he : ∀ j (h1 : j < xs.size) (h2 : j < ys.size), EqP prog w A s xs[j] ys[j] true) : ∀ p ∈ xs.toList.zip ys.toList, EqP prog w A s p.1 p.2 true := by
  intro p hp
  obtain ⟨j, hj, e⟩ := List.getElem_of_mem hp
  have hj' := hj
  rw [List.length_zip] at hj'
  have h1 : j < xs.size := by have : j < xs.toList.length := by omega
                              simpa using this
  have h2 : j < ys.size := by have : j < ys.toList.length := by omega
                              simpa using this
  have e2 : p = (xs[j], ys[j]) := by rw [← e, List.getElem_zip]; simp
  rw [e2]
  exact he j h1 h2
theorem rs_rc_tup (hl : s.heap.IsTuple l xs) (hb : s.heap.IsTuple b ys) (hz : xs.size = ys.size) (hu : A.units < cLine) (he : ∀ j (h1 : j < xs.size) (h2 : j < ys.size), EqP prog w A.in1 s xs[j] ys[j] true) (h : Q (.bool true) s) : wpAny (model prog w) A (richCompare .Eq (.ref l) (.ref b)) Q E s := by
  obtain ⟨⟨c1, d1, dt1, s1⟩, o1, hc1, n1, hd1⟩ := id hl
  obtain ⟨⟨c2, d2, dt2, s2⟩, o2, hc2, n2, hd2⟩ := id hb
  simp only at hc1 hd1 hc2 hd2
  subst hc1 hd1 hc2 hd2
  have ta : s.TypeIs (.ref l) "tuple" := ⟨_, o1, rfl⟩
  have tb : s.TypeIs (.ref b) "tuple" := ⟨_, o2, rfl⟩
  refine wpAny_richCompare_same_room (op := .Eq) ta tb F.slot_tuple_eq (call_meetsIn F.slot_tuple_eq ta F.entry_tuple_eq (F.args_tuple_eq_2 _ _) (rs_tup_same l b xs ys n1 n2 d1 d2 s1 s2 hz) ⟨o1, o2, zip_at he, ?_⟩) hu
  exact ⟨(fun z => nomatch z), h⟩
theorem rs_rcne_tup (hl : s.heap.IsTuple l xs) (hb : s.heap.IsTuple b ys) (hz : xs.size = ys.size) (hu : A.units < cLine) (he : ∀ j (h1 : j < xs.size) (h2 : j < ys.size), EqP prog w A.in1 s xs[j] ys[j] true) (h : Q (.bool false) s) : wpAny (model prog w) A (richCompare .NotEq (.ref l) (.ref b)) Q E s := by
  obtain ⟨⟨c1, d1, dt1, s1⟩, o1, hc1, n1, hd1⟩ := id hl
  obtain ⟨⟨c2, d2, dt2, s2⟩, o2, hc2, n2, hd2⟩ := id hb
  simp only at hc1 hd1 hc2 hd2
  subst hc1 hd1 hc2 hd2
  have ta : s.TypeIs (.ref l) "tuple" := ⟨_, o1, rfl⟩
  have tb : s.TypeIs (.ref b) "tuple" := ⟨_, o2, rfl⟩
  refine wpAny_richCompare_same_room (op := .NotEq) ta tb F.slot_tuple_ne (call_meetsIn F.slot_tuple_ne ta F.entry_tuple_ne (F.args_tuple_ne_2 _ _) (rs_tup_differ l b xs ys n1 n2 d1 d2 s1 s2 hz) ⟨o1, o2, zip_at he, ?_⟩) hu
  exact ⟨(fun z => nomatch z), h⟩
theorem rs_rcne_lst (hl : s.heap.IsList l xs) (hb : s.heap.IsList b ys) (hz : xs.size = ys.size) (hu : A.units < cLine) (he : ∀ j (h1 : j < xs.size) (h2 : j < ys.size), EqP prog w A.in1 s xs[j] ys[j] true) (h : Q (.bool false) s) : wpAny (model prog w) A (richCompare .NotEq (.ref l) (.ref b)) Q E s := by
  obtain ⟨⟨c1, d1, dt1, s1⟩, o1, hc1, n1, hd1⟩ := id hl
  obtain ⟨⟨c2, d2, dt2, s2⟩, o2, hc2, n2, hd2⟩ := id hb
  simp only at hc1 hd1 hc2 hd2
  subst hc1 hd1 hc2 hd2
  have ta : s.TypeIs (.ref l) "list" := ⟨_, o1, rfl⟩
  have tb : s.TypeIs (.ref b) "list" := ⟨_, o2, rfl⟩
  refine wpAny_richCompare_same_room (op := .NotEq) ta tb F.slot_list_ne (call_meetsIn F.slot_list_ne ta F.entry_list_ne (F.args_list_ne_2 _ _) (rs_lst_differ l b xs ys n1 n2 d1 d2 s1 s2 hz) ⟨o1, o2, he, ?_⟩) hu
  exact ⟨(fun z => nomatch z), h⟩
end
end
/-! ### a text is no dict -/
theorem rs_str_obj (x : Str) (u : Tok) (l : Addr) (o : Obj) : Meets (Builtin.«str.__eq__» ⟨[.str x u, .ref l], []⟩) (fun _ R s => s.heap.get? l = some o ∧ (∃ es ep, o.data = .dict es ep) ∧ R (.ok (.ret .notImplemented)) s) :=
  .of_wp fun prog w A R s h => by
    obtain ⟨hp, g, d, tk, os⟩ := s
    obtain ⟨e, ⟨es, ep, he⟩, hR⟩ := h
    obtain ⟨c1, d1, dt1, s1⟩ := o
    simp only at he
    subst he
    wp_walk using wpAny_load e
    exact ⟨_, rfl, hR⟩
theorem rs_eq_str_dict {A : Around} {s : Shared} {x : Str} {u : Tok} {l : Addr} {o : Obj} (e : s.heap.get? l = some o) (hc : o.cls = .type "dict") (hd : ∃ es ep, o.data = .dict es ep) (hu : A.units < cLine) : EqAt A s (.str x u) (.ref l) false := fun prog w E Q h => by
  have ty : s.TypeIs (.ref l) "dict" := ⟨_, e, hc⟩
  unfold eqBool
  refine wpAny_holding ?_
  refine wpAny_ite_split (fun hab => absurd (eq_of_beq hab) nofun) (fun _ => ?_)
  refine wpAny_bind (rc_eq_decline_or (k := false) (typeIs_str s x u) ty (by decide) PySem.F.sub_dict_str F.slot_str_eq PySem.F.slot_dict_eq_refl
    (fun _ hq => call_meets F.slot_str_eq (typeIs_str s x u) F.entry_str_eq (F.args_str_eq_2 _ _) (rs_str_obj x u l o) ⟨e, hd, hq⟩)
    (fun Q' hq => wpAny_call_entry PySem.F.slot_dict_eq_refl ty PySem.F.entry_dict_eq ?_ (PySem.F.args_dict_eq_2 _ _))
    (fun _ hq => wpAny_of_eq (rfl : isSame (.str x u) (.ref l) = pure false) hq) (.inr hu) (wpAny_truthy_bool h))
  show wpAny _ _ (Builtin.Dict.dictSlotArgs "__eq__" ⟨[.ref l, .str x u], []⟩ >>= _) _ _ s
  refine wpAny_bind ?_
  unfold Builtin.Dict.dictSlotArgs
  refine wpAny_bind (wpAny_notOrdered_dict ty ?_)
  show wpAny _ _ (pure (Value.ref l, Value.str x u)) _ _ s
  refine wpAny_pure ?_
  refine wpAny_bind (wpAny_isInstance (T := "str") (typeIs_str s x u) PySem.F.sub_str_dict ?_)
  simp only [Bool.not_false, if_true]
  refine wpAny_bind (wpAny_rule ?_)
  exact wpAny_pure ⟨_, rfl, hq⟩
end PySem.SeqAt
namespace RS
open PySem PySem.Spec PyProof.Rows L2 He
/-! ### equal data, dicts among them -/
def EqS (K : Frg) (H : Hp) : Nat → V → V → Prop
  | 0 => fun x y => x = y ∧ flatB x = true
  | n + 1 => fun x y => (x = y ∧ flatB x = true) ∨ (∃ a b xs ys, x = .ref a ∧ y = .ref b ∧ ((SqL K H a xs ∧ SqL K H b ys) ∨ (SqT K H a xs ∧ SqT K H b ys)) ∧ Paired (EqS K H n) xs ys) ∨
      ∃ a b ks ls, x = .ref a ∧ y = .ref b ∧ H a = some (.dK ks) ∧ H b = some (.dK ls) ∧ ks.length = ls.length ∧ ∀ p ∈ ks, ∃ u, valV ls p.1 = some u ∧ EqS K H n p.2 u
section
variable {X : Cx} {pins : List (Addr × Obj)} {σ : L2.St} {H : Hp} {s : Shared}
theorem eqS_run (I : Inv X pins σ H s) : ∀ (n : Nat) (A : Around), A.units + n < cLine → ∀ (x y : V) (v u : Value), EqS X.K H n x y → RelV x v → RelV y u → SeqAt.EqP X.prog X.w A s v u true
  | 0, _, _, _, _, _, _, ⟨e, f⟩, rx, ry => by subst e; exact (eqAt_same rx ry f).eqP
  | n + 1, A, hu, x, y, v, u, h, rx, ry => by
    rcases h with ⟨rfl, f⟩ | ⟨a, b, xs, ys, rfl, rfl, hs, hp⟩ | ⟨a, b, ks, ls, rfl, rfl, ha, hb, hl, hp⟩
    · exact (eqAt_same rx ry f).eqP
    · cases (show v = Value.ref a from rx)
      cases (show u = Value.ref b from ry)
      by_cases hab : a = b
      · subst hab
        exact (SeqAt.EqAt.same _).eqP
      · refine SeqAt.eqP_refs hab fun E Q q => ?_
        have ih := eqS_run I n A.in1 (by show A.units + 1 + n < cLine; omega)
        rcases hs with ⟨ha, hb⟩ | ⟨ha, hb⟩
        · obtain ⟨us, r1, p1, _⟩ := I.list ha
          obtain ⟨ws, r2, p2, _⟩ := I.list hb
          have hsz : us.toArray.size = ws.toArray.size := by
            rw [List.size_toArray, List.size_toArray, ← r1.length, ← r2.length]
            exact Paired.length hp
          refine SeqAt.rcP_lists (e := fun _ => true) p1.isList p2.isList hsz (by omega) (fun j h1 h2 => ?_) E Q ?_
          · have k := items_run ih hp r1 r2 j (by simpa using h1) (by simpa using h2)
            simpa using k
          · rw [show ((List.range us.toArray.size).all fun _ => true) = true from List.all_eq_true.mpr fun _ _ => rfl]
            exact q
        · obtain ⟨us, r1, p1, _⟩ := I.tuple ha
          obtain ⟨ws, r2, p2, _⟩ := I.tuple hb
          have hsz : us.toArray.size = ws.toArray.size := by
            rw [List.size_toArray, List.size_toArray, ← r1.length, ← r2.length]
            exact Paired.length hp
          refine SeqAt.rs_rc_tup p1 p2 hsz (by omega) (fun j h1 h2 => ?_) q
          have k := items_run ih hp r1 r2 j (by simpa using h1) (by simpa using h2)
          simpa using k
    · cases (show v = Value.ref a from rx)
      cases (show u = Value.ref b from ry)
      by_cases hab : a = b
      · subst hab
        exact (SeqAt.EqAt.same _).eqP
      · refine SeqAt.eqP_refs hab fun E Q q => ?_
        obtain ⟨_, ya, va, ra, da⟩ := (show ObjOk X.prog X.w H s.heap a (.dK ks) from I.hok a _ ha)
        obtain ⟨_, yb, vb, rb, db⟩ := (show ObjOk X.prog X.w H s.heap b (.dK ls) from I.hok b _ hb)
        refine PySem.W.rcP_dicts (knd := mixKind X.prog X.w) (r := true) ya yb da db (by omega) (fun _ => hits_run (eqS_run I n A.in1 (by show A.units + 1 + n < cLine; omega)) rb ra hp) E Q ?_
        have e : va.length = vb.length := by rw [← ra.length, ← rb.length]; exact hl
        rw [show (va.length == vb.length && true) = true from by rw [e]; simp]
        exact q
end
section
variable {X : Cx}
/-- two lists, two tuples, of equal items -/
def rSame (K : Frg) (neg : Bool) : R2 := fun x y H Q => ∃ n a b xs ys, n ≤ 60 ∧ x = .ref a ∧ y = .ref b ∧ ((SqL K H a xs ∧ SqL K H b ys) ∨ (SqT K H a xs ∧ SqT K H b ys)) ∧ Paired (EqS K H n) xs ys ∧ Q (.bl (!neg)) H
theorem op_eqSame (hu : X.A.units + 64 < cLine) : OpR X (compareOp .Eq) (rSame X.K false) := by
  intro pins s σ H x y v u Q I rx ry h
  obtain ⟨n, a, b, xs, ys, hn, rfl, rfl, hs, hp, q⟩ := h
  cases (show v = Value.ref a from rx)
  cases (show u = Value.ref b from ry)
  have ih := eqS_run I n X.A.in1 (by show X.A.units + 1 + n < cLine; omega)
  have q' : (fun v s' => ∃ x H', Inv X pins σ H' s' ∧ RelV x v ∧ Q x H') (Value.bool true) s := ⟨.bl true, H, I, rfl, q⟩
  rcases hs with ⟨ha, hb⟩ | ⟨ha, hb⟩
  · obtain ⟨us, r1, p1, _⟩ := I.list ha
    obtain ⟨ws, r2, p2, _⟩ := I.list hb
    have hsz : us.toArray.size = ws.toArray.size := by
      rw [List.size_toArray, List.size_toArray, ← r1.length, ← r2.length]
      exact Paired.length hp
    refine SeqAt.rcP_lists (e := fun _ => true) p1.isList p2.isList hsz (by omega) (fun j h1 h2 => ?_) _ _ ?_
    · have k := items_run ih hp r1 r2 j (by simpa using h1) (by simpa using h2)
      simpa using k
    · rw [show ((List.range us.toArray.size).all fun _ => true) = true from List.all_eq_true.mpr fun _ _ => rfl]
      exact q'
  · obtain ⟨us, r1, p1, _⟩ := I.tuple ha
    obtain ⟨ws, r2, p2, _⟩ := I.tuple hb
    have hsz : us.toArray.size = ws.toArray.size := by
      rw [List.size_toArray, List.size_toArray, ← r1.length, ← r2.length]
      exact Paired.length hp
    refine SeqAt.rs_rc_tup p1 p2 hsz (by omega) (fun j h1 h2 => ?_) q'
    have k := items_run ih hp r1 r2 j (by simpa using h1) (by simpa using h2)
    simpa using k
theorem op_neSame (hu : X.A.units + 64 < cLine) : OpR X (compareOp .NotEq) (rSame X.K true) := by
  intro pins s σ H x y v u Q I rx ry h
  obtain ⟨n, a, b, xs, ys, hn, rfl, rfl, hs, hp, q⟩ := h
  cases (show v = Value.ref a from rx)
  cases (show u = Value.ref b from ry)
  have ih := eqS_run I n X.A.in1 (by show X.A.units + 1 + n < cLine; omega)
  have q' : (fun v s' => ∃ x H', Inv X pins σ H' s' ∧ RelV x v ∧ Q x H') (Value.bool false) s := ⟨.bl false, H, I, rfl, q⟩
  rcases hs with ⟨ha, hb⟩ | ⟨ha, hb⟩
  · obtain ⟨us, r1, p1, _⟩ := I.list ha
    obtain ⟨ws, r2, p2, _⟩ := I.list hb
    have hsz : us.toArray.size = ws.toArray.size := by
      rw [List.size_toArray, List.size_toArray, ← r1.length, ← r2.length]
      exact Paired.length hp
    refine SeqAt.rs_rcne_lst p1.isList p2.isList hsz (by omega) (fun j h1 h2 => ?_) q'
    have k := items_run ih hp r1 r2 j (by simpa using h1) (by simpa using h2)
    simpa using k
  · obtain ⟨us, r1, p1, _⟩ := I.tuple ha
    obtain ⟨ws, r2, p2, _⟩ := I.tuple hb
    have hsz : us.toArray.size = ws.toArray.size := by
      rw [List.size_toArray, List.size_toArray, ← r1.length, ← r2.length]
      exact Paired.length hp
    refine SeqAt.rs_rcne_tup p1 p2 hsz (by omega) (fun j h1 h2 => ?_) q'
    have k := items_run ih hp r1 r2 j (by simpa using h1) (by simpa using h2)
    simpa using k
/-- lists of different lengths -/
def rLens (K : Frg) (neg : Bool) : R2 := fun x y H Q => ∃ a b xs ys, x = .ref a ∧ y = .ref b ∧ SqL K H a xs ∧ SqL K H b ys ∧ xs.length ≠ ys.length ∧ Q (.bl neg) H
theorem op_eqLens (hu : X.A.units + 64 < cLine) : OpR X (compareOp .Eq) (rLens X.K false) := by
  intro pins s σ H x y v u Q I rx ry h
  obtain ⟨a, b, xs, ys, rfl, rfl, ha, hb, hl, q⟩ := h
  cases (show v = Value.ref a from rx)
  cases (show u = Value.ref b from ry)
  obtain ⟨us, r1, p1, _⟩ := I.list ha
  obtain ⟨ws, r2, p2, _⟩ := I.list hb
  refine SeqAt.RcAt.lists_lengths p1.isList p2.isList ?_ (by omega) _ _ _ _ ⟨.bl false, H, I, rfl, q⟩
  rw [List.size_toArray, List.size_toArray, ← r1.length, ← r2.length]
  simpa using hl
theorem op_neLens (hu : X.A.units + 64 < cLine) : OpR X (compareOp .NotEq) (rLens X.K true) := by
  intro pins s σ H x y v u Q I rx ry h
  obtain ⟨a, b, xs, ys, rfl, rfl, ha, hb, hl, q⟩ := h
  cases (show v = Value.ref a from rx)
  cases (show u = Value.ref b from ry)
  obtain ⟨us, r1, p1, _⟩ := I.list ha
  obtain ⟨ws, r2, p2, _⟩ := I.list hb
  refine SeqAt.RcNeAt.lists_lengths p1.isList p2.isList ?_ (by omega) _ _ _ _ ⟨.bl true, H, I, rfl, q⟩
  rw [List.size_toArray, List.size_toArray, ← r1.length, ← r2.length]
  simpa using hl
/-- a tuple that begins with a text, and one of one text alone -/
def rHeads (K : Frg) (neg : Bool) : R2 := fun x y H Q => ∃ a b i j z zs, x = .ref a ∧ y = .ref b ∧ SqT K H a (.str i :: z :: zs) ∧ SqT K H b [.str j] ∧ Q (.bl neg) H
theorem op_neHeads (hu : X.A.units + 64 < cLine) : OpR X (compareOp .NotEq) (rHeads X.K true) := by
  intro pins s σ H x y v u Q I rx ry h
  obtain ⟨a, b, i, j, z, zs, rfl, rfl, ha, hb, q⟩ := h
  cases (show v = Value.ref a from rx)
  cases (show u = Value.ref b from ry)
  obtain ⟨us, r1, p1, _⟩ := I.tuple ha
  obtain ⟨ws, r2, p2, _⟩ := I.tuple hb
  cases r1 with
  | cons a1 b1 =>
  cases b1 with
  | cons a2 b2 =>
  cases r2 with
  | cons c1 d1 =>
  cases d1
  obtain ⟨t, rfl⟩ := a1
  obtain ⟨t', rfl⟩ := c1
  rename_i z' zs'
  have k := SeqAt.RcNeAt.tuples (A := X.A) (e := fun _ => i == j) p1 p2 (by omega) (fun n h1 h2 => by
    have e : n = 0 := by simp at h2; omega
    subst e
    simpa using SeqAt.EqAt.str_str i t j t')
  refine k _ _ _ _ ⟨.bl true, H, I, ?_, q⟩
  simp
  exact rfl
/-- a dict is none of some texts -/
def rDictIn (K : Frg) (neg : Bool) : R2 := fun x y H Q => ∃ a p ks xs, x = .ref a ∧ H a = some (.dK ks) ∧ y = .ref p ∧ (SqL K H p xs ∨ SqT K H p xs) ∧ (∀ z ∈ xs, ∃ i, z = .str i) ∧ Q (.bl neg) H
theorem strs_no {A : Around} {a : Addr} {o : Obj} (e : s.heap.get? a = some o) (hc : o.cls = .type "dict") (hd : ∃ es ep, o.data = .dict es ep) (hu : A.units < cLine) : ∀ {xs : List V} {us : List Value}, Vals xs us → (∀ z ∈ xs, ∃ i, z = .str i) → ∀ u ∈ us, SeqAt.EqAt A s u (.ref a) ((fun _ => false) u)
  | _, _, .nil, _ => fun u hu' => by cases hu'
  | y :: xs, u :: us, .cons r t, f => fun u' hu' => by
    rcases List.mem_cons.mp hu' with e' | hu'
    · subst e'
      obtain ⟨i, rfl⟩ := f y (List.mem_cons_self ..)
      obtain ⟨t', rfl⟩ := r
      exact SeqAt.rs_eq_str_dict e hc hd hu
    · exact strs_no e hc hd hu t (fun z hz => f z (List.mem_cons_of_mem _ hz)) u' hu'
theorem op_dictNotIn (hu : X.A.units + 64 < cLine) : OpR X (compareOp .NotIn) (rDictIn X.K true) := by
  intro pins s σ H x y v u Q I rx ry h
  obtain ⟨a, p, ks, xs, rfl, ha, rfl, hs, f, q⟩ := h
  cases (show v = Value.ref a from rx)
  cases (show u = Value.ref p from ry)
  obtain ⟨_, ya, va, ra, da⟩ := (show ObjOk X.prog X.w H s.heap a (.dK ks) from I.hok a _ ha)
  obtain ⟨o, es, ep, e, hx, hd, _⟩ := id da
  have hu1 : X.A.in1.units < cLine := by show X.A.units + 1 < cLine; omega
  have no : ∀ us : List Value, us.any (fun _ => false) = false := fun us => List.any_eq_false.mpr fun _ _ => nofun
  rcases hs with hs | hs
  · obtain ⟨its, rv, hl, _⟩ := I.list hs
    refine SeqAt.notIn_listAt (fun _ => false) hl.isList (fun z hz => strs_no e hx.1 ⟨es, ep, hd⟩ hu1 rv f z (by simpa using hz)) ⟨.bl _, H, I, rfl, ?_⟩
    rw [show its.toArray.any (fun _ => false) = its.any (fun _ => false) by simp, no]
    exact q
  · obtain ⟨its, rv, hl, _⟩ := I.tuple hs
    refine SeqAt.notIn_tupleAt (fun _ => false) hl (fun z hz => strs_no e hx.1 ⟨es, ep, hd⟩ hu1 rv f z (by simpa using hz)) ⟨.bl _, H, I, rfl, ?_⟩
    rw [show its.toArray.any (fun _ => false) = its.any (fun _ => false) by simp, no]
    exact q
end
end RS

set_option maxRecDepth 100000
set_option maxHeartbeats 4000000
namespace RS
open PySem PySem.Spec PyProof.Rows L2 NdefX He PySem.W
variable [Tbls]
/-! ### == and != of data with dicts within -/
def SmD : Nat → D → Prop
  | _, .non => True
  | _, .bl _ => True
  | _, .int _ => True
  | _, .str _ => True
  | n + 1, .tup xs => ∀ x ∈ xs, SmD n x
  | n + 1, .lst xs => ∀ x ∈ xs, SmD n x
  | n + 1, .dct ks => (ks.map (·.1)).Nodup ∧ ∀ p ∈ ks, SmD n p.2
  | _, _ => False
theorem PD.sm : ∀ {n : Nat} {d : D}, PD n d → SmD n d := by
  intro n
  induction n with
  | zero => intro d h; cases d <;> first | exact h.elim | trivial
  | succ n ih => intro d h; cases d <;> first | exact h.elim | trivial | exact fun x hx => ih (h x hx)
theorem SmD.up : ∀ {n m : Nat} {d : D}, n ≤ m → SmD n d → SmD m d := by
  intro n
  induction n with
  | zero =>
    intro m d _ p
    cases d <;> first | exact p.elim | (cases m <;> trivial)
  | succ n ih =>
    intro m d h p
    obtain ⟨m, rfl⟩ : ∃ k, m = k + 1 := ⟨m - 1, by omega⟩
    cases d <;> first | exact p.elim | trivial | (exact fun x hx => ih (by omega) (p x hx)) | exact ⟨p.1, fun x hx => ih (by omega) (p.2 x hx)⟩
theorem Rks.two {K : Frg} {F : Hp} : ∀ {kvs lvs : List (Key × V)} {ks : List (Key × D)}, Rks K F kvs ks → Rks K F lvs ks → kvs.length = lvs.length ∧ lvs.map (·.1) = ks.map (·.1) ∧ ∀ p ∈ kvs, ∃ d v, (p.1, d) ∈ ks ∧ (p.1, v) ∈ lvs ∧ Rv K F p.2 d ∧ Rv K F v d
  | _, _, _, .nil, .nil => ⟨rfl, rfl, fun _ h => nomatch h⟩
  | _, _, _, .cons r rs, .cons r' rs' => by
    obtain ⟨h1, h2, h3⟩ := Rks.two rs rs'
    refine ⟨by rw [List.length_cons, List.length_cons, h1], by rw [List.map_cons, List.map_cons, h2], fun p hp => ?_⟩
    rcases List.mem_cons.mp hp with rfl | hp
    · exact ⟨_, _, List.mem_cons_self .., List.mem_cons_self .., r, r'⟩
    · obtain ⟨d, v, a, b, c, e⟩ := h3 p hp
      exact ⟨d, v, List.mem_cons_of_mem _ a, List.mem_cons_of_mem _ b, c, e⟩
theorem rvs_pair {K : Frg} {F : Hp} {P : V → V → Prop} : ∀ {vs us : List V} {ds : List D}, (∀ d ∈ ds, ∀ v u, Rv K F v d → Rv K F u d → P v u) → Rvs K F vs ds → Rvs K F us ds → Paired P vs us
  | _, _, _, _, .nil, .nil => .nil
  | _, _, _, h, .cons r rs, .cons r' rs' => .cons (h _ (List.mem_cons_self ..) _ _ r r') (rvs_pair (fun d hd => h d (List.mem_cons_of_mem _ hd)) rs rs')
theorem rv_sm {K : Frg} {F H : Hp} (s : L2.Same F H) : ∀ (n : Nat) {v u : V} {d : D}, SmD n d → Rv K F v d → Rv K F u d → EqS K H n v u := by
  intro n
  induction n with
  | zero =>
    intro v u d p r r'
    cases r <;> first
      | exact p.elim
      | (cases r'; exact ⟨rfl, rfl⟩)
  | succ n ih =>
    intro v u d p r r'
    cases r with
    | non => cases r'; exact .inl ⟨rfl, rfl⟩
    | bl b => cases r'; exact .inl ⟨rfl, rfl⟩
    | int i => cases r'; exact .inl ⟨rfl, rfl⟩
    | str x => cases r'; exact .inl ⟨rfl, rfl⟩
    | ty => exact p.elim
    | ref => exact p.elim
    | ins _ _ _ => exact p.elim
    | exc0 _ => exact p.elim
    | exc1 _ _ => exact p.elim
    | scr _ => exact p.elim
    | tup e rr =>
      cases r' with
      | tup e' rr' => exact .inr (.inl ⟨_, _, _, _, rfl, rfl, .inr ⟨Same.sqT s e, Same.sqT s e'⟩, rvs_pair (fun d hd v u a b => ih (p d hd) a b) rr rr'⟩)
    | lst e rr =>
      cases r' with
      | lst e' rr' => exact .inr (.inl ⟨_, _, _, _, rfl, rfl, .inl ⟨SqL.of (s _ _ e), SqL.of (s _ _ e')⟩, rvs_pair (fun d hd v u a b => ih (p d hd) a b) rr rr'⟩)
    | dct e rr =>
      cases r' with
      | dct e' rr' =>
        obtain ⟨h1, h2, h3⟩ := Rks.two rr rr'
        refine .inr (.inr ⟨_, _, _, _, rfl, rfl, s _ _ e, s _ _ e', h1, fun q hq => ?_⟩)
        obtain ⟨d, w, a, b, c, f⟩ := h3 q hq
        exact ⟨w, valV_mem (by rw [h2]; exact p.1) _ b, ih (p.2 _ a) c f⟩
def dSame (neg : Bool) (x y : D) (M : MS) (R : D → MS → Prop) (_ : XD) : Prop := match vw M x, vw M y with
  | .tup xs, .tup ys => xs = ys ∧ (∀ d ∈ xs, SmD 60 d) ∧ R (.bl (!neg)) M
  | .lst xs, .lst ys => xs = ys ∧ (∀ d ∈ xs, SmD 60 d) ∧ R (.bl (!neg)) M
  | _, _ => False
theorem ro_same {K : Frg} (neg : Bool) : RO K (rSame K neg) (dSame neg) := fun F M G H x y v u R W Q rx ry rep h k => by
  unfold dSame at h
  split at h
  · rename_i xs ys e1 e2
    obtain ⟨rfl, sm, h⟩ := h
    obtain ⟨a, vs, rfl, h1, r1⟩ := vw_tup rep rx e1
    obtain ⟨b, us, rfl, h2, r2⟩ := vw_tup rep ry e2
    exact ⟨60, a, b, vs, us, Nat.le_refl _, rfl, rfl, .inr ⟨Same.sqT rep.fz h1, Same.sqT rep.fz h2⟩, rvs_pair (fun d hd v u a b => rv_sm rep.fz 60 (sm d hd) a b) r1 r2, k _ M F H _ h (L2.Same.refl F) rep (.bl _)⟩
  · rename_i xs ys e1 e2
    obtain ⟨rfl, sm, h⟩ := h
    obtain ⟨a, vs, rfl, h1, r1⟩ := vw_lst rep rx e1
    obtain ⟨b, us, rfl, h2, r2⟩ := vw_lst rep ry e2
    exact ⟨60, a, b, vs, us, Nat.le_refl _, rfl, rfl, .inl ⟨SqL.of h1, SqL.of h2⟩, rvs_pair (fun d hd v u a b => rv_sm rep.fz 60 (sm d hd) a b) r1 r2, k _ M F H _ h (L2.Same.refl F) rep (.bl _)⟩
  · exact h.elim
def dLens (neg : Bool) (x y : D) (M : MS) (R : D → MS → Prop) (_ : XD) : Prop := match vw M x, vw M y with
  | .lst xs, .lst ys => xs.length ≠ ys.length ∧ R (.bl neg) M
  | _, _ => False
theorem ro_lens {K : Frg} (neg : Bool) : RO K (rLens K neg) (dLens neg) := fun F M G H x y v u R W Q rx ry rep h k => by
  unfold dLens at h
  split at h
  · rename_i xs ys e1 e2
    obtain ⟨a, vs, rfl, h1, r1⟩ := vw_lst rep rx e1
    obtain ⟨b, us, rfl, h2, r2⟩ := vw_lst rep ry e2
    exact ⟨a, b, vs, us, rfl, rfl, SqL.of h1, SqL.of h2, by rw [r1.len, r2.len]; exact h.1, k _ M F H _ h.2 (L2.Same.refl F) rep (.bl _)⟩
  · exact h.elim
def dHeads (neg : Bool) (x y : D) (M : MS) (R : D → MS → Prop) (_ : XD) : Prop := match vw M x, vw M y with
  | .tup (.str _ :: _ :: _), .tup [.str _] => R (.bl neg) M
  | _, _ => False
theorem ro_heads {K : Frg} (neg : Bool) : RO K (rHeads K neg) (dHeads neg) := fun F M G H x y v u R W Q rx ry rep h k => by
  unfold dHeads at h
  split at h
  · rename_i i z zs j e1 e2
    obtain ⟨a, vs, rfl, h1, r1⟩ := vw_tup rep rx e1
    obtain ⟨b, us, rfl, h2, r2⟩ := vw_tup rep ry e2
    cases r1 with
    | cons a1 b1 =>
    cases b1 with
    | cons a2 b2 =>
    cases r2 with
    | cons c1 d1 =>
    cases d1
    cases a1
    cases c1
    exact ⟨a, b, _, _, _, _, rfl, rfl, Same.sqT rep.fz h1, Same.sqT rep.fz h2, k _ M F H _ h (L2.Same.refl F) rep (.bl _)⟩
  · exact h.elim
def dDictIn (neg : Bool) (x y : D) (M : MS) (R : D → MS → Prop) (_ : XD) : Prop := match vw M x, vw M y with
  | .dct _, .lst ds => (∀ d ∈ ds, ∃ i, d = .str i) ∧ R (.bl neg) M
  | .dct _, .tup ds => (∀ d ∈ ds, ∃ i, d = .str i) ∧ R (.bl neg) M
  | _, _ => False
theorem rvs_strs {K : Frg} {F : Hp} : ∀ {vs : List V} {ds : List D}, Rvs K F vs ds → (∀ d ∈ ds, ∃ i, d = .str i) → ∀ z ∈ vs, ∃ i, z = .str i
  | _, _, .nil, _ => fun _ h => nomatch h
  | _, _, .cons r rs, h => fun z hz => by
    rcases List.mem_cons.mp hz with rfl | hz
    · obtain ⟨i, rfl⟩ := h _ (List.mem_cons_self ..)
      cases r
      exact ⟨i, rfl⟩
    · exact rvs_strs rs (fun d hd => h d (List.mem_cons_of_mem _ hd)) z hz
theorem ro_dictIn {K : Frg} (neg : Bool) : RO K (rDictIn K neg) (dDictIn neg) := fun F M G H x y v u R W Q rx ry rep h k => by
  unfold dDictIn at h
  split at h
  · rename_i ks ds e1 e2
    obtain ⟨a, kvs, rfl, h1, r1⟩ := vw_dct rep rx e1
    obtain ⟨b, us, rfl, h2, r2⟩ := vw_lst rep ry e2
    exact ⟨a, b, kvs, us, rfl, h1, rfl, .inl (SqL.of h2), rvs_strs r2 h.1, k _ M F H _ h.2 (L2.Same.refl F) rep (.bl _)⟩
  · rename_i ks ds e1 e2
    obtain ⟨a, kvs, rfl, h1, r1⟩ := vw_dct rep rx e1
    obtain ⟨b, us, rfl, h2, r2⟩ := vw_tup rep ry e2
    exact ⟨a, b, kvs, us, rfl, h1, rfl, .inr (Same.sqT rep.fz h2), rvs_strs r2 h.1, k _ M F H _ h.2 (L2.Same.refl F) rep (.bl _)⟩
  · exact h.elim
theorem op_eqW {X : Cx} (hu : X.A.units + 64 < cLine) : OpR X (compareOp .Eq) (fun x y H Q => rEqA X.K x y H Q ∨ (rSame X.K false x y H Q ∨ rLens X.K false x y H Q)) := OpR.or (op_eqA hu) (OpR.or (op_eqSame hu) (op_eqLens hu))
theorem op_neW {X : Cx} (hu : X.A.units + 64 < cLine) : OpR X (compareOp .NotEq) (fun x y H Q => rNeA X.K x y H Q ∨ (rSame X.K true x y H Q ∨ (rLens X.K true x y H Q ∨ rHeads X.K true x y H Q))) := OpR.or (op_neA hu) (OpR.or (op_neSame hu) (OpR.or (op_neLens hu) (op_neHeads hu)))
theorem op_notInW {X : Cx} (hu : X.A.units + 64 < cLine) : OpR X (compareOp .NotIn) (fun x y H Q => rInA X.K true x y H Q ∨ rDictIn X.K true x y H Q) := OpR.or (op_notInA hu) (op_dictNotIn hu)
theorem ro_eqW {K : Frg} : RO K (fun x y H Q => rEqA K x y H Q ∨ (rSame K false x y H Q ∨ rLens K false x y H Q)) (fun x y M R W => dEqA false x y M R W ∨ (dSame false x y M R W ∨ dLens false x y M R W)) := RO.or ro_eqA (RO.or (ro_same false) (ro_lens false))
theorem ro_neW {K : Frg} : RO K (fun x y H Q => rNeA K x y H Q ∨ (rSame K true x y H Q ∨ (rLens K true x y H Q ∨ rHeads K true x y H Q))) (fun x y M R W => dEqA true x y M R W ∨ (dSame true x y M R W ∨ (dLens true x y M R W ∨ dHeads true x y M R W))) := RO.or ro_neA (RO.or (ro_same true) (RO.or (ro_lens true) (ro_heads true)))
theorem ro_notInW {K : Frg} : RO K (fun x y H Q => rInA K true x y H Q ∨ rDictIn K true x y H Q) (fun x y M R W => dIn true x y M R W ∨ dDictIn true x y M R W) := RO.or (ro_in true) (ro_dictIn true)
end RS

set_option maxRecDepth 100000
set_option maxHeartbeats 4000000
namespace RS
open PySem PySem.Spec PyProof.Rows L2 NdefX He PySem.W
variable [Tbls]
/-! ### from here on the object of this name does not change -/
def dFrz (i : Nat) (T : TSD) : TSD := fun N τ M => match τ[i]? with
  | some (some (.ref a)) => (match M a with
    | some m => T N (τ.set i (some m.d)) (delM M a)
    | none => False)
  | _ => False
theorem Rs.set_same {K : Frg} {F : Hp} : ∀ {σ : L2.St} {τ : SD} {i : Nat} {v : V} {d : D}, Rs K F σ τ → σ[i]? = some (some v) → Rv K F v d → Rs K F σ (τ.set i (some d)) := by
  intro σ τ i v d h e r
  have h2 := h.set r i
  have e2 : σ.set i (some v) = σ := by
    obtain ⟨hl, hv⟩ := List.getElem?_eq_some_iff.mp e
    rw [← hv]
    exact List.set_getElem_self hl
  rw [e2] at h2
  exact h2
theorem dss_frz {X : Cx} {E : L2.St → XK} {ss : List Stmt} {T : TSD} (i : Nat) (h : DSs X E ss T) : DSs X E ss (dFrz i T) := by
  refine ⟨h.p.imp fun D σ H ⟨F, M, G, τ, N, rs, rep, q, lk⟩ => ?_⟩
  unfold dFrz at q
  split at q
  · rename_i a e
    obtain ⟨v, ev, r⟩ := rs.at e
    split at q
    · rename_i m em
      cases r
      obtain ⟨F', s, rep', r'⟩ := rep.frz em
      exact ⟨F', delM M a, G, _, N, (rs.mono s).set_same ev r', rep', q, lk.le s⟩
    · exact q.elim
  · exact q.elim
/-! ### a comprehension over a list that could change, but does not -/
def ItOkC (K : Frg) (G : Hp) (J : L2.It) (F : Hp) (C : MS → Prop) (ds : List D) : Prop := ∀ i F' M' H, L2.Same F F' → Rep K F' M' G H → C M' → i ≤ ds.length → (i = ds.length → J.stop i H) ∧
  (i < ds.length → J.go i H ∧ ∀ x H', J.yld i H x H' → ∃ F'' d, L2.Same F' F'' ∧ Rep K F'' M' G H' ∧ ds[i]? = some d ∧ Rv K F'' x d)
abbrev TIDC := SD → MS → (List D → (MS → Prop) → MS → Prop) → XD → Prop
def upIC (K : Frg) (E : L2.St → XK) (T : TIDC) : TI := fun σ H R => ∃ F M G τ Rd W, Rs K F σ τ ∧ Rep K F M G H ∧ T τ M Rd W ∧ (∀ ds C M' F' H' J, Rd ds C M' → L2.Same F F' → Rep K F' M' G H' → C M' → (∀ G', ItOkC K G' J F' C ds) → R J H') ∧ KX K F G W (E σ)
structure DIC (X : Cx) (E : L2.St → XK) (tg e : Expr) (T : TIDC) : Prop where
  p : PI X tg e (upIC X.K E T)
def dItC (T : TD) : TIDC := fun τ M R W => T τ M (fun d M1 => match seqOf M1 d with
  | some (xs, o) => R xs (chk o xs) M1
  | none => False) W
theorem seqOf_chkC {M : MS} {d : D} {xs : List D} {o : Option Addr} (e : seqOf M d = some (xs, o)) : chk o xs M := by
  unfold seqOf at e
  split at e
  · cases e; trivial
  · cases e; trivial
  · rename_i a
    split at e
    · rename_i em
      cases e
      exact em
    · cases e
  · cases e
theorem dic_sq {X : Cx} {E : L2.St → XK} {tg e : Expr} {Te : TD} (h : DE X E e Te) : DIC X E tg e (dItC Te) := by
  refine ⟨(pi_sq h.p).imp fun σ H R ⟨F, M, G, τ, Rd, W, rs, rep, h, k, kx⟩ => ?_⟩
  refine ⟨F, M, G, τ, _, W, rs, rep, h, fun d M1 F1 H1 v q s1 rep1 r1 => ?_, kx⟩
  dsimp only at q
  split at q
  · rename_i xs o e
    have ck := seqOf_chkC e
    unfold seqOf at e
    split at e
    · cases e
      cases r1 with
      | lst sq rr =>
      rename_i a vs
      refine ⟨a, rfl, .inl ⟨⟨vs, SqL.of (rep1.fz _ _ sq)⟩, k _ _ M1 F1 H1 _ q s1 rep1 ck fun G' i F' M' H' s rep' _ hi => itok_same rr (fun F' M' H s rep i => ?_) i F' M' H' s rep' hi⟩⟩
      have sq' : SqL X.K H a vs := SqL.of (rep.fz _ _ (s _ _ sq))
      exact ⟨fun hi => ⟨vs, sq', hi⟩, fun x hx => ⟨vs, x, sq', hx⟩, fun x H' ⟨e, y⟩ => ⟨e, fun z hz => by rw [y vs sq'] at hz; exact Option.some.inj hz⟩⟩
    · cases e
      cases r1 with
      | tup sq rr =>
      rename_i a vs
      refine ⟨a, rfl, .inr ⟨⟨vs, Same.sqT rep1.fz sq⟩, k _ _ M1 F1 H1 _ q s1 rep1 ck fun G' i F' M' H' s rep' _ hi => itok_same rr (fun F' M' H s rep i => ?_) i F' M' H' s rep' hi⟩⟩
      have sq' : SqT X.K H a vs := Same.sqT rep.fz (Same.sqT s sq)
      exact ⟨fun hi => ⟨vs, sq', hi⟩, fun x hx => ⟨vs, x, sq', hx⟩, fun x H' ⟨e, y⟩ => ⟨e, fun z hz => by rw [y vs sq'] at hz; exact Option.some.inj hz⟩⟩
    · rename_i a
      cases r1
      split at e
      · rename_i ys em
        cases e
        obtain ⟨vs0, e0, rr0⟩ := rep1.lst em
        refine ⟨a, rfl, .inl ⟨⟨_, SqL.of e0⟩, k _ _ M1 F1 H1 _ q s1 rep1 ck fun G' i F' M' H' s rep' ck' hi => ?_⟩⟩
        obtain ⟨vs, ev, rr⟩ := rep'.lst (show M' a = some (.lst xs) from ck')
        have hl := rr.len
        refine ⟨fun ei => ⟨vs, SqL.of ev, by omega⟩, fun hlt => ?_⟩
        have ex : vs[i]? = some (vs[i]'(by omega)) := List.getElem?_eq_getElem _
        obtain ⟨d, e, r⟩ := rr.at ex
        refine ⟨⟨vs, _, SqL.of ev, ex⟩, fun x H'' y => ?_⟩
        obtain ⟨eH, y⟩ := y
        subst eH
        have := y vs (SqL.of ev)
        rw [ex] at this
        cases this
        exact ⟨F', d, L2.Same.refl F', rep', e, r⟩
      · cases e
    · cases e
  · exact q.elim
def dLcLC (C : MS → Prop) (g : TGD) (tt : TTD) (te : TD) (vs : List Nat) (τ : SD) (R : List D → MS → Prop) : List D → List D → MS → Prop
  | [], acc, M => R acc M
  | d :: r, acc, M => g d τ M (fun τ2 M2 => tt τ2 M2 (fun b M3 => dIte b (te τ2 M3 (fun y M4 => acc.length < sizeLine ∧ C M4 ∧ dLcLC C g tt te vs τ R r (acc ++ [y]) M4) XF) (C M3 ∧ dLcLC C g tt te vs τ R r acc M3)) XF) (fun _ => XF)
def dLcC (ti : TIDC) (g : TGD) (tt : TTD) (te : TD) (vs : List Nat) : TD := fun τ M R W => ti τ M (fun ds C M1 => dLcLC C g tt te vs (wipeD τ vs) (fun acc M2 => R (.lst acc) M2) ds [] M1) W
section
variable {X : Cx} {E : L2.St → XK} {ti : TIDC} {g : TGD} {tt : TTD} {te : TD} {vs : List Nat}
theorem wipe_wipe (us : List Nat) (ρ : L2.St) : wipe (wipe ρ us) us = wipe ρ us := by
  have fix : ∀ (ws : List Nat), (∀ j ∈ ws, j ∈ us) → wipe (wipe ρ us) ws = wipe ρ us := by
    intro ws
    induction ws with
    | nil => intro _; rfl
    | cons j ws ih =>
      intro hj
      show (wipe (wipe ρ us) ws).set j none = _
      rw [ih fun k hk => hj k (List.mem_cons_of_mem _ hk)]
      apply List.ext_getElem?
      intro n
      by_cases hn : j = n
      · subst hn
        by_cases hl : j < (wipe ρ us).length
        · rw [List.getElem?_set_self hl]
          cases hw : (wipe ρ us)[j]? with
          | none => exact absurd (List.getElem?_eq_none_iff.mp hw) (by omega)
          | some o =>
            cases o with
            | none => rfl
            | some x => exact absurd (hj j (List.mem_cons_self ..)) (wipe_some hw).2
        · rw [List.getElem?_eq_none (by rw [List.length_set]; omega), List.getElem?_eq_none (by omega)]
      · rw [List.getElem?_set_ne hn]
  exact fix us fun _ h => h
theorem up_lcC {σ : L2.St} {H : Hp} {Q : VK} (h : up X.K E (dLcC ti g tt te vs) σ H Q) : tLc (upIC X.K E ti) (upGw X.K vs g) (upT X.K E0' tt) (up X.K E0' te) vs σ H Q := by
  obtain ⟨F, M, G, τ, R, W, rs, rep, h, k, kx⟩ := h
  refine ⟨F, M, G, τ, _, W, rs, rep, h, fun ds C M1 F1 H1 J q s1 rep1 ck1 ok Dd hD => ?_, kx⟩
  have gD : G Dd = none := rep1.freeG hD
  refine ⟨fun i m H => m = ds.length - i ∧ i ≤ ds.length ∧ ∃ F2 M2 acc accV, L2.Same F1 F2 ∧ Rvs X.K F2 accV acc ∧ Rep X.K F2 M2 (upd G Dd (.lst accV)) H ∧ C M2 ∧ dLcLC C g tt te vs (wipeD τ vs) (fun acc M2 => R (.lst acc) M2) (ds.drop i) acc M2, ⟨_, rfl, Nat.zero_le _, F1, M1, [], [], L2.Same.refl F1, .nil, rep1.newG hD, ck1, q⟩, ?_⟩
  rintro i m H2 ⟨rfl, hi, F2, M2, acc, accV, s2, rv2, rep2, ck2, q2⟩
  obtain ⟨o1, o2⟩ := ok _ i F2 M2 H2 s2 rep2 ck2 hi
  by_cases hlt : i < ds.length
  · obtain ⟨go, yld⟩ := o2 hlt
    refine .inr ⟨go, fun H' => ∃ F3 M3 acc accV, L2.Same F1 F3 ∧ Rvs X.K F3 accV acc ∧ Rep X.K F3 M3 (upd G Dd (.lst accV)) H' ∧ C M3 ∧ dLcLC C g tt te vs (wipeD τ vs) (fun acc M2 => R (.lst acc) M2) (ds.drop (i + 1)) acc M3, fun H' z => ⟨ds.length - (i + 1), by omega, rfl, hlt, z⟩, fun x H' y => ?_⟩
    obtain ⟨F3, d, s3, rep3, e, r⟩ := yld x H' y
    have ed : ds.drop i = d :: ds.drop (i + 1) := by
      obtain ⟨h1, h2⟩ := List.getElem?_eq_some_iff.mp e
      rw [List.drop_eq_getElem_cons hlt, h2]
    rw [ed] at q2
    have rsw : Rs X.K F3 (wipe σ vs) (wipeD τ vs) := (((rs.mono s1).mono s2).mono s3).wipe vs
    refine ⟨F3, M2, _, wipeD τ vs, d, _, r, rsw, rep3, q2, fun σ4 τ4 M4 F4 H4 w4 q4 s4 rep4 rs4 => ⟨?_, ?_⟩⟩
    · rw [w4]
      exact wipe_wipe vs σ
    · refine ⟨F4, M4, _, τ4, _, XF, rs4, rep4, q4, fun b M5 F5 H5 q5 s5 rep5 => ?_, KX.none⟩
      have s15 := ((s2.trans s3).trans s4).trans s5
      cases b with
      | true =>
        refine iteT ⟨F5, M5, _, τ4, _, XF, rs4.mono s5, rep5, q5.1 rfl, fun y M6 F6 H6 v q6 s6 rep6 r6 => ?_, KX.none⟩
        have rv6 := (((rv2.mono s3).mono s4).mono s5).mono s6
        exact ⟨accV, (rep6.fr Dd _ upd_same).1, by rw [rv6.len]; exact q6.1, F6, M6, _, _, s15.trans s6, rv6.snoc r6, rep6.putG, q6.2.1, q6.2.2⟩
      | false => exact iteF ⟨F5, M5, acc, accV, s15, ((rv2.mono s3).mono s4).mono s5, rep5, (q5.2 rfl).1, (q5.2 rfl).2⟩
  · have e : i = ds.length := by omega
    refine .inl ⟨o1 e, ?_⟩
    rw [e, List.drop_length] at q2
    obtain ⟨rep', s⟩ := rep2.frzG gD
    exact ((k.le s1).le s2) _ M2 _ _ _ q2 s rep' (.lst upd_same (rv2.mono s))
variable {elt tg iter : Expr} {ifs : List Expr} {scope : Scope} {own : List (Str × Nat)} {pos : Pos}
theorem de_lcC (hc : X.calm = true) (hN : X.N.Nodup) (hi : DIC X E tg iter ti) (ok : BlkOk X.N X.env.scope scope own)
    (hg : ∀ (s : Shared) (H : Hp) (C : Addr) (cl : List (Str × Addr)) (fp : List Addr), DGw (X.blk s H scope (compEnvC scope cl C X.env) fp) (own.map (·.2)) tg g) (ht : ∀ (s : Shared) (H : Hp) (C : Addr) (cl : List (Str × Addr)) (fp : List Addr), DTs (X.blk s H scope (compEnvC scope cl C X.env) fp) E0' ifs tt)
    (he : ∀ (s : Shared) (H : Hp) (C : Addr) (cl : List (Str × Addr)) (fp : List Addr), DE (X.blk s H scope (compEnvC scope cl C X.env) fp) E0' elt te) (hs : ∀ x, foldedSetIterable iter X.env x = pure x := by intro _; rfl) :
    DE X E (.ListComp elt [⟨tg, iter, ifs, 0⟩] scope pos) (dLcC ti g tt te (own.map (·.2))) :=
  ⟨(pe_lc (g := upGw X.K (own.map (·.2)) g) (tt := upT X.K E0' tt) (te := up X.K E0' te) hc hN hi.p ok (fun s H C cl fp => (hg s H C cl fp).p) (fun s H C cl fp => (ht s H C cl fp).p) (fun s H C cl fp => (he s H C cl fp).p) hs).imp fun σ H Q h => up_lcC h⟩
theorem ds_setLcC (i : Nat) {y : Str} {py : Pos} {spos : Pos} (hc : X.calm = true) (hN : X.N.Nodup) (hy : X.N[i]? = some y) (hyl : X.env.scope.names.lookup y = some .local)
    (hsw : swapsWith (.ListComp elt [⟨tg, iter, ifs, 0⟩] scope pos) (some (.Name y py)) spos.line X.env = pure true) (hi : DIC X E tg iter ti) (ok : BlkOk X.N X.env.scope scope own)
    (hg : ∀ (s : Shared) (H : Hp) (C : Addr) (cl : List (Str × Addr)) (fp : List Addr), DGw (X.blk s H scope (compEnvC scope cl C X.env) fp) (own.map (·.2)) tg g) (ht : ∀ (s : Shared) (H : Hp) (C : Addr) (cl : List (Str × Addr)) (fp : List Addr), DTs (X.blk s H scope (compEnvC scope cl C X.env) fp) E0' ifs tt)
    (he : ∀ (s : Shared) (H : Hp) (C : Addr) (cl : List (Str × Addr)) (fp : List Addr), DE (X.blk s H scope (compEnvC scope cl C X.env) fp) E0' elt te) (hs : ∀ x, foldedSetIterable iter X.env x = pure x := by intro _; rfl) :
    DS X E (.Assign [.Name y py] (.ListComp elt [⟨tg, iter, ifs, 0⟩] scope pos) spos) (dSet i (dLcC ti g tt te (own.map (·.2)))) := by
  refine ⟨(ps_setLc (g := upGw X.K (own.map (·.2)) g) (tt := upT X.K E0' tt) (te := up X.K E0' te) hc hN hy hyl hsw hi.p ok (fun s H C cl fp => (hg s H C cl fp).p) (fun s H C cl fp => (ht s H C cl fp).p) (fun s H C cl fp => (he s H C cl fp).p) hs).imp fun D σ H ⟨F, M, G, τ, N, rs, rep, h, lk⟩ => ?_⟩
  exact up_lcC (E := E) ⟨F, M, G, τ, _, _, rs, rep, h, fun d M1 F1 H1 v q s1 rep1 r1 => lk.nx _ _ _ F1 _ q s1 rep1 ((rs.mono s1).set r1 i), lk.ex.at rs⟩
/-- such a comprehension by an invariant -/
theorem dLcLC_ind {C : MS → Prop} {τ : SD} {R : List D → MS → Prop} (I : List D → List D → MS → Prop) {ds acc : List D} {M : MS} (h0 : I ds acc M)
    (hs : ∀ d r acc M, I (d :: r) acc M → (∀ acc' M', I r acc' M' → dLcLC C g tt te vs τ R r acc' M') → g d τ M (fun τ2 M2 => tt τ2 M2 (fun b M3 => dIte b (te τ2 M3 (fun y M4 => acc.length < sizeLine ∧ C M4 ∧ dLcLC C g tt te vs τ R r (acc ++ [y]) M4) XF) (C M3 ∧ dLcLC C g tt te vs τ R r acc M3)) XF) (fun _ => XF))
    (he : ∀ acc M, I [] acc M → R acc M) : dLcLC C g tt te vs τ R ds acc M := by
  induction ds generalizing acc M with
  | nil => exact he acc M h0
  | cons d r ih => exact hs d r acc M h0 fun acc' M' h => ih h
end
theorem passes_of2 {CX : CXT} {X : Cx} {E : XK} (h : ∀ σ, PassesAt CX X σ E) : Passes CX X E := fun pins σ H s e s' I c => h σ pins H s e s' I c
end RS

set_option maxRecDepth 100000
set_option maxHeartbeats 4000000
namespace RS
open PySem PySem.Spec PyProof.Rows L2 NdefX He PySem.W
variable [Tbls]
/-! ### a comprehension over what could change, whose list will change -/
def dLcCM (ti : TIDC) (g : TGD) (tt : TTD) (te : TD) (vs : List Nat) : TD := fun τ M R W => ti τ M (fun ds C M1 => dLcLC C g tt te vs (wipeD τ vs) (fun acc M2 => ∀ p, M2 p = none → R (.ref p) (updM M2 p (.lst acc))) ds [] M1) W
section
variable {X : Cx} {E : L2.St → XK} {ti : TIDC} {g : TGD} {tt : TTD} {te : TD} {vs : List Nat}
theorem up_lcCM {σ : L2.St} {H : Hp} {Q : VK} (h : up X.K E (dLcCM ti g tt te vs) σ H Q) : tLc (upIC X.K E ti) (upGw X.K vs g) (upT X.K E0' tt) (up X.K E0' te) vs σ H Q := by
  obtain ⟨F, M, G, τ, R, W, rs, rep, h, k, kx⟩ := h
  obtain ⟨Re, hR, h⟩ : ∃ Re : List D → MS → Prop, (∀ acc M2 p F2 accV G H, Re acc M2 → Rvs X.K F2 accV acc → Rep X.K F2 M2 (upd G p (.lst accV)) H → G p = none → KQ X.K F2 G R Q → Q (.ref p) H) ∧ ti τ M (fun ds C M1 => dLcLC C g tt te vs (wipeD τ vs) Re ds [] M1) W := by
    refine ⟨_, fun acc M2 p F2 accV G H hr rv rep gp k => ?_, h⟩
    have hp := rep.fr p _ upd_same
    have mp : M2 p = none := by
      cases e : M2 p with
      | none => rfl
      | some m =>
        have := (rep.mu p m e).2.1
        rw [upd_same] at this
        cases this
    refine k _ _ F2 H _ (hr p mp) (L2.Same.refl F2) ⟨rep.fz, fun a m e => ?_, fun a o e => rep.fr a o ?_, rep.nt, fun a o e => rep.ng a o ?_, rep.tb⟩ (.ref p)
    · by_cases ha : a = p
      · subst ha
        rw [updM_same] at e
        cases e
        exact ⟨hp.2, gp, by rw [hp.1]; exact rv⟩
      · rw [updM_ne ha] at e
        obtain ⟨x, y, z⟩ := rep.mu a m e
        rw [upd_ne ha] at y
        exact ⟨x, y, z⟩
    · have ha : a ≠ p := by rintro rfl; rw [gp] at e; cases e
      rw [upd_ne ha]
      exact e
    · have ha : a ≠ p := by rintro rfl; rw [gp] at e; cases e
      rw [upd_ne ha]
      exact e
  refine ⟨F, M, G, τ, _, W, rs, rep, h, fun ds C M1 F1 H1 J q s1 rep1 ck1 ok Dd hD => ?_, kx⟩
  have gD : G Dd = none := rep1.freeG hD
  refine ⟨fun i m H => m = ds.length - i ∧ i ≤ ds.length ∧ ∃ F2 M2 acc accV, L2.Same F1 F2 ∧ Rvs X.K F2 accV acc ∧ Rep X.K F2 M2 (upd G Dd (.lst accV)) H ∧ C M2 ∧ dLcLC C g tt te vs (wipeD τ vs) Re (ds.drop i) acc M2, ⟨_, rfl, Nat.zero_le _, F1, M1, [], [], L2.Same.refl F1, .nil, rep1.newG hD, ck1, q⟩, ?_⟩
  rintro i m H2 ⟨rfl, hi, F2, M2, acc, accV, s2, rv2, rep2, ck2, q2⟩
  obtain ⟨o1, o2⟩ := ok _ i F2 M2 H2 s2 rep2 ck2 hi
  by_cases hlt : i < ds.length
  · obtain ⟨go, yld⟩ := o2 hlt
    refine .inr ⟨go, fun H' => ∃ F3 M3 acc accV, L2.Same F1 F3 ∧ Rvs X.K F3 accV acc ∧ Rep X.K F3 M3 (upd G Dd (.lst accV)) H' ∧ C M3 ∧ dLcLC C g tt te vs (wipeD τ vs) Re (ds.drop (i + 1)) acc M3, fun H' z => ⟨ds.length - (i + 1), by omega, rfl, hlt, z⟩, fun x H' y => ?_⟩
    obtain ⟨F3, d, s3, rep3, e, r⟩ := yld x H' y
    have ed : ds.drop i = d :: ds.drop (i + 1) := by
      obtain ⟨h1, h2⟩ := List.getElem?_eq_some_iff.mp e
      rw [List.drop_eq_getElem_cons hlt, h2]
    rw [ed] at q2
    have rsw : Rs X.K F3 (wipe σ vs) (wipeD τ vs) := (((rs.mono s1).mono s2).mono s3).wipe vs
    refine ⟨F3, M2, _, wipeD τ vs, d, _, r, rsw, rep3, q2, fun σ4 τ4 M4 F4 H4 w4 q4 s4 rep4 rs4 => ⟨?_, ?_⟩⟩
    · rw [w4]
      exact wipe_wipe vs σ
    · refine ⟨F4, M4, _, τ4, _, XF, rs4, rep4, q4, fun b M5 F5 H5 q5 s5 rep5 => ?_, KX.none⟩
      have s15 := ((s2.trans s3).trans s4).trans s5
      cases b with
      | true =>
        refine iteT ⟨F5, M5, _, τ4, _, XF, rs4.mono s5, rep5, q5.1 rfl, fun y M6 F6 H6 v q6 s6 rep6 r6 => ?_, KX.none⟩
        have rv6 := (((rv2.mono s3).mono s4).mono s5).mono s6
        exact ⟨accV, (rep6.fr Dd _ upd_same).1, by rw [rv6.len]; exact q6.1, F6, M6, _, _, s15.trans s6, rv6.snoc r6, rep6.putG, q6.2.1, q6.2.2⟩
      | false => exact iteF ⟨F5, M5, acc, accV, s15, ((rv2.mono s3).mono s4).mono s5, rep5, (q5.2 rfl).1, (q5.2 rfl).2⟩
  · have e : i = ds.length := by omega
    refine .inl ⟨o1 e, ?_⟩
    rw [e, List.drop_length] at q2
    exact hR acc M2 Dd F2 accV G H2 q2 rv2 rep2 gD ((k.le s1).le s2)
variable {elt tg iter : Expr} {ifs : List Expr} {scope : Scope} {own : List (Str × Nat)} {pos : Pos}
theorem de_lcCM (hc : X.calm = true) (hN : X.N.Nodup) (hi : DIC X E tg iter ti) (ok : BlkOk X.N X.env.scope scope own)
    (hg : ∀ (s : Shared) (H : Hp) (C : Addr) (cl : List (Str × Addr)) (fp : List Addr), DGw (X.blk s H scope (compEnvC scope cl C X.env) fp) (own.map (·.2)) tg g) (ht : ∀ (s : Shared) (H : Hp) (C : Addr) (cl : List (Str × Addr)) (fp : List Addr), DTs (X.blk s H scope (compEnvC scope cl C X.env) fp) E0' ifs tt)
    (he : ∀ (s : Shared) (H : Hp) (C : Addr) (cl : List (Str × Addr)) (fp : List Addr), DE (X.blk s H scope (compEnvC scope cl C X.env) fp) E0' elt te) (hs : ∀ x, foldedSetIterable iter X.env x = pure x := by intro _; rfl) :
    DE X E (.ListComp elt [⟨tg, iter, ifs, 0⟩] scope pos) (dLcCM ti g tt te (own.map (·.2))) :=
  ⟨(pe_lc (g := upGw X.K (own.map (·.2)) g) (tt := upT X.K E0' tt) (te := up X.K E0' te) hc hN hi.p ok (fun s H C cl fp => (hg s H C cl fp).p) (fun s H C cl fp => (ht s H C cl fp).p) (fun s H C cl fp => (he s H C cl fp).p) hs).imp fun σ H Q h => up_lcCM h⟩
theorem ds_setLcCM (i : Nat) {y : Str} {py : Pos} {spos : Pos} (hc : X.calm = true) (hN : X.N.Nodup) (hy : X.N[i]? = some y) (hyl : X.env.scope.names.lookup y = some .local)
    (hsw : swapsWith (.ListComp elt [⟨tg, iter, ifs, 0⟩] scope pos) (some (.Name y py)) spos.line X.env = pure true) (hi : DIC X E tg iter ti) (ok : BlkOk X.N X.env.scope scope own)
    (hg : ∀ (s : Shared) (H : Hp) (C : Addr) (cl : List (Str × Addr)) (fp : List Addr), DGw (X.blk s H scope (compEnvC scope cl C X.env) fp) (own.map (·.2)) tg g) (ht : ∀ (s : Shared) (H : Hp) (C : Addr) (cl : List (Str × Addr)) (fp : List Addr), DTs (X.blk s H scope (compEnvC scope cl C X.env) fp) E0' ifs tt)
    (he : ∀ (s : Shared) (H : Hp) (C : Addr) (cl : List (Str × Addr)) (fp : List Addr), DE (X.blk s H scope (compEnvC scope cl C X.env) fp) E0' elt te) (hs : ∀ x, foldedSetIterable iter X.env x = pure x := by intro _; rfl) :
    DS X E (.Assign [.Name y py] (.ListComp elt [⟨tg, iter, ifs, 0⟩] scope pos) spos) (dSet i (dLcCM ti g tt te (own.map (·.2)))) := by
  refine ⟨(ps_setLc (g := upGw X.K (own.map (·.2)) g) (tt := upT X.K E0' tt) (te := up X.K E0' te) hc hN hy hyl hsw hi.p ok (fun s H C cl fp => (hg s H C cl fp).p) (fun s H C cl fp => (ht s H C cl fp).p) (fun s H C cl fp => (he s H C cl fp).p) hs).imp fun D σ H ⟨F, M, G, τ, N, rs, rep, h, lk⟩ => ?_⟩
  exact up_lcCM (E := E) ⟨F, M, G, τ, _, _, rs, rep, h, fun d M1 F1 H1 v q s1 rep1 r1 => lk.nx _ _ _ F1 _ q s1 rep1 ((rs.mono s1).set r1 i), lk.ex.at rs⟩
end
end RS

set_option maxRecDepth 100000
set_option maxHeartbeats 4000000
/-! enumerate of a tuple -/
namespace PySem.RSE
open PySem
set_option maxHeartbeats 4000000 in
theorem meets_enum1 {v : Value} {o : Obj} {Hx : Heap → Prop} (B : Begins v o Hx) : Meets (Builtin.«enumerate.__new__» ⟨[.type "enumerate", v], []⟩) (fun _ R s => Hx s.heap ∧
    R (.ok (.ret (.ref (s.heap.push o).objs.size))) { s with heap := (s.heap.push o).push { cls := .type "enumerate", data := .fields #[.none, .bool false, .ref s.heap.objs.size, rawInt 0, .none, .none] } }) :=
  .of_wp fun prog w A R s h => by
    obtain ⟨hp, g, d, tk, os⟩ := s
    obtain ⟨hx, h⟩ := h
    have hsub := sub_enumerate
    have go : ∀ {A' : Around} {E Q : Value → Shared → Prop}, Q (.ref hp.objs.size) ⟨hp.push o, g, d, tk, os⟩ → wpAny (model prog w) A' (pyIter v) Q E ⟨hp, g, d, tk, os⟩ := fun q => B.iter prog w _ _ ⟨hp, g, d, tk, os⟩ _ hx q
    wp_walk using go
    refine wpAny_stack_any fun st => wpAny_pure ?_
    split
    · rename_i c _ _ _ _ _
      cases (c == Value.type "enumerate") <;> (wp_walk using go; exact ⟨_, rfl, h⟩)
    · wp_walk using go; exact ⟨_, rfl, h⟩
theorem call_enum1 {prog : Program} {w : World} {A : Around} {E : Value → Shared → Prop} {s : Shared} {v : Value} {o : Obj} {Hx : Heap → Prop} {Q : Value → Shared → Prop} (B : Begins v o Hx) (hx : Hx s.heap)
    (h : ∀ h', IsEnum h' (s.heap.objs.size + 1) s.heap.objs.size 0 .none → h'.get? s.heap.objs.size = some o → h'.objs.size = s.heap.objs.size + 2 → (∀ b o', s.heap.get? b = some o' → h'.get? b = some o') → Q (.ref (s.heap.objs.size + 1)) { s with heap := h' }) :
    wpAny (model prog w) A (call (.type "enumerate") [v]) Q E s := by
  refine callType_new F.called_enumerate (by decide) (F.typeCall_enumerate_1 _) (F.newCall_enumerate_1 _) (fun obj => F.args_object_init_2 obj _) F.entry_enumerate_new (meets_enum1 B) ⟨hx, ?_⟩
  have sz : (s.heap.push o).objs.size = s.heap.objs.size + 1 := Heap.size_push ..
  change _ ∧ _
  rw [sz]
  have en : IsEnum ((s.heap.push o).push { cls := .type "enumerate", data := .fields #[.none, .bool false, .ref s.heap.objs.size, rawInt 0, .none, .none] }) (s.heap.objs.size + 1) s.heap.objs.size 0 .none := by
    have z := Heap.get?_push_size (s.heap.push o) (o := { cls := .type "enumerate", data := .fields #[.none, .bool false, .ref s.heap.objs.size, rawInt 0, .none, .none] }) rfl
    rw [sz] at z
    exact z
  refine ⟨⟨_, en, rfl⟩, h _ en (Heap.get?_push_of_some _ (Heap.get?_push_size _ B.free)) (by rw [Heap.size_push, sz]) fun b o' x => Heap.get?_push_of_some _ (Heap.get?_push_of_some _ x)⟩
theorem enum_endT {prog : Program} {w : World} {A : Around} {E : Value → Shared → Prop} {s : Shared} {e it l : Addr} {i : Nat} {items : Array Value} {k : Int} {old : Value} {Q : Option Value → Shared → Prop} (hh : A.handled = none)
    (he : IsEnum s.heap e it k old) (hit : s.heap.IsTupleIter it l i) (hl : s.heap.IsTuple l items) (hx : items[i]? = none) (hQ : ∀ h', Heap.ExtBut it s.heap h' → Q none { s with heap := h' }) : wpAny (model prog w) A (pyNext (.ref e)) Q E s := by
  have ty : s.TypeIs (.ref e) "enumerate" := ⟨_, he, rfl⟩
  unfold pyNext
  refine wpAny_bind (wpAny_attempt (wpAny_callSpecial?_slot (name := Str.ofString "__next__") ty F.slot_enumerate_next (wpAny_call_entry F.slot_enumerate_next ty F.entry_enumerate_next ?_ (F.args_enumerate_next_1 _))))
  change wpAny _ _ (field (.ref e) 2 >>= _) _ _ _
  refine wpAny_bind (wpAny_field he rfl (x := .ref it) rfl (wpAny_bind (wpAny_nextOf_tuple_end hh hit hl hx fun h' x hb hs => ?_)))
  obtain ⟨o, ho, hc⟩ := hs
  exact wpAny_bind (wpAny_isInstance (T := "StopIteration") (b := true) ⟨o, ho, hc⟩ isSubtype_stop (wpAny_pure (hQ _ hb)))
end PySem.RSE
namespace RS
open PySem PySem.Spec PyProof.Rows L2
/-- the items of the tuple at a, numbered, in new pairs -/
def IteT (K : PySem.W.Frag) (a : Addr) : L2.It :=
  ⟨fun i H => ∃ (xs : List V) (x : V), SqT K H a xs ∧ xs[i]? = some x,
   fun i H v H' => ∃ T x, v = .ref T ∧ H T = none ∧ H' = upd H T (.tup [.int (i : Nat), x]) ∧ ∀ xs, SqT K H a xs → xs[i]? = some x,
   fun i H => ∃ xs : List V, SqT K H a xs ∧ xs.length ≤ i⟩
theorem turn_enumT {P : Program} {w : World} {K : PySem.W.Frag} {elts : List Expr} {kk : Nat} {tpos : Pos} (a e it : Addr) :
    Turn P w K (.Tuple elts kk tpos) (IteT K a) [e, it] e (fun i h => (∃ old, IsEnum h e it ((i : Nat) : Int) old) ∧ h.IsTupleIter it a i ∧ e ≠ it ∧ a ≠ it ∧ e ≠ a) where
  mem := by simp
  obj := fun i h st b hb => by
    obtain ⟨⟨old, he⟩, ⟨o, ho, hc, hd⟩, _⟩ := st
    have cs : b = e ∨ b = it := by simpa using hb
    rcases cs with z | z
    · rw [z]; exact ⟨_, he, fun v q => nomatch q⟩
    · rw [z]; exact ⟨o, ho, fun v q => by rw [hd] at q; cases q⟩
  keep := fun i h h' st k => let ⟨⟨old, he⟩, hi, n1, n2, n3⟩ := st; ⟨⟨old, k e (by simp) _ he⟩, hi.at fun o q => k it (by simp) o q, n1, n2, n3⟩
  item := by
    intro X hP hw hK hc i pins s σ H E I hf st hg
    subst hP hw hK
    obtain ⟨⟨old, he⟩, hit, n1, n2, n3⟩ := st
    obtain ⟨xs, x, hq, hx⟩ := hg
    obtain ⟨its, rv, p, hz⟩ := I.tuple hq
    obtain ⟨u, hu, ru⟩ := rv.get hx
    have hel : e < s.heap.objs.size := Heap.lt_size he
    have hil : it < s.heap.objs.size := by obtain ⟨_, q, _⟩ := hit; exact Heap.lt_size q
    have hli : i < its.toArray.size := by
      have := (List.getElem?_eq_some_iff.mp hu).1
      simpa using this
    refine wpAny_pyNext_enum_itemD (Draws.tuple (A := X.A.in1) (I.ok.hd hc) it a n2 its.toArray) he ⟨hit, p⟩ hli n1 (by simp [n1, n3]) fun x' h' tk hx' ho st' hT hsz hk => ?_
    have ex : x' = u := by
      have : its.toArray[i]? = some u := by simpa using hu
      rw [this] at hx'
      exact (Option.some.inj hx').symm
    subst ex
    refine ⟨_, rfl, wpAny_letOwnedTupleGo_enum (s := { s with heap := h', toks := tk + 1 }) ho fun h'' he' sb => ?_⟩
    have hT2 : h''.get? s.heap.objs.size = some { cls := .type "tuple", data := .seq #[.int i tk, x'] } := (sb.2 _ (Nat.ne_of_gt hel)).trans hT
    have new : ObjOk X.prog X.w (upd H s.heap.objs.size (.tup [.int (i : Nat), x])) h'' s.heap.objs.size (.tup [.int (i : Nat), x]) :=
      ⟨by show 2 ≤ sizeLine; decide, [.int i tk, x'], .cons ⟨_, rfl⟩ (.cons ru .nil), ⟨_, hT2, rfl, _, rfl⟩⟩
    have I1 : Inv X pins σ (upd H s.heap.objs.size (.tup [.int (i : Nat), x])) { s with heap := h'', toks := tk + 1 } :=
      I.turnedNew (ch := [e, it]) (fun b ob hb q => (sb.2 b (fun z => hb (by simp [z]))).trans (hk b ob (fun z => hb (by simp [z])) (fun z => hb (by simp [z])) q)) hf (Nat.le_refl _) new
    refine ⟨.ref s.heap.objs.size, _, I1, rfl, ⟨_, x, rfl, I.hok.fresh (Nat.le_refl _), rfl, fun ys hy => by rw [I.tuple_inj hy hq]; exact hx⟩, ⟨⟨x', ?_⟩, st'.1.at fun o q => (sb.2 it (Ne.symm n1)).trans q, n1, n2, n3⟩, fun b hb => ?_⟩
    · have e1 : ((i + 1 : Nat) : Int) = (i : Int) + 1 := by omega
      rw [e1]
      exact he'
    · have hb' : b < s.heap.objs.size := by
        have cs : b = e ∨ b = it := by simpa using hb
        rcases cs with z | z
        · rw [z]; exact hel
        · rw [z]; exact hil
      rw [upd_ne (Nat.ne_of_lt hb')]
      exact (hf b hb).1
  done := by
    intro X hP hw hK hc i pins s σ H E I hf st hg
    subst hP hw hK
    obtain ⟨⟨old, he⟩, hit, n1, n2, n3⟩ := st
    obtain ⟨xs, hq, hx⟩ := hg
    obtain ⟨its, rv, p, hz⟩ := I.tuple hq
    obtain ⟨f0, f1, f2, f3, f4, f5⟩ := hf it (by simp)
    have hl := rv.length
    exact PySem.RSE.enum_endT (I.ok.hd hc) he hit p (by simp; omega) fun h' eb => ⟨rfl, I.turned (t' := s.toks) (fun b o hb q => eb b o hb q) f0 f1 f3 f4 f5⟩
  self := fun A i s Q E st h => let ⟨⟨_, he⟩, _⟩ := st; wpAny_pyIter_enum he h
def iEnumT (K : PySem.W.Frag) (ta : TA) : L2.TI := fun σ H R => ta σ H fun vs H1 => ∃ a xs, vs = [.ref a] ∧ SqT K H1 a xs ∧ R (IteT K a) H1
theorem pi_enumT {X : Cx} {e : Expr} {ta : TA} {p pos tpos : Pos} {elts : List Expr} {kk : Nat} (hg : Gl X "enumerate") (hm : X.mg "enumerate" = none) (ha : PA X [e] ta) (hs : starEach [e] X.env = [(false, eval e X.env)] := by rfl) : PI X (.Tuple elts kk tpos) (.Call (.Name "enumerate" p) [e] [] pos) (iEnumT X.K ta) := by
  constructor
  intro pins s σ H R I h
  refine Call_ (ld_blt I hg hm boot_enumerate (PyProof.Rows.callWith_type1 (thn (ha.run pos pins s σ H _ I h) fun us s1 ⟨vs, H1, I1, r1, q1⟩ => ?_) hs rfl))
  obtain ⟨a, xs, rfl, hq, q⟩ := q1
  cases r1 with
  | cons r rr =>
    cases rr
    cases r
    obtain ⟨its, rv, p', hz⟩ := I1.tuple hq
    obtain ⟨oa, hoa, _⟩ := id p'
    have hal : a < s1.heap.objs.size := Heap.lt_size hoa
    refine PySem.RSE.call_enum1 (begins_tuple a its.toArray) p' fun h' he hit hsz hk => wpAny_pyIter_enum he ?_
    have I2 : Inv X pins σ H1 { s1 with heap := h' } := I1.kept (t' := s1.toks) hk
    refine ⟨s1.heap.objs.size + 1, [s1.heap.objs.size + 1, s1.heap.objs.size], _, _, H1, rfl, I2, turn_enumT a (s1.heap.objs.size + 1) s1.heap.objs.size, ⟨⟨.none, he⟩, ⟨_, hit, rfl, rfl⟩, Nat.succ_ne_self _, Nat.ne_of_lt hal, Nat.ne_of_gt (Nat.lt_succ_of_lt hal)⟩, fun b hb => ?_, q⟩
    have cs : b = s1.heap.objs.size + 1 ∨ b = s1.heap.objs.size := by simpa using hb
    have hle : s1.heap.objs.size ≤ b := by
      rcases cs with z | z
      · rw [z]; exact Nat.le_add_right _ _
      · rw [z]; exact Nat.le_refl _
    exact I1.fpOk hle (I1.hok.fresh hle)
end RS

set_option maxRecDepth 100000
set_option maxHeartbeats 4000000
namespace RS
open PySem PySem.Spec PyProof.Rows L2 NdefX He PySem.W
variable [Tbls]
theorem itok_enumT {K : Frg} {G F : Hp} {a : Addr} {vs : List V} {xs : List D} (r : Rvs K F vs xs) (ha : SqT K F a vs) : ItOk K G (IteT K a) F (enumD 0 xs) := fun i F' M' H s rep hi => by
  have ha' : SqT K H a vs := Same.sqT rep.fz (Same.sqT s ha)
  have l1 := r.len
  rw [enumD_len]
  refine ⟨fun e => ⟨vs, ha', by omega⟩, fun hlt => ?_⟩
  have e1 : vs[i]? = some (vs[i]'(by omega)) := List.getElem?_eq_getElem _
  obtain ⟨d1, q1, r1⟩ := r.at e1
  refine ⟨⟨vs, _, ha', e1⟩, fun v H' ⟨T, x, hv, hT, hH, hx⟩ => ?_⟩
  subst hv hH
  have h1 := hx vs ha'
  rw [e1] at h1
  cases h1
  obtain ⟨rep', s'⟩ := rep.newF (o := .tup [.int (i : Nat), vs[i]'(by omega)]) hT
  refine ⟨_, _, s', rep', enumD_at q1, .tup (SqT.of upd_same) (.cons ?_ (.cons (r1.mono (s.trans s')) .nil))⟩
  have : ((0 + i : Nat) : Int) = (i : Int) := by omega
  rw [this]
  exact .int _
section
variable {X : Cx} {E : L2.St → XK} {pos p tpos : Pos} {e : Expr} {elts : List Expr} {kk : Nat} {Ta : TAD}
def dEnumT (T : TAD) : TID := fun τ M R W => T τ M (fun ds M1 => match ds with
  | [.tup xs] => R (enumD 0 xs) M1
  | _ => False) W
theorem di_enumT (hm : X.mg "enumerate" = none) (ha : DAs X E [e] Ta) (hg : Gl X "enumerate" := by rfl) (hs : starEach [e] X.env = [(false, eval e X.env)] := by rfl) :
    DI X E (.Tuple elts kk tpos) (.Call (.Name "enumerate" p) [e] [] pos) (dEnumT Ta) := by
  refine ⟨(pi_enumT hg hm ha.p hs).imp fun σ H R ⟨F, M, G, τ, Rd, W, rs, rep, h, k, kx⟩ => ?_⟩
  refine ⟨F, M, G, τ, _, W, rs, rep, h, fun ds M1 F1 H1 vs q s1 rep1 r1 => ?_, kx⟩
  dsimp only at q
  split at q
  · cases r1 with
    | cons r1 r2 =>
    cases r2
    cases r1 with
    | tup t1 v1 =>
    exact ⟨_, _, rfl, Same.sqT rep1.fz t1, k _ M1 F1 H1 _ q s1 rep1 fun G' => itok_enumT v1 t1⟩
  · exact q.elim
end
end RS

set_option maxRecDepth 100000
set_option maxHeartbeats 4000000
namespace RS
open PySem PySem.Spec PyProof.Rows L2 NdefX He PySem.W
variable [Tbls]
/-! ### a for over what could change, but does not (C says so) -/
def dLoopC (C : MS → Prop) (tg : TGD) (tb : TSD) (N : EndsD) : List D → SD → MS → Prop
  | [], τ, M => N.nx τ M
  | d :: r, τ, M => tg d τ M (fun τ1 M1 => tb { N with nx := fun τ2 M2 => C M2 ∧ dLoopC C tg tb N r τ2 M2, ct := fun τ2 M2 => C M2 ∧ dLoopC C tg tb N r τ2 M2, bk := N.nx } τ1 M1) N.ex
def dForC (ti : TIDC) (tg : TGD) (tb : TSD) : TSD := fun N τ M => ti τ M (fun ds C M1 => dLoopC C tg tb N ds τ M1) (N.ex τ)
section
variable {X : Cx} {E : L2.St → XK} {pos p tpos : Pos} {tg iter c e : Expr} {body : List Stmt} {ti : TIDC} {g : TGD} {tb : TSD} {elts : List Expr} {kk : Nat} {Ta : TAD}
theorem ds_forC (hp : PassesOwn (model X.prog X.w) X.A X.env X.xe) (hc : X.calm = true) (hi : DIC X E tg iter ti) (hg : DG X E tg g) (hb : DSs X E body tb) (hs : ∀ x, foldedSetIterable iter X.env x = pure x := by intro _; rfl) : DS X E (.For tg iter body [] pos) (dForC ti g tb) := by
  refine ⟨(ps_for hp hc hi.p hg.p hb.p hs).imp fun D σ H ⟨F, M, G, τ, N, rs, rep, h, lk⟩ => ?_⟩
  refine ⟨F, M, G, τ, _, _, rs, rep, h, fun ds C M1 F1 H1 J q s1 rep1 ck1 ok => ?_, lk.ex.at rs⟩
  have ok := ok G
  refine ⟨fun i m σ H => m = ds.length - i ∧ i ≤ ds.length ∧ ∃ F2 M2 τ2, L2.Same F1 F2 ∧ Rs X.K F2 σ τ2 ∧ Rep X.K F2 M2 G H ∧ C M2 ∧ dLoopC C g tb N (ds.drop i) τ2 M2, ⟨_, rfl, Nat.zero_le _, F1, M1, τ, L2.Same.refl F1, rs.mono s1, rep1, ck1, q⟩, ?_⟩
  rintro i m σ2 H2 ⟨rfl, hi, F2, M2, τ2, s2, rs2, rep2, ck2, q2⟩
  obtain ⟨o1, o2⟩ := ok i F2 M2 H2 s2 rep2 ck2 hi
  by_cases hlt : i < ds.length
  · obtain ⟨go, yld⟩ := o2 hlt
    refine .inr ⟨go, fun σ' H' => ∃ F3 M3 τ3, L2.Same F1 F3 ∧ Rs X.K F3 σ' τ3 ∧ Rep X.K F3 M3 G H' ∧ C M3 ∧ dLoopC C g tb N (ds.drop (i + 1)) τ3 M3, fun σ' H' z => ⟨ds.length - (i + 1), by omega, rfl, hlt, z⟩, fun x H' y => ?_⟩
    obtain ⟨F3, d, s3, rep3, e, r⟩ := yld x H' y
    have ed : ds.drop i = d :: ds.drop (i + 1) := by
      obtain ⟨h1, h2⟩ := List.getElem?_eq_some_iff.mp e
      rw [List.drop_eq_getElem_cons hlt, h2]
    rw [ed] at q2
    have s13 := s2.trans s3
    refine ⟨F3, M2, G, τ2, d, _, N.ex, r, rs2.mono s3, rep3, q2, fun σ4 τ4 M4 F4 H4 q4 s4 rep4 rs4 => ?_, lk.ex.le (s1.trans s13)⟩
    have s14 := s13.trans s4
    refine ⟨F4, M4, G, τ4, _, rs4, rep4, q4, ⟨?_, lk.rt.le (s1.trans s14), lk.nx.le (s1.trans s14), ?_, lk.ex.le (s1.trans s14)⟩⟩
    · exact fun σ5 τ5 M5 F5 H5 q5 s5 rep5 rs5 => ⟨F5, M5, τ5, s14.trans s5, rs5, rep5, q5.1, q5.2⟩
    · exact fun σ5 τ5 M5 F5 H5 q5 s5 rep5 rs5 => ⟨F5, M5, τ5, s14.trans s5, rs5, rep5, q5.1, q5.2⟩
  · have e : i = ds.length := by omega
    refine .inl ⟨o1 e, ?_⟩
    rw [e, List.drop_length] at q2
    exact lk.nx _ _ _ F2 _ q2 (s1.trans s2) rep2 rs2
/-- enumerate of a list that could change -/
def dEnumC (T : TAD) : TIDC := fun τ M R W => T τ M (fun ds M1 => match ds with
  | [d] => (match d with
    | .lst xs => R (enumD 0 xs) (chk none xs) M1
    | .ref a => (match M1 a with
      | some (.lst xs) => R (enumD 0 xs) (chk (some a) xs) M1
      | _ => False)
    | _ => False)
  | _ => False) W
theorem dic_enum (hm : X.mg "enumerate" = none) (ha : DAs X E [e] Ta) (hg : Gl X "enumerate" := by rfl) (hs : starEach [e] X.env = [(false, eval e X.env)] := by rfl) :
    DIC X E (.Tuple elts kk tpos) (.Call (.Name "enumerate" p) [e] [] pos) (dEnumC Ta) := by
  refine ⟨(pi_enum hg hm ha.p hs).imp fun σ H R ⟨F, M, G, τ, Rd, W, rs, rep, h, k, kx⟩ => ?_⟩
  refine ⟨F, M, G, τ, _, W, rs, rep, h, fun ds M1 F1 H1 vs q s1 rep1 r1 => ?_, kx⟩
  dsimp only at q
  split at q
  · rename_i d
    cases r1 with
    | cons r1 r2 =>
    cases r2
    split at q
    · cases r1 with
      | lst t1 v1 =>
      exact ⟨_, _, rfl, SqL.of (rep1.fz _ _ t1), k _ _ M1 F1 H1 _ q s1 rep1 trivial fun G' i F' M' H' s rep' _ hi => itok_enumL v1 t1 i F' M' H' s rep' hi⟩
    · rename_i a
      cases r1
      split at q
      · rename_i xs em
        obtain ⟨vs0, e0, rr0⟩ := rep1.lst em
        refine ⟨_, _, rfl, SqL.of e0, k _ _ M1 F1 H1 _ q s1 rep1 em fun G' i F' M' H' s rep' ck' hi => ?_⟩
        obtain ⟨vs, ev, rr⟩ := rep'.lst (show M' a = some (.lst xs) from ck')
        have hl := rr.len
        rw [enumD_len] at hi ⊢
        refine ⟨fun ei => ⟨vs, SqL.of ev, by omega⟩, fun hlt => ?_⟩
        have ex : vs[i]? = some (vs[i]'(by omega)) := List.getElem?_eq_getElem _
        obtain ⟨d, q1, r⟩ := rr.at ex
        refine ⟨⟨vs, _, SqL.of ev, ex⟩, fun v H'' ⟨T, x, hv, hT, hH, hx⟩ => ?_⟩
        subst hv hH
        have h1 := hx vs (SqL.of ev)
        rw [ex] at h1
        cases h1
        obtain ⟨rep2, s2⟩ := rep'.newF (o := .tup [.int (i : Nat), vs[i]'(by omega)]) hT
        refine ⟨_, _, s2, rep2, enumD_at q1, .tup (SqT.of upd_same) (.cons ?_ (.cons (r.mono s2) .nil))⟩
        have : ((0 + i : Nat) : Int) = (i : Int) := by omega
        rw [this]
        exact .int _
      · exact q.elim
    · exact q.elim
  · exact q.elim
theorem DIC.or {t1 t2 : TIDC} (h1 : DIC X E tg iter t1) (h2 : DIC X E tg iter t2) : DIC X E tg iter (fun τ M R W => t1 τ M R W ∨ t2 τ M R W) :=
  ⟨⟨fun pins s σ H R I ⟨F, M, G, τ, Rd, W, rs, rep, h, k, kx⟩ => h.elim (fun h => h1.p.run pins s σ H R I ⟨F, M, G, τ, Rd, W, rs, rep, h, k, kx⟩) fun h => h2.p.run pins s σ H R I ⟨F, M, G, τ, Rd, W, rs, rep, h, k, kx⟩⟩⟩
theorem DI.toC {t : TID} (h : DI X E tg iter t) : DIC X E tg iter (fun τ M R W => t τ M (fun ds M1 => R ds (fun _ => True) M1) W) :=
  ⟨h.p.imp fun σ H R ⟨F, M, G, τ, Rd, W, rs, rep, q, k, kx⟩ => ⟨F, M, G, τ, _, W, rs, rep, q, fun ds M1 F1 H1 J q1 s1 rep1 ok => k ds _ M1 F1 H1 J q1 s1 rep1 trivial fun G' i F' M' H s rep _ hi => ok G' i F' M' H s rep hi, kx⟩⟩
/-- enumerate of a tuple, or of a list that could change -/
def dEnum2 (T : TAD) : TIDC := fun τ M R W => dEnumC T τ M R W ∨ dEnumT T τ M (fun ds M1 => R ds (fun _ => True) M1) W
theorem dic_enum2 (hm : X.mg "enumerate" = none) (ha : DAs X E [e] Ta) (hg : Gl X "enumerate" := by rfl) (hs : starEach [e] X.env = [(false, eval e X.env)] := by rfl) :
    DIC X E (.Tuple elts kk tpos) (.Call (.Name "enumerate" p) [e] [] pos) (dEnum2 Ta) := DIC.or (dic_enum hm ha hg hs) (DI.toC (di_enumT hm ha hg hs))
end
theorem dLoopC_ind {C : MS → Prop} {tg : TGD} {tb : TSD} {N : EndsD} (I : List D → SD → MS → Prop) {xs : List D} {τ : SD} {M : MS} (h0 : I xs τ M)
    (hs : ∀ d r τ M, I (d :: r) τ M → (∀ τ' M', I r τ' M' → C M' → C M' ∧ dLoopC C tg tb N r τ' M') → dLoopC C tg tb N (d :: r) τ M) (he : ∀ τ M, I [] τ M → N.nx τ M) : dLoopC C tg tb N xs τ M := by
  induction xs generalizing τ M with
  | nil => exact he τ M h0
  | cons d r ih => exact hs d r τ M h0 fun τ' M' h c => ⟨c, ih h⟩
end RS

set_option maxRecDepth 100000
set_option maxHeartbeats 4000000
namespace RS
open PySem PySem.Spec PyProof.Rows L2 NdefX He PySem.W
/-! ### max(xs), min(xs) of a list of ints -/
def mxN (f : Nat → Int) : Nat → Int
  | 0 => f 0
  | k + 1 => if f (k + 1) > mxN f k then f (k + 1) else mxN f k
theorem best_mx (f : Nat → Int) : ∀ k, f (argBest (fun i j => decide (f i > f j)) k) = mxN f k
  | 0 => rfl
  | k + 1 => by
    have ih := best_mx f k
    unfold argBest mxN
    rw [← ih]
    by_cases h : f (k + 1) > f (argBest (fun i j => decide (f i > f j)) k)
    · rw [if_pos (by simpa using h), if_pos h]
    · rw [if_neg (by simpa using h), if_neg h]
theorem mxN_up (f : Nat → Int) : ∀ k i, i ≤ k → f i ≤ mxN f k
  | 0, i, h => by
    obtain rfl : i = 0 := by omega
    exact Int.le_refl _
  | k + 1, i, h => by
    have ih := mxN_up f k
    unfold mxN
    split
    · rcases Nat.lt_or_eq_of_le h with h | rfl
      · have := ih i (by omega)
        omega
      · exact Int.le_refl _
    · rcases Nat.lt_or_eq_of_le h with h | rfl
      · exact ih i (by omega)
      · omega
theorem mxN_in (f : Nat → Int) : ∀ k, ∃ i, i ≤ k ∧ mxN f k = f i
  | 0 => ⟨0, Nat.le_refl _, rfl⟩
  | k + 1 => by
    obtain ⟨i, h, e⟩ := mxN_in f k
    unfold mxN
    split
    · exact ⟨k + 1, Nat.le_refl _, rfl⟩
    · exact ⟨i, by omega, e⟩
theorem best_mn (f : Nat → Int) : ∀ k, f (argBest (fun i j => decide (f i < f j)) k) = - mxN (fun i => - f i) k
  | 0 => by show f 0 = - - f 0; omega
  | k + 1 => by
    have ih := best_mn f k
    unfold argBest mxN
    by_cases h : f (k + 1) < f (argBest (fun i j => decide (f i < f j)) k)
    · rw [if_pos (by simpa using h), if_pos (by omega)]
      omega
    · rw [if_neg (by simpa using h), if_neg (by omega)]
      exact ih
theorem vals_intsM {us : List Value} : ∀ {is : List Int}, Vals (is.map V.int) us → ∀ (i : Nat) (v : Value), us[i]? = some v → ∃ t, v = Value.int (is.getD i 0) t := by
  induction us with
  | nil => intro is _ i v h; simp at h
  | cons u us ih =>
    intro is r i v h
    cases is with
    | nil => cases r
    | cons z is =>
      cases r with
      | cons r1 r2 =>
      cases i with
      | zero =>
        simp at h
        subst h
        obtain ⟨t, e⟩ := r1
        exact ⟨t, e⟩
      | succ i =>
        obtain ⟨t, e⟩ := ih r2 i v (by simpa using h)
        exact ⟨t, by simpa using e⟩
def rMaxI (K : PySem.W.Frag) : List V → Hp → VK → Prop := fun vs H Q => ∃ (p : Addr) (is : List Int) (z : Int), vs = [.ref p] ∧ SqL K H p (is.map V.int) ∧ z ∈ is ∧ (∀ y ∈ is, y ≤ z) ∧ Q (.int z) H
def rMinI (K : PySem.W.Frag) : List V → Hp → VK → Prop := fun vs H Q => ∃ (p : Addr) (is : List Int) (z : Int), vs = [.ref p] ∧ SqL K H p (is.map V.int) ∧ z ∈ is ∧ (∀ y ∈ is, z ≤ y) ∧ Q (.int z) H
theorem getD_mem {is : List Int} {i : Nat} (h : i < is.length) : is.getD i 0 ∈ is := by
  rw [List.getD_eq_getElem?_getD, List.getElem?_eq_getElem h]
  exact List.getElem_mem h
theorem mem_getD {is : List Int} {z : Int} (h : z ∈ is) : ∃ i, i < is.length ∧ is.getD i 0 = z := by
  obtain ⟨i, e⟩ := List.mem_iff_getElem?.mp h
  refine ⟨i, (List.getElem?_eq_some_iff.mp e).1, ?_⟩
  rw [List.getD_eq_getElem?_getD, e]
  rfl
variable {X : Cx}
theorem call_maxI (hc : X.calm = true) : CallR X (.builtin "max") (rMaxI X.K) := by
  intro pins s σ H vs us Q I r h
  obtain ⟨p, is, z, rfl, hs, hz, hu, q⟩ := h
  obtain ⟨its, rv, hl, _⟩ := I.list hs
  rw [Vals.ref1 r]
  have ln : its.length = is.length := by rw [← rv.length, List.length_map]
  have pos : 0 < is.length := List.length_pos_of_mem hz
  have hv := vals_intsM rv
  refine call_max_walk (iter_anyList hl.isList fun s₂ e st hfp hlI => ?_)
  subst e
  refine ⟨_, _, _, _, _, _, _, rfl, Walks.list (A := X.A.in1) (I.ok.hd hc) _ p hlI its.toArray, st, hfp, by simp; omega, CmpOf.ints_gt (fun i => is.getD i 0) (fun i v hP => hv i v (by simpa using hP)), fun v h' tk hP hk => ?_⟩
  obtain ⟨t, rfl⟩ := hv (argBest (fun i j => decide (is.getD i 0 > is.getD j 0)) (its.toArray.size - 1)) v (by have h9 := hP; rw [List.getElem?_toArray] at h9; exact h9)
  have e1 := best_mx (fun i => is.getD i 0) (its.toArray.size - 1)
  have e2 : mxN (fun i => is.getD i 0) (its.toArray.size - 1) = z := by
    obtain ⟨i, hi, ei⟩ := mxN_in (fun i => is.getD i 0) (its.toArray.size - 1)
    have b1 : mxN (fun i => is.getD i 0) (its.toArray.size - 1) ≤ z := by
      rw [ei]
      exact hu _ (getD_mem (by simp at hi; omega))
    obtain ⟨j, hj, ej⟩ := mem_getD hz
    have b2 := mxN_up (fun i => is.getD i 0) (its.toArray.size - 1) j (by simp; omega)
    have b3 : is.getD j 0 ≤ mxN (fun i => is.getD i 0) (its.toArray.size - 1) := b2
    rw [ej] at b3
    omega
  have e3 : is.getD (argBest (fun i j => decide (is.getD i 0 > is.getD j 0)) (its.toArray.size - 1)) 0 = z := e1.trans e2
  rw [e3]
  exact ⟨.int z, H, I.kept (PySem.old_kept hk), (⟨t, rfl⟩ : ∃ t2, Value.int z t = Value.int z t2), q⟩
theorem call_minI (hc : X.calm = true) : CallR X (.builtin "min") (rMinI X.K) := by
  intro pins s σ H vs us Q I r h
  obtain ⟨p, is, z, rfl, hs, hz, hu, q⟩ := h
  obtain ⟨its, rv, hl, _⟩ := I.list hs
  rw [Vals.ref1 r]
  have ln : its.length = is.length := by rw [← rv.length, List.length_map]
  have pos : 0 < is.length := List.length_pos_of_mem hz
  have hv := vals_intsM rv
  refine call_min_walk (iter_anyList hl.isList fun s₂ e st hfp hlI => ?_)
  subst e
  refine ⟨_, _, _, _, _, _, _, rfl, Walks.list (A := X.A.in1) (I.ok.hd hc) _ p hlI its.toArray, st, hfp, by simp; omega, CmpOf.ints_lt (fun i => is.getD i 0) (fun i v hP => hv i v (by simpa using hP)), fun v h' tk hP hk => ?_⟩
  obtain ⟨t, rfl⟩ := hv (argBest (fun i j => decide (is.getD i 0 < is.getD j 0)) (its.toArray.size - 1)) v (by have h9 := hP; rw [List.getElem?_toArray] at h9; exact h9)
  have e1 := best_mn (fun i => is.getD i 0) (its.toArray.size - 1)
  have e2 : - mxN (fun i => - is.getD i 0) (its.toArray.size - 1) = z := by
    obtain ⟨i, hi, ei⟩ := mxN_in (fun i => - is.getD i 0) (its.toArray.size - 1)
    have b1 : z ≤ - mxN (fun i => - is.getD i 0) (its.toArray.size - 1) := by
      rw [ei]
      have := hu _ (getD_mem (is := is) (i := i) (by simp at hi; omega))
      omega
    obtain ⟨j, hj, ej⟩ := mem_getD hz
    have b2 := mxN_up (fun i => - is.getD i 0) (its.toArray.size - 1) j (by simp; omega)
    have b3 : - is.getD j 0 ≤ mxN (fun i => - is.getD i 0) (its.toArray.size - 1) := b2
    rw [ej] at b3
    omega
  have e3 : is.getD (argBest (fun i j => decide (is.getD i 0 < is.getD j 0)) (its.toArray.size - 1)) 0 = z := e1.trans e2
  rw [e3]
  exact ⟨.int z, H, I.kept (PySem.old_kept hk), (⟨t, rfl⟩ : ∃ t2, Value.int z t = Value.int z t2), q⟩
/-! ### over data -/
variable [Tbls]
def dMaxI (ds : List D) (M : MS) (R : D → MS → Prop) : Prop := match ds with
  | [d] => (match vw M d with
    | .lst xs => ∃ (is : List Int) (z : Int), xs = is.map D.int ∧ z ∈ is ∧ (∀ y ∈ is, y ≤ z) ∧ R (.int z) M
    | _ => False)
  | _ => False
def dMinI (ds : List D) (M : MS) (R : D → MS → Prop) : Prop := match ds with
  | [d] => (match vw M d with
    | .lst xs => ∃ (is : List Int) (z : Int), xs = is.map D.int ∧ z ∈ is ∧ (∀ y ∈ is, z ≤ y) ∧ R (.int z) M
    | _ => False)
  | _ => False
theorem rvs_ints {K : Frg} {F : Hp} : ∀ {vs : List V} {is : List Int}, Rvs K F vs (is.map D.int) → vs = is.map V.int
  | _, [], .nil => rfl
  | _, i :: is, .cons r rs => by cases r; rw [rvs_ints rs]; rfl
theorem rc_maxI {K : Frg} : RC K (rMaxI K) dMaxI := fun F M G H vs ds R Q r rep h k => by
  unfold dMaxI at h
  split at h
  · cases r with
    | cons r1 r2 =>
    cases r2
    split at h
    · rename_i xs e
      obtain ⟨is, z, rfl, hz, hu, h⟩ := h
      obtain ⟨a, vs, rfl, h1, rr⟩ := vw_lst rep r1 e
      cases rvs_ints rr
      exact ⟨_, is, z, rfl, SqL.of h1, hz, hu, k _ M F H _ h (L2.Same.refl F) rep (.int _)⟩
    · exact h.elim
  · exact h.elim
theorem rc_minI {K : Frg} : RC K (rMinI K) dMinI := fun F M G H vs ds R Q r rep h k => by
  unfold dMinI at h
  split at h
  · cases r with
    | cons r1 r2 =>
    cases r2
    split at h
    · rename_i xs e
      obtain ⟨is, z, rfl, hz, hu, h⟩ := h
      obtain ⟨a, vs, rfl, h1, rr⟩ := vw_lst rep r1 e
      cases rvs_ints rr
      exact ⟨_, is, z, rfl, SqL.of h1, hz, hu, k _ M F H _ h (L2.Same.refl F) rep (.int _)⟩
    · exact h.elim
  · exact h.elim
def dMax2 (ds : List D) (M : MS) (R : D → MS → Prop) : Prop := match ds with
  | [.int i, .int j] => R (.int (if j > i then j else i)) M
  | _ => False
def dMin2 (ds : List D) (M : MS) (R : D → MS → Prop) : Prop := match ds with
  | [.int i, .int j] => R (.int (if j < i then j else i)) M
  | _ => False
theorem rc_max2 {K : Frg} : RC K (fun xs H Q => ∃ i j, xs = [.int i, .int j] ∧ Q (.int (if j > i then j else i)) H) dMax2 := fun F M G H vs ds R Q r rep h k => by
  unfold dMax2 at h
  split at h
  · cases r with
    | cons r1 r2 =>
    cases r2 with
    | cons r2 r3 =>
    cases r3
    cases r1
    cases r2
    exact ⟨_, _, rfl, k _ M F H _ h (L2.Same.refl F) rep (.int _)⟩
  · exact h.elim
theorem rc_min2 {K : Frg} : RC K (fun xs H Q => ∃ i j, xs = [.int i, .int j] ∧ Q (.int (if j < i then j else i)) H) dMin2 := fun F M G H vs ds R Q r rep h k => by
  unfold dMin2 at h
  split at h
  · cases r with
    | cons r1 r2 =>
    cases r2 with
    | cons r2 r3 =>
    cases r3
    cases r1
    cases r2
    exact ⟨_, _, rfl, k _ M F H _ h (L2.Same.refl F) rep (.int _)⟩
  · exact h.elim
end RS

set_option maxRecDepth 100000
set_option maxHeartbeats 4000000
namespace RS
open PySem PySem.Spec PyProof.Rows L2 NdefX He PySem.W
variable [Tbls]
section
variable {X : Cx} {CX : CXT} {lv : Nat} {C : Addr} {ps : List Str} {E : L2.St → XK} {x : Str} {p pos : Pos} {S : SpD} {dvs : List V} {dds : List D}
/-- C(), an instance made without arguments -/
theorem de_mk0 (F : Mkr X.prog X.w X.K X.mg X.base CX lv x C ps dvs (upSp X.K S)) (dd : Dfl X.K dvs dds) (hr : Room (lv + 1) X.A) (hx : ∀ σ, PassesAt CX X σ (E σ)) (hg : Gl X x := by rfl) (hdb : (x == ("__debug__" : Str)) = false := by decide) : DE X E (.Call (.Name x p) [] [] pos) (dMake C S dds dNil) := by
  obtain ⟨f, fd, dsv, FO, MK, hm, v, b⟩ := F.ex
  refine ⟨⟨fun pins s σ H Q I ⟨F, M, G, τ, R, W, rs, rep, h, k, kx⟩ => ?_⟩⟩
  refine wpAny_Call_Name_kw (ld_glob I hg hm ?_ hdb)
  refine PySem.W.callWith_K0 I.kIn MK.kp ?_
  refine run_makeD (us := []) (vs := []) (es' := []) MK FO hr b v dd (hx σ) I .nil .nil rep k kx h (fun p d M2 z => ?_) fun p C' fs M2 z => .inl z
  obtain ⟨z1, z2⟩ := z
  refine ⟨by cases d <;> first | rfl | exact z1.elim, .inr ?_⟩
  split at z2
  · rename_i m em
    exact ⟨m, em, z2⟩
  · exact z2.elim
theorem de_mkM0 (F : Mkr X.prog X.w X.K X.mg X.base CX lv x C ps dvs (upSp X.K S)) (dd : Dfl X.K dvs dds) (hr : Room (lv + 1) X.A) (hx : ∀ σ, PassesAt CX X σ (E σ)) (hg : Gl X x := by rfl) (hdb : (x == ("__debug__" : Str)) = false := by decide) : DE X E (.Call (.Name x p) [] [] pos) (dMakeM C S dds dNil) := by
  obtain ⟨f, fd, dsv, FO, MK, hm, v, b⟩ := F.ex
  refine ⟨⟨fun pins s σ H Q I ⟨F, M, G, τ, R, W, rs, rep, h, k, kx⟩ => ?_⟩⟩
  refine wpAny_Call_Name_kw (ld_glob I hg hm ?_ hdb)
  refine PySem.W.callWith_K0 I.kIn MK.kp ?_
  refine run_makeD (us := []) (vs := []) (es' := []) (W2 := fun _ => W) MK FO hr b v dd (hx σ) I .nil .nil rep k kx h (fun p d M2 z => ?_) fun p C' fs M2 z => .inr z
  obtain ⟨z1, z2⟩ := z
  exact ⟨by cases d <;> first | rfl | exact z1.elim, .inl z2⟩
end
end RS

set_option maxRecDepth 100000
set_option maxHeartbeats 4000000
/-! ### exceptions of which it is known that nothing was handled when they were raised -/
namespace RS
open PySem PySem.Spec PyProof.Rows L2 NdefX He PySem.W
section
variable {X : Cx} {x : Str} {C : Addr} {names : List Str} {e : Expr} {es : List Expr} {ta : TA} {p pos : Pos}
theorem pmk_exN (Z : Exk X.prog X.w X.K X.mg X.base x C names) (hr : Room 2 X.A) (ha : PA X (e :: es) ta) (hg : Gl X x := by rfl)
    (hdb : (x == ("__debug__" : Str)) = false := by decide) (he : starEach (e :: es) X.env = (false, eval e X.env) :: starEach es X.env := by rfl) (hpl : (backTo pos (starEach es X.env)).any (·.1) = false := by rfl) :
    L2N.PMk X (.Call (.Name x p) (e :: es) [] pos) (tMkO C (spEx C names) [] ta) := by
  obtain ⟨fI, fd, ps, F1, hb, iC, tI⟩ := Z.ex
  have T := Z.T.sup.ox
  intro pins s σ H Q I h
  obtain ⟨nm, q, N, bs, bm, sn, sub, ab, col, dd, k0, k1, k2, k3, k5, hC, hbm⟩ := T.cls
  refine wpAny_Call_Name_kw (ld_glob I hg Z.g ?_ hdb)
  refine PySem.W.callWith_K (h₀ := X.base) I.ok.mod.kin T.kC (thn (ha.run pos pins s σ H _ I h) fun us s1 ⟨vs, H1, I1, r1, hz, q1⟩ => ⟨I1.kIn, ?_⟩) he hpl
  show wpAny _ _ (call (.ref C) us) _ _ _
  obtain ⟨hp, g, dr, tk, os⟩ := s1
  have hsz : hp.objs.size ≤ hp.objs.size + 1 := Nat.le_succ _
  have hn : H1 (hp.objs.size + 1) = none := I1.hok.fresh hsz
  have hq := q1 (hp.objs.size + 1) hn
  have kk : ∀ b o, hp.get? b = some o → ((hp.push (PySem.W.kdv_tup us)).push (PySem.HandSPX.excO C hp.objs.size)).get? b = some o := fun b o e => Heap.get?_push_of_some _ (Heap.get?_push_of_some _ e)
  have hget : ((hp.push (PySem.W.kdv_tup us)).push (PySem.HandSPX.excO C hp.objs.size)).get? (hp.objs.size + 1) = some (PySem.HandSPX.excO C hp.objs.size) := by heap_get
  have I2 : Inv X pins σ (upd H1 (hp.objs.size + 1) (exo (hp.objs.size + 1) C none)) ⟨(hp.push (PySem.W.kdv_tup us)).push (PySem.HandSPX.excO C hp.objs.size), g, dr, tk, os⟩ :=
    I1.laid (t' := tk) (a := hp.objs.size + 1) (o := exo (hp.objs.size + 1) C none) (h' := (hp.push (PySem.W.kdv_tup us)).push (PySem.HandSPX.excO C hp.objs.size)) kk hsz (exo_ok hget)
  have r2 : Vals (V.ref (hp.objs.size + 1) :: (vs ++ [])) (Value.ref (hp.objs.size + 1) :: (us ++ [])) := .cons rfl (r1.append .nil)
  have hl : (Value.ref (hp.objs.size + 1) :: us ++ []).length = ps.length := by
    have e := r2.length
    rw [F1.len _ _ _ _ hq] at e
    exact e.symm
  have b2 : BindsTo (⟨(hp.push (PySem.W.kdv_tup us)).push (PySem.HandSPX.excO C hp.objs.size), g, dr, tk, os⟩ : Shared) fd ⟨Value.ref (hp.objs.size + 1) :: us, []⟩ (ps.zip (Value.ref (hp.objs.size + 1) :: (us ++ []))) := hb _ (Value.ref (hp.objs.size + 1) :: us) I2.kIn hl
  have hus : us.length ≤ sizeLine := by
    rw [← Paired.length r1, sizeLine_eq]
    omega
  refine wpAny_call (PySem.HandSPX.call_own F.excBase_ValueError (fun Y => PySem.HandSPX.refsVE_contains Y bm hbm) (I1.kIn _ _ hC) (PySem.W.looks_findIn I1.kIn iC) (fun self => PySem.W.bind_fn I1.kIn self tI) hus
    (codeAny_mono (F1.run _ X.stack _ _ ⟨Value.ref (hp.objs.size + 1) :: us, []⟩ (Value.ref (hp.objs.size + 1) :: (us ++ [])) _ _ (fun _ _ _ => False) (hr.make C us []) (I2.env0.make C us []) b2 r2 hq) fun r s' hq' => ?_))
  cases r with
  | error er => exact pass0 pins σ _ _ er s' I2 hq'
  | ok fl =>
    cases fl with
    | ret u =>
      obtain ⟨v, H2, os2, bare2, un2, hok2, rv, ev, d, fs, ea, ed, hd1, q2⟩ := hq'
      subst ev
      obtain ⟨h2, g2, d2, t2, os'⟩ := s'
      obtain ⟨t0, G, J, kG, ge, hoe, na⟩ := mk_end0 (d2 := d2) (t2 := t2) I1 hsz kk un2 hok2 os2 bare2 ea ed hd1
      refine ⟨rv, ⟨hp.objs.size + 1, _, _, ⟨G, g2, d2, t2, os'⟩, _, .ref C, some d, rfl, J, kG, ge, hoe, ⟨rfl, rfl, fun vs hv => ?_⟩, rfl, rfl, na, rfl, bare2, raises_own T.exC T.tyC, q2⟩⟩
      cases hv
      rfl
    | next => exact False.elim hq'
    | brk => exact False.elim hq'
    | cont => exact False.elim hq'
end
/-! ### min of a list of ints in an except suite -/
section
open L2H HotX
theorem list_end_hot {prog : Program} {w : World} {A : Around} {E : Value → Shared → Prop} {s : Shared} {it l x1 : Addr} {i : Nat} {items : Array Value} {Q : Option Value → Shared → Prop} (hot : HotAt A x1 s.heap) (hit : s.heap.IsListIter it l i) (hl : s.heap.IsList l items) (hx : items[i]? = none) (hne : x1 ≠ it)
    (hQ : ∀ h', Heap.ExtBut it s.heap h' → Q none { s with heap := h' }) : wpAny (model prog w) A (pyNext (.ref it)) Q E s := by
  obtain ⟨hh, o1, vs1, h1, d1, c1⟩ := hot
  obtain ⟨o, ho, hc, hd⟩ := id hit
  obtain ⟨ol, hol, _, nl, hdl⟩ := hl
  unfold pyNext
  refine wpAny_bind (wpAny_attempt (wpAny_callSpecial?_slot (name := Str.ofString "__next__") hit.typeIs slot_listiter_next
    (wpAny_call_entry slot_listiter_next hit.typeIs entry_listiter_next ?_ (args_listiter_next _))))
  show wpAny _ _ (field (.ref it) 0 >>= _) _ _ s
  refine wpAny_bind (wpAny_field ho hd (x := .ref l) rfl ?_)
  show wpAny _ _ (if (Value.ref l == Value.none) = true then _ else _) _ _ s
  rw [if_neg (show ¬ ((Value.ref l == Value.none) = true) from Bool.false_ne_true)]
  show wpAny _ _ (field (.ref it) 1 >>= _) _ _ s
  refine wpAny_bind (wpAny_field ho hd (x := .int i 0) rfl ?_)
  show wpAny _ _ (seqItems? (.ref l) >>= _) _ _ s
  refine wpAny_bind (wpAny_seqItems hol hdl ?_)
  simp only [Int.toNat_natCast, hx]
  refine wpAny_bind (wpAny_rule (wpAny_bind (wpAny_setField ho hd (by simp) ?_)))
  show wpAny _ _ (newExc (.type "StopIteration") [] >>= _) _ _ _
  refine wpAny_bind ?_
  simp only [newExc, newTuple]
  refine wpAny_bind (wpAny_newObj_type ?_ (by size_fits))
  refine wpAny_bind (m := firstArgMember _ _) (wpAny_of_eq (a := Value.none) (by first | rfl | (simp only [firstArgMember]; rfl)) ?_)
  refine wpAny_newObj_type ?_ (by size_fits)
  have h1' : (s.heap.update it (Obj.mapFields (·.setIfInBounds 0 Value.none))).get? x1 = some o1 := by rw [Heap.get?_update_other _ _ (Ne.symm hne)]; exact h1
  refine raiseNew_hot ⟨hh, o1, vs1, Heap.get?_push_of_some _ (Heap.get?_push_of_some _ h1'), d1, c1⟩ (Nat.ne_of_lt (Heap.lt_size (Heap.get?_push_of_some _ h1'))) (Heap.get?_push_size _ rfl) rfl (by first | (simp; done) | (simp; omega) | (simp only [Array.size_append]; simp; omega)) ?_
  refine wpAny_bind (wpAny_isInstance (T := "StopIteration") (b := true) ⟨_, Heap.get?_update_self _ (Heap.get?_push_size _ rfl) rfl, rfl⟩ isSubtype_stop ?_)
  refine wpAny_pure (hQ _ fun b o hb e => ?_)
  have e' : (s.heap.update it (Obj.mapFields (·.setIfInBounds 0 Value.none))).get? b = some o := by rw [Heap.get?_update_other _ _ (Ne.symm hb)]; exact e
  rw [Heap.get?_update_other _ _ (Nat.ne_of_gt (Heap.lt_size (Heap.get?_push_of_some _ e')))]
  exact Heap.get?_push_of_some _ (Heap.get?_push_of_some _ e')
theorem walks_listHot {prog : Program} {w : World} {A : Around} {x1 : Addr} (I ax : Addr) (hne : ax ≠ I) (hx1 : x1 ≠ I) (items : Array Value) :
    Walks prog w A I [I, ax, x1] [I] items.size (fun i v => items[i]? = some v) (fun i h => (h.IsListIter I ax i ∧ h.IsList ax items) ∧ HotAt A x1 h) where
  sub := fun b hb => by simp at hb; simp [hb]
  frame := fun _ _ _ st hk => ⟨⟨st.1.1.at fun o e => hk I (by simp) o e, st.1.2.at fun o e => hk ax (by simp) o e⟩, by
    obtain ⟨hh, o, vs, e, d, c⟩ := st.2
    exact ⟨hh, o, vs, hk x1 (by simp) o e, d, c⟩⟩
  item := fun i s Q E hi st hQ => by
    refine wpAny_pyNext_list_item st.1.1 st.1.2 (x := items[i]) (by simp [hi]) fun h' hit' hs' => ?_
    refine hQ _ h' s.toks (by simp [hi]) ⟨⟨hit', st.1.2.extBut hs'.extBut hne⟩, ?_⟩ fun b o hb e => hs'.extBut b o (fun h => hb (by simp [h])) e
    obtain ⟨hh, o, vs, e, d, c⟩ := st.2
    exact ⟨hh, o, vs, hs'.extBut x1 o hx1 e, d, c⟩
  done := fun s Q E st hQ => list_end_hot st.2 st.1.1 st.1.2 (by simp) hx1 fun h' he' => hQ h' s.toks fun b o hb e => he' b o (fun h => hb (by simp [h])) e
  self := fun _ _ _ _ st hQ => wpAny_pyIter_listiter st.1.1 hQ
theorem call_minIH {X : Cx} {a : Addr} {oe : Obj} {cls : Value} {d : Option Addr} {pn : List (Addr × Obj)} (hz : L2N.Zn cls d oe) (hf : ∃ vs, oe.data = .fields vs) : CallR (X.suite a ((a, oe) :: pn)) (.builtin "min") (rMinI X.K) := by
  intro pins s σ H vs us Q I r h
  obtain ⟨p, is, z, rfl, hs, hz2, hu, q⟩ := h
  obtain ⟨its, rv, hl, _⟩ := I.list hs
  rw [Vals.ref1 r]
  have ln : its.length = is.length := by rw [← rv.length, List.length_map]
  have pos : 0 < is.length := List.length_pos_of_mem hz2
  have hv := vals_intsM rv
  have hget := (I.pin (a, oe) (List.mem_append_left _ List.mem_cons_self)).1
  obtain ⟨fv, ef⟩ := hf
  refine call_min_walk (iter_anyList hl.isList fun s₂ e st hfp hlI => ?_)
  subst e
  have hlt : a < s.heap.objs.size := Heap.lt_size hget
  have hot : HotAt (X.suite a ((a, oe) :: pn)).A.in1 a (s.heap.push { cls := .type "list_iterator", data := .fields #[.ref p, .int 0 0] }) := ⟨rfl, oe, fv, Heap.get?_push_of_some _ hget, ef, hz.2.2 fv ef⟩
  refine ⟨_, _, _, _, _, _, _, rfl, walks_listHot (x1 := a) _ p hlI (Nat.ne_of_lt hlt) its.toArray, ⟨st, hot⟩, fun b hb => ?_, by simp; omega, CmpOf.ints_lt (fun i => is.getD i 0) (fun i v hP => hv i v (by simpa using hP)), fun v h' tk hP hk => ?_⟩
  · simp only [List.mem_cons, List.not_mem_nil, or_false] at hb
    rcases hb with rfl | rfl | rfl
    · exact hfp _ (by simp)
    · exact hfp _ (by simp)
    · show _ < (s.heap.push _).objs.size
      rw [Heap.size_push]
      exact Nat.lt_succ_of_lt hlt
  obtain ⟨t, rfl⟩ := hv (argBest (fun i j => decide (is.getD i 0 < is.getD j 0)) (its.toArray.size - 1)) v (by have h9 := hP; rw [List.getElem?_toArray] at h9; exact h9)
  have e1 := best_mn (fun i => is.getD i 0) (its.toArray.size - 1)
  have e2 : - mxN (fun i => - is.getD i 0) (its.toArray.size - 1) = z := by
    obtain ⟨i, hi, ei⟩ := mxN_in (fun i => - is.getD i 0) (its.toArray.size - 1)
    have b1 : z ≤ - mxN (fun i => - is.getD i 0) (its.toArray.size - 1) := by
      rw [ei]
      have := hu _ (getD_mem (is := is) (i := i) (by simp at hi; omega))
      omega
    obtain ⟨j, hj, ej⟩ := mem_getD hz2
    have b2 := mxN_up (fun i => - is.getD i 0) (its.toArray.size - 1) j (by simp; omega)
    have b3 : - is.getD j 0 ≤ mxN (fun i => - is.getD i 0) (its.toArray.size - 1) := b2
    rw [ej] at b3
    omega
  have e3 : is.getD (argBest (fun i j => decide (is.getD i 0 < is.getD j 0)) (its.toArray.size - 1)) 0 = z := e1.trans e2
  rw [e3]
  exact ⟨.int z, H, I.kept (PySem.old_kept hk), (⟨t, rfl⟩ : ∃ t2, Value.int z t = Value.int z t2), q⟩
end
end RS

set_option maxRecDepth 100000
set_option maxHeartbeats 4000000
namespace RS
open PySem PySem.Spec PyProof.Rows L2 NdefX He PySem.W
variable [Tbls]
theorem okDN {P : Program} {w : World} {K : Frg} {mg : Str → Option Value} {base : Heap} {x qual : Str} {params : Arguments} {body : List Stmt} {scope : Scope} {dvs : List V} {kws : List (Str × V)} {f : Addr} {fd : FuncData} {N ps : List Str} {k : Nat} {S : SpD}
    (F : FunD K x qual params body scope dvs kws f fd) (sc : FnScope N ps scope) (len : ∀ ds M R W, S ds M R W → ds.length = ps.length)
    (hbody : ∀ (cdv : Value) (A : Around) (outer : List Env) (s : Shared) (H : Hp) (E : XK), Room k (A.deeper (envOfC qual scope s.heap.objs.size f cdv)) →
      (∀ σ, PassesAt (L2N.CX P w) (cxOf (L2N.CX P w) P w K mg base N qual scope f cdv A outer s H E) σ E) → L2N.Takes (cxOf (L2N.CX P w) P w K mg base N qual scope f cdv A outer s H E) (fun c d _ H => E c d H) →
      ∃ T, DSs (cxOf (L2N.CX P w) P w K mg base N qual scope f cdv A outer s H E) (fun _ => E) body T ∧ ∀ ds M R W, S ds M R W → T { nx := fun _ M' => Rt R .non M', rt := Rt R, ex := fun _ => Wt W } (startD N ds) M) : FnOk P w K mg base (L2N.CX P w) (k + 1) f fd ps (upSp K S) := by
  refine F.ok sc (fun vs H Q E h => ?_) (fun cdv A outer s H vs Q E hr h => ?_)
  · obtain ⟨F, M, G, ds, R, W, r, rep, hs, _⟩ := h
    rw [r.len]
    exact len _ _ _ _ hs
  · obtain ⟨F, M, G, ds, R, W, r, rep, hs, k, kx⟩ := h
    have tk : L2N.Takes (cxOf (L2N.CX P w) P w K mg base N qual scope f cdv A outer s H E) (fun c d _ H => E c d H) := L2N.takes_of rfl rfl rfl rfl
    obtain ⟨T, hT, hw⟩ := hbody cdv A outer s H E hr (fun σ => L2N.passAt tk σ) tk
    refine ⟨_, hT.p, F, M, G, startD N ds, _, Rs.start r, rep, hw ds M R W hs, ⟨?_, ?_, ?_, ?_, ?_⟩⟩
    · exact fun σ' τ' M' F' H' ⟨M2, sb, q⟩ s rep' _ => k _ M2 F' H' _ q s (rep'.weak sb) .non
    · exact fun d M' F' H' v ⟨M2, sb, q⟩ s rep' r => k _ M2 F' H' v q s (rep'.weak sb) r
    · exact fun _ _ _ _ _ z => z.elim
    · exact fun _ _ _ _ _ z => z.elim
    · exact fun σ' τ' F' s _ C fs M' F2 H' a ⟨M2, sb, q⟩ s2 rep' r => kx C fs M2 F2 H' a q (s.trans s2) (rep'.weak sb) r
theorem passLN {X : Cx} : Passes (L2N.CX X.prog X.w) X E0 := fun _ _ _ _ _ _ _ h => by
  obtain ⟨_, _, _, _, _, _, _, _, _, _, _, _, z⟩ := h
  exact z.elim
theorem passLSN {X : Cx} : ∀ σ, PassesAt (L2N.CX X.prog X.w) X σ (E0' σ) := fun σ pins H s e s' _ h => by
  obtain ⟨_, _, _, _, _, _, _, _, _, _, _, _, z⟩ := h
  exact z.elim
theorem FnOk.toCX0N {P : Program} {w : World} {K : Frg} {mg : Str → Option Value} {base : Heap} {k : Nat} {f : Addr} {fd : FuncData} {ps : List Str} {sp : Sp} (F : FnOk P w K mg base (L2N.CX P w) k f fd ps sp) : FnOk P w K mg base CX0 k f fd ps (fun vs H Q _ => sp vs H Q E0) :=
  ⟨fun vs H Q E h => F.len vs H Q E0 h, fun A outer s H args us vs Q E hr he hb hv hs => codeAny_mono (F.run A outer s H args us vs Q E0 hr he hb hv hs) fun r s' h => by
    match r, h with
    | .error e, h =>
      obtain ⟨_, _, _, _, _, _, _, _, _, _, _, _, z⟩ := h
      exact z.elim
    | .ok (.ret u), h => exact h
    | .ok .next, h => exact h.elim
    | .ok .brk, h => exact h.elim
    | .ok .cont, h => exact h.elim⟩
section
variable {X : Cx} {E : L2.St → XK} {pos pos' np p : Pos} {x n : Str} {C C0 : Addr} {names : List Str} {e : Expr} {es : List Expr} {Ta : TAD} {Tb : TSD} {Ts : Addr → Value → Option Addr → TSD} {body suite : List Stmt} {b₀ : Stmt}
theorem dsN_raise (hc : X.calm = true) (tk : L2N.Takes X (fun c d σ H => E σ c d H)) (M0 : Exk X.prog X.w X.K X.mg X.base x C names) (hr : Room 2 X.A) (ha : DAs X E (e :: es) Ta) (hn : names ≠ [] := by simp) (hl : names.length ≤ 1000 := by decide) (hg : Gl X x := by rfl)
    (hdb : (x == ("__debug__" : Str)) = false := by decide) (he : starEach (e :: es) X.env = (false, eval e X.env) :: starEach es X.env := by rfl) (hpl : (backTo pos (starEach es X.env)).any (·.1) = false := by rfl) :
    DS X E (.Raise (some (.Call (.Name x p) (e :: es) [] pos)) none pos') (dRaise C names Ta) := by
  refine ⟨(L2N.ps_raise hc tk (pmk_exN M0 hr ha.p hg hdb he hpl)).imp fun D σ H ⟨F, M, G, τ, N, rs, rep, h, lk⟩ => ?_⟩
  refine ⟨F, M, G, τ, _, _, rs, rep, h, fun ds M1 F1 H1 vs q s1 rep1 r1 => ?_, lk.ex.at rs⟩
  have hl2 : vs.length = names.length := by rw [r1.len]; exact q.1
  refine mkEx (Q := fun c d H' => E σ c d H') hl2 hn (by rw [hl2]; exact hl) fun d hd => ?_
  obtain ⟨rep2, s2⟩ := rep1.newF (o := .xd ((names.zip vs).reverse)) hd
  exact ((lk.ex.at rs).le s1) C _ M1 _ _ (some d) q.2 s2 rep2 ⟨_, upd_same, ((Rfs.zip r1).reverse).mono s2⟩
theorem dsN_try {K : Frg} (hk : X.K = K) (i : Nat) (hs : X.stack = X.env :: X.outer) (hf : X.env.frame = some X.env.locals) (hN : X.N.Nodup) (hi : X.N[i]? = some n) (hln : X.env.kindOf n = some .local) (hc : Names X x (.ref C0)) (tk : L2N.Takes X (fun c d σ H => E σ c d H))
    (hb : ∀ (W : WX) (pn : List (Addr × Obj)) (xe : Value → Shared → Prop), L2N.Takes (X.tr pn xe) W → PassesOwn (model X.prog X.w) X.A X.env xe → DSs (X.tr pn xe) (WE W) body Tb)
    (hsu : ∀ (a : Addr) (oe : Obj) (cls : Value) (d : Option Addr) (pn : List (Addr × Obj)), L2N.Zn cls d oe → (∃ vs, oe.data = .fields vs) → DSs (X.suite a ((a, oe) :: pn)) E0' (b₀ :: suite) (Ts a cls d)) :
    DS X E (.Try body [.ExceptHandler (some (.Name x np)) (some n) (b₀ :: suite) pos'] [] [] pos) (dTry K C0 i Tb Ts) := by
  subst hk
  refine ⟨(L2N.ps_try_as (tb := fun W => upS X.K (WE W) Tb) (ts := fun a cls d => upS X.K E0' (Ts a cls d)) hs hf hN hi hln hc tk (fun W pn xe tk' po => (hb W pn xe tk' po).p) (fun a oe cls d pn hz hf' => (hsu a oe cls d pn hz hf').p)).imp fun D σ H ⟨F, M, G, τ, N, rs, rep, h, lk⟩ => ?_⟩
  refine ⟨F, M, G, τ, _, rs, rep, h, ⟨lk.nx, lk.rt, lk.bk, lk.ct, fun σ' τ' F1 s1 rs1 C fs M' F2 H' d q s2 rep2 rx => ?_⟩⟩
  obtain ⟨b, eb, h1, h2⟩ := q
  have s12 := s1.trans s2
  refine ⟨b, eb, fun hb a ha => ?_, fun hb => ?_⟩
  · refine ⟨F2, M', G, _, _, (rs1.mono s2).set (rx.rv a C) i, rep2, h1 hb a d rx.some, ⟨?_, lk.rt.le s12, ?_, ?_, ?_⟩⟩
    · exact fun σ5 τ5 M5 F5 H5 q5 s5 rep5 rs5 => lk.nx _ _ M5 F5 H5 q5 (s12.trans s5) rep5 (rs5.none i)
    · exact fun σ5 τ5 M5 F5 H5 q5 s5 rep5 rs5 => lk.bk _ _ M5 F5 H5 q5 (s12.trans s5) rep5 (rs5.none i)
    · exact fun σ5 τ5 M5 F5 H5 q5 s5 rep5 rs5 => lk.ct _ _ M5 F5 H5 q5 (s12.trans s5) rep5 (rs5.none i)
    · exact fun _ _ _ _ _ => KX.none
  · exact (lk.ex σ' τ' F1 s1 rs1) C fs M' F2 H' d (h2 hb) s2 rep2 rx
end
end RS

set_option maxRecDepth 100000
set_option maxHeartbeats 4000000
local macro_rules | `(tactic| walk_at "w") => `(tactic| (conv => whnf))
local macro_rules | `(tactic| walk_at "ni") => `(tactic| ((repeat (refine RS.ni_cons (by decide +kernel) ?_)); exact RS.ni_nil))
local macro_rules | `(tactic| walk_at "s") => `(tactic| ((conv => whnf); first | (refine And.intro True.intro ?_; walk_at "s") | (refine And.intro rfl ?_; walk_at "s") | (refine RS.dIte_t ?_; walk_at "s") | (refine RS.dIte_f ?_; walk_at "s") | (rw [RS.vw_same]; walk_at "s") | (rw [RS.updM_same]; walk_at "s") | (rw [RS.atD_0]; walk_at "s") | (rw [RS.atD_1]; walk_at "s") | (rw [RS.atD_2]; walk_at "s") | (rw [RS.atD_last]; walk_at "s") | (rw [List.getLast?_concat]; walk_at "s") | (refine And.intro RS.isLst_upd ?_; walk_at "s") | (refine And.intro (RS.le_line rfl) ?_; walk_at "s") | (refine And.intro (RS.lt1000 rfl) ?_; walk_at "s") | (refine And.intro (by walk_at "ni") ?_; walk_at "s") | (refine And.intro (by assumption) ?_; walk_at "s") | skip))
namespace RS
open PySem PySem.Spec PyProof.Rows L2 NdefX He PySem.W LamX
variable [Tbls]
def top (i : Nat) : Stmt := PySem.Challenge.pw_risingscales_k26_curves_made_and_refused.main.body.getD i (.Pass ⟨0, 0, 0, 0⟩)
abbrev FnP (K : PySem.W.Frag) (x qual : Str) (st : Stmt) (f : Addr) (fd : FuncData) : Prop := FunD K x qual (defArgs st) (defBody st) (defScope st) [] [] f fd
structure Fx (K : Frg) (mg : Str → Option Value) (C_BadRay C_Curve C_ScaleError : Addr) : Prop where
  at_Curve_rays : AttrOK K C_Curve "rays"
  b_abs : mg "abs" = none
  b_bool : mg "bool" = none
  b_enumerate : mg "enumerate" = none
  b_int : mg "int" = none
  b_isinstance : mg "isinstance" = none
  b_len : mg "len" = none
  b_list : mg "list" = none
  b_min : mg "min" = none
  b_range : mg "range" = none
  b_tuple : mg "tuple" = none
  b_zip : mg "zip" = none
  c_Curve : Cls K C_Curve
  ex_BadRay_BadRay : Exm K C_BadRay C_BadRay true
  g_ScaleError : mg "ScaleError" = some (.ref C_ScaleError)
  kk_BadRay_ScaleError : IsA K (.own C_BadRay) (.own C_ScaleError) true
  n_BadRay_index : NoAttr K C_BadRay "index"
section
variable {P : Program} {w : World} {K : PySem.W.Frag} {mg : Str → Option Value} {base : Heap} {C_BadRay C_Curve C_ScaleError : Addr}
/-! ### things that should be numbers, corners, rays -/
def wholeB : D → Bool
  | .int _ => true
  | _ => false
abbrev s_is_whole : Stmt := top 5
theorem sc_is_whole : FnScope ["value"] ["value"] (defScope s_is_whole) := ⟨rfl, rfl, rfl, by decide +kernel, rfl, by decide +kernel, by decide +kernel⟩
def sp_is_whole : SpD := fun ds M R W => match ds with
  | [v] => Pln v ∧ R (.bl (wholeB v)) M
  | _ => False
theorem ok_is_whole {f : Addr} {fd : FuncData} (F : FnP K "is_whole" "is_whole" s_is_whole f fd) (T : Fx K mg C_BadRay C_Curve C_ScaleError) :
    FnOk P w K mg base (L2N.CX P w) 1 f fd ["value"] (upSp K sp_is_whole) := by
  refine okDN (k := 0) F sc_is_whole (fun ds M R W h => ?_) (fun cdv A outer s H E hr hx tk => ⟨_, (dss_one (ds_ret (de_and (de_bi call_isi rc_isi T.b_isinstance (by decide +kernel) (da_cons (de_v 0) (da_cons (de_ty (n := .int) T.b_int (by decide +kernel)) da_nil))) (de_one (de_not (de_bi call_isi rc_isi T.b_isinstance (by decide +kernel) (da_cons (de_v 0) (da_cons (de_ty (n := .bool) T.b_bool (by decide +kernel)) da_nil)))))))), fun ds M R W h => ?_⟩)
  · match ds, h with | [_], _ => rfl
  · match ds, h with
    | [v], h =>
      obtain ⟨pl, k⟩ := h
      have fin : Rt R (.bl (wholeB v)) M := Rt.of k
      cases v <;> try exact pl.elim
      all_goals
        walk_at "s"
        exact fin
abbrev s_common : Stmt := top 7
theorem sc_common : FnScope ["one", "two"] ["one", "two"] (defScope s_common) := ⟨rfl, rfl, rfl, by decide +kernel, rfl, by decide +kernel, by decide +kernel⟩
def sp_common : SpD := fun ds M R W => match ds with
  | [a, b] => ∃ x y : Int, a = .int x ∧ b = .int y ∧ R (.int ((Int.gcd x y : Nat) : Int)) M
  | _ => False
theorem ok_common {f : Addr} {fd : FuncData} (F : FnP K "common" "common" s_common f fd) (T : Fx K mg C_BadRay C_Curve C_ScaleError) :
    FnOk P w K mg base (L2N.CX P w) 1 f fd ["one", "two"] (upSp K sp_common) := by
  refine okDN (k := 0) F sc_common (fun ds M R W h => ?_) (fun cdv A outer s H E hr hx tk => ⟨_, (dss_cons (ds_par sc_common.nd (da_cons (de_bi call_abs rc_abs T.b_abs (by decide +kernel) (da_cons (de_v 0) da_nil)) (da_cons (de_bi call_abs rc_abs T.b_abs (by decide +kernel) (da_cons (de_v 1) da_nil)) da_nil)) (fun ha => ps_par (i := 0) (j := 1) (by rfl) sc_common.nd rfl rfl (by decide) rfl rfl ha (by rfl)))
      (dss_cons (ds_while (passes_of rfl) (dt_tru (de_v 1)) (dss_one (ds_par sc_common.nd (da_cons (de_v 1) (da_cons (de_op op_modN ro_ii (de_v 0) (de_v 1)) da_nil)) (fun ha => ps_par (i := 0) (j := 1) (by rfl) sc_common.nd rfl rfl (by decide) rfl rfl ha (by rfl)))))
      (dss_one (ds_ret (de_v 0))))), fun ds M R W h => ?_⟩)
  · match ds, h with | [_, _], _ => rfl
  · match ds, h with
    | [a, b], h =>
      obtain ⟨x, y, rfl, rfl, k⟩ := h
      walk_at "s"
      rw [abs_if, abs_if]
      refine dWhile_ind (fun n τ M' => ∃ a : Nat, τ = [some (.int (a : Int)), some (.int (n : Int))] ∧ M' = M ∧ Int.gcd (a : Int) (n : Int) = Int.gcd x y) ⟨x.natAbs, rfl, rfl, by rw [Int.gcd_eq_natAbs_gcd_natAbs, Int.gcd_eq_natAbs_gcd_natAbs]; simp⟩ ?_
      rintro n τ _ ⟨a, rfl, rfl, e⟩ W ih
      walk_at "s"
      refine dIte_nd (c := (n : Int) = 0) (fun h0 => ?_) (fun h0 => ?_)
      · walk_at "s"
        have e1 : (a : Int).fmod (n : Int) = ((a % n : Nat) : Int) := by
          rw [Int.fmod_eq_emod_of_nonneg _ (by omega)]
          exact (Int.natCast_emod a n).symm
        refine ih (a % n) _ _ (Nat.mod_lt _ (by omega)) ⟨n, ?_, rfl, ?_⟩
        · show [some (D.int (n : Int)), some (D.int ((a : Int).fmod (n : Int)))] = _
          rw [e1]
        · rw [← e, Int.natCast_emod]
          exact gcd_step a n
      · walk_at "s"
        have e2 : n = 0 := by omega
        subst e2
        have e3 : ((Int.gcd x y : Nat) : Int) = (a : Int) := by
          rw [← e]
          simp
        rw [e3] at k
        exact Rt.of k
def NumOk : D → Prop
  | .tup [a, b] => Pln a ∧ Pln b
  | d => Pln d
def numB : D → Bool
  | .tup [.int a, .int b] => decide (1 ≤ b) && decide (((Int.gcd a b : Nat) : Int) = 1)
  | _ => false
def numQ : D → Rat
  | .tup [.int a, .int b] => Rat.divInt a b
  | _ => 0
theorem numB_1 (a : D) : numB (.tup [a]) = false := by cases a <;> rfl
theorem numB_3 (a b c : D) (r : List D) : numB (.tup (a :: b :: c :: r)) = false := by cases a <;> first | rfl | (cases b <;> rfl)
theorem NumOk.pln {d : D} (h : NumOk d) : Pln d := by
  unfold NumOk at h
  split at h
  · trivial
  · exact h
abbrev s_is_number : Stmt := top 8
theorem sc_is_number : FnScope ["value"] ["value"] (defScope s_is_number) := ⟨rfl, rfl, rfl, by decide +kernel, rfl, by decide +kernel, by decide +kernel⟩
def sp_is_number : SpD := fun ds M R W => match ds with
  | [v] => NumOk v ∧ R (.bl (numB v)) M
  | _ => False
theorem ok_is_number {f : Addr} {fd : FuncData} (F : FnP K "is_number" "is_number" s_is_number f fd) (T : Fx K mg C_BadRay C_Curve C_ScaleError) (M_is_whole : Cal P w K mg base (L2N.CX P w) 1 "is_whole" ["value"] [] (upSp K sp_is_whole)) (M_common : Cal P w K mg base (L2N.CX P w) 1 "common" ["one", "two"] [] (upSp K sp_common)) :
    FnOk P w K mg base (L2N.CX P w) 2 f fd ["value"] (upSp K sp_is_number) := by
  refine okDN (k := 1) F sc_is_number (fun ds M R W h => ?_) (fun cdv A outer s H E hr hx tk => ⟨_, (dss_cons (ds_if (DW.t (dw_or (dt_not (dt_val (de_bi call_isi rc_isi T.b_isinstance (by decide +kernel) (da_cons (de_v 0) (da_cons (de_ty (n := .tuple) T.b_tuple (by decide +kernel)) da_nil))))) (dw_or1 (dt_cmp (op_neA hr.units) ro_neA (de_bi call_len rc_len T.b_len PySem.boot_len (da_cons (de_v 0) da_nil)) de_int (nomark _))))) (dss_one (ds_ret de_bl)) dss_nil)
      (dss_cons (ds_if (DW.t (dw_or (dt_not (dt_val (de_fn M_is_whole Dfl.nil (hr.mono (by decide)) hx (da_cons (de_ix (de_v 0) de_int (fun _ _ => rfl)) da_nil)))) (dw_or1 (dt_not (dt_val (de_fn M_is_whole Dfl.nil (hr.mono (by decide)) hx (da_cons (de_ix (de_v 0) de_int (fun _ _ => rfl)) da_nil))))))) (dss_one (ds_ret de_bl)) dss_nil)
      (dss_one (ds_ret (de_and (de_cmp op_ge ro_b0 (de_ix (de_v 0) de_int (fun _ _ => rfl)) de_int (nomark _)) (de_one (de_cmp (op_eqA hr.units) ro_eqA (de_fn M_common Dfl.nil (hr.mono (by decide)) hx (da_cons (de_ix (de_v 0) de_int (fun _ _ => rfl)) (da_cons (de_ix (de_v 0) de_int (fun _ _ => rfl)) da_nil))) de_int (nomark _)))))))), fun ds M R W h => ?_⟩)
  · match ds, h with | [_], _ => rfl
  · match ds, h with
    | [v], h =>
      obtain ⟨ok, k⟩ := h
      have fin : Rt R (.bl (numB v)) M := Rt.of k
      have pl := ok.pln
      cases v <;> try exact pl.elim
      case tup xs =>
        match xs, ok, fin with
        | [a, b], ok, fin =>
          have ok : Pln a ∧ Pln b := ok
          obtain ⟨pa, pb⟩ := ok
          walk_at "s"
          cases a <;> try exact pa.elim
          case int x =>
            walk_at "s"
            cases b <;> try exact pb.elim
            case int y =>
              walk_at "s"
              refine dIte_d (c := 1 ≤ y) (fun h1 => ?_) (fun h1 => ?_)
              · walk_at "s"
                refine ⟨x, y, rfl, rfl, ?_⟩
                walk_at "s"
                have e : numB (.tup [.int x, .int y]) = decide (((Int.gcd x y : Nat) : Int) = 1) := by
                  show (decide (1 ≤ y) && _) = _
                  rw [decide_eq_true h1, Bool.true_and]
                rw [e] at fin
                exact fin
              · have e : numB (.tup [.int x, .int y]) = false := by
                  show (decide (1 ≤ y) && _) = _
                  rw [decide_eq_false h1, Bool.false_and]
                rw [e] at fin
                walk_at "s"
                exact fin
            all_goals
              walk_at "s"
              exact fin
          all_goals
            walk_at "s"
            exact fin
        | [], _, fin =>
          walk_at "s"
          exact fin
        | [a], _, fin =>
          rw [numB_1] at fin
          walk_at "s"
          exact fin
        | a :: b :: c :: r, _, fin =>
          rw [numB_3] at fin
          walk_at "s"
          walk_at "s"
          exact fin
      all_goals
        walk_at "s"
        exact fin
abbrev s_number : Stmt := top 9
theorem sc_number : FnScope ["top", "low", "part"] ["top", "low"] (defScope s_number) := ⟨rfl, rfl, rfl, by decide +kernel, rfl, by decide +kernel, by decide +kernel⟩
def sp_number : SpD := fun ds M R W => match ds with
  | [a, b] => ∃ x y : Int, a = .int x ∧ b = .int y ∧ y ≠ 0 ∧ Bd 8000 y ∧ R (qN (Rat.divInt x y)) M
  | _ => False
theorem ok_number {dvs : List V} {f : Addr} {fd : FuncData} (F : FunD K "number" "number" (defArgs s_number) (defBody s_number) (defScope s_number) dvs [] f fd) (T : Fx K mg C_BadRay C_Curve C_ScaleError) (M_common : Cal P w K mg base (L2N.CX P w) 1 "common" ["one", "two"] [] (upSp K sp_common)) :
    FnOk P w K mg base (L2N.CX P w) 2 f fd ["top", "low"] (upSp K sp_number) := by
  refine okDN (k := 1) F sc_number (fun ds M R W h => ?_) (fun cdv A outer s H E hr hx tk => ⟨_, (dss_cons (ds_if (dt_cmp (op_eqA hr.units) ro_eqA (de_v 1) de_int (nomark _)) (dss_one ds_never) dss_nil)
      (dss_cons (ds_set 2 sc_number.nd (de_fn M_common Dfl.nil (hr.mono (by decide)) hx (da_cons (de_v 0) (da_cons (de_v 1) da_nil))))
      (dss_cut (ds_if (dt_cmp op_lt ro_b0 (de_v 1) de_int (nomark _)) (dss_one (ds_set 2 sc_number.nd (de_neg (de_v 2)))) dss_nil)
      (dss_one (ds_ret (de_tup (da_cons (de_op op_fdivNW ro_ii (de_v 0) (de_v 2)) (da_cons (de_op op_fdivNW ro_ii (de_v 1) (de_v 2)) da_nil)))))))), fun ds M R W h => ?_⟩)
  · match ds, h with | [_, _], _ => rfl
  · match ds, h with
    | [a, b], h =>
      obtain ⟨x, y, rfl, rfl, hy, by_, k⟩ := h
      walk_at "s"
      refine dIte_no (fun z => hy (of_decide_eq_true z)) ?_
      walk_at "s"
      refine ⟨_, _, rfl, rfl, ?_⟩
      walk_at "s"
      refine ⟨fun τ' M' => τ' = [some (.int x), some (.int y), some (.int (nP x y))] ∧ M' = M, ?_, ?_⟩
      · walk_at "s"
        refine dIte_d (c := y < 0) (fun hl => ?_) (fun hl => ?_)
        · walk_at "s"
          refine ⟨?_, rfl⟩
          rw [nP, if_pos hl]
          rfl
        · walk_at "s"
          refine ⟨?_, rfl⟩
          rw [nP, if_neg hl]
          rfl
      · rintro _ _ ⟨rfl, rfl⟩
        have lg : (nP x y).natAbs.log2 < 9000 := (by_.le (nP_le hy)).log (by omega)
        walk_at "s"
        refine ⟨⟨nP_ne hy, lg⟩, ?_⟩
        walk_at "s"
        refine ⟨⟨nP_ne hy, lg⟩, ?_⟩
        walk_at "s"
        refine ⟨_, SubM.refl _, ?_⟩
        show R (.tup [.int (x.fdiv (nP x y)), .int (y.fdiv (nP x y))]) _
        rw [(num_of hy).1, (num_of hy).2]
        exact k
abbrev s_plus : Stmt := top 10
theorem sc_plus : FnScope ["a", "b"] ["a", "b"] (defScope s_plus) := ⟨rfl, rfl, rfl, by decide +kernel, rfl, by decide +kernel, by decide +kernel⟩
def sp_plus : SpD := fun ds M R W => match ds with
  | [a, b] => ∃ (x y : Rat) (k l : Nat), a = qN x ∧ b = qN y ∧ Sz k x ∧ Sz l y ∧ k + l ≤ 7900 ∧ R (qN (x + y)) M
  | _ => False
theorem ok_plus {f : Addr} {fd : FuncData} (F : FnP K "plus" "plus" s_plus f fd) (T : Fx K mg C_BadRay C_Curve C_ScaleError) (M_number : Cal P w K mg base (L2N.CX P w) 2 "number" ["top", "low"] [] (upSp K sp_number)) :
    FnOk P w K mg base (L2N.CX P w) 3 f fd ["a", "b"] (upSp K sp_plus) := by
  refine okDN (k := 2) F sc_plus (fun ds M R W h => ?_) (fun cdv A outer s H E hr hx tk => ⟨_, (dss_one (ds_ret (de_fn M_number Dfl.nil (hr.mono (by decide)) hx (da_cons (de_op op_addD ro_add (de_op op_mulD ro_mul (de_ix (de_v 0) de_int (fun _ _ => rfl)) (de_ix (de_v 1) de_int (fun _ _ => rfl))) (de_op op_mulD ro_mul (de_ix (de_v 1) de_int (fun _ _ => rfl)) (de_ix (de_v 0) de_int (fun _ _ => rfl)))) (da_cons (de_op op_mulD ro_mul (de_ix (de_v 0) de_int (fun _ _ => rfl)) (de_ix (de_v 1) de_int (fun _ _ => rfl))) da_nil))))), fun ds M R W h => ?_⟩)
  · match ds, h with | [_, _], _ => rfl
  · match ds, h with
    | [a, b], h =>
      obtain ⟨x, y, k1, l1, rfl, rfl, h1, h2, hk, k⟩ := h
      walk_at "s"
      refine ⟨h1.1.w h2.2 (by omega) (by omega), ?_⟩
      walk_at "s"
      refine ⟨h2.1.w h1.2 (by omega) (by omega), ?_⟩
      walk_at "s"
      refine ⟨h1.2.w h2.2 (by omega) (by omega), ?_⟩
      walk_at "s"
      refine ⟨_, _, rfl, rfl, den_ne2 x y, (h1.2.mul h2.2).mono (by omega), ?_⟩
      rw [q_add]
      exact Rt.of k
abbrev s_minus : Stmt := top 11
theorem sc_minus : FnScope ["a", "b"] ["a", "b"] (defScope s_minus) := ⟨rfl, rfl, rfl, by decide +kernel, rfl, by decide +kernel, by decide +kernel⟩
def sp_minus : SpD := fun ds M R W => match ds with
  | [a, b] => ∃ (x y : Rat) (k l : Nat), a = qN x ∧ b = qN y ∧ Sz k x ∧ Sz l y ∧ k + l ≤ 7900 ∧ R (qN (x - y)) M
  | _ => False
theorem ok_minus {f : Addr} {fd : FuncData} (F : FnP K "minus" "minus" s_minus f fd) (T : Fx K mg C_BadRay C_Curve C_ScaleError) (M_number : Cal P w K mg base (L2N.CX P w) 2 "number" ["top", "low"] [] (upSp K sp_number)) :
    FnOk P w K mg base (L2N.CX P w) 3 f fd ["a", "b"] (upSp K sp_minus) := by
  refine okDN (k := 2) F sc_minus (fun ds M R W h => ?_) (fun cdv A outer s H E hr hx tk => ⟨_, (dss_one (ds_ret (de_fn M_number Dfl.nil (hr.mono (by decide)) hx (da_cons (de_op op_sub ro_i0 (de_op op_mulD ro_mul (de_ix (de_v 0) de_int (fun _ _ => rfl)) (de_ix (de_v 1) de_int (fun _ _ => rfl))) (de_op op_mulD ro_mul (de_ix (de_v 1) de_int (fun _ _ => rfl)) (de_ix (de_v 0) de_int (fun _ _ => rfl)))) (da_cons (de_op op_mulD ro_mul (de_ix (de_v 0) de_int (fun _ _ => rfl)) (de_ix (de_v 1) de_int (fun _ _ => rfl))) da_nil))))), fun ds M R W h => ?_⟩)
  · match ds, h with | [_, _], _ => rfl
  · match ds, h with
    | [a, b], h =>
      obtain ⟨x, y, k1, l1, rfl, rfl, h1, h2, hk, k⟩ := h
      walk_at "s"
      refine ⟨h1.1.w h2.2 (by omega) (by omega), ?_⟩
      walk_at "s"
      refine ⟨h2.1.w h1.2 (by omega) (by omega), ?_⟩
      walk_at "s"
      refine ⟨h1.2.w h2.2 (by omega) (by omega), ?_⟩
      walk_at "s"
      refine ⟨_, _, rfl, rfl, den_ne2 x y, (h1.2.mul h2.2).mono (by omega), ?_⟩
      rw [q_sub]
      exact Rt.of k
abbrev s_compared : Stmt := top 14
theorem sc_compared : FnScope ["a", "b", "left", "right"] ["a", "b"] (defScope s_compared) := ⟨rfl, rfl, rfl, by decide +kernel, rfl, by decide +kernel, by decide +kernel⟩
def sp_compared : SpD := fun ds M R W => match ds with
  | [a, b] => ∃ (x y : Rat) (k l : Nat), a = qN x ∧ b = qN y ∧ Sz k x ∧ Sz l y ∧ k + l ≤ 7900 ∧ R (.int (sgQ x y)) M
  | _ => False
theorem ok_compared {f : Addr} {fd : FuncData} (F : FnP K "compared" "compared" s_compared f fd) (T : Fx K mg C_BadRay C_Curve C_ScaleError) :
    FnOk P w K mg base (L2N.CX P w) 1 f fd ["a", "b"] (upSp K sp_compared) := by
  refine okDN (k := 0) F sc_compared (fun ds M R W h => ?_) (fun cdv A outer s H E hr hx tk => ⟨_, (dss_cons (ds_set 2 sc_compared.nd (de_op op_mulD ro_mul (de_ix (de_v 0) de_int (fun _ _ => rfl)) (de_ix (de_v 1) de_int (fun _ _ => rfl))))
      (dss_cons (ds_set 3 sc_compared.nd (de_op op_mulD ro_mul (de_ix (de_v 1) de_int (fun _ _ => rfl)) (de_ix (de_v 0) de_int (fun _ _ => rfl))))
      (dss_one (ds_ret (de_op op_sub ro_i0 (de_bt call_int1 rc_int T.b_int (by decide +kernel) (da_cons (de_cmp op_gt ro_b0 (de_v 2) (de_v 3) (nomark _)) da_nil)) (de_bt call_int1 rc_int T.b_int (by decide +kernel) (da_cons (de_cmp op_lt ro_b0 (de_v 2) (de_v 3) (nomark _)) da_nil))))))), fun ds M R W h => ?_⟩)
  · match ds, h with | [_, _], _ => rfl
  · match ds, h with
    | [a, b], h =>
      obtain ⟨x, y, k1, l1, rfl, rfl, h1, h2, hk, k⟩ := h
      walk_at "s"
      refine ⟨h1.1.w h2.2 (by omega) (by omega), ?_⟩
      walk_at "s"
      refine ⟨h2.1.w h1.2 (by omega) (by omega), ?_⟩
      walk_at "s"
      refine ⟨M, SubM.refl M, ?_⟩
      have e : (if decide (y.num * (x.den : Int) < x.num * (y.den : Int)) = true then (1 : Int) else 0) - (if decide (x.num * (y.den : Int) < y.num * (x.den : Int)) = true then 1 else 0) = sgQ x y := by
        rw [cross_lt, cross_lt]
        unfold sgQ
        simp
      show R (.int (_ - _)) M
      rw [e]
      exact k
abbrev s_is_below : Stmt := top 15
theorem sc_is_below : FnScope ["a", "b"] ["a", "b"] (defScope s_is_below) := ⟨rfl, rfl, rfl, by decide +kernel, rfl, by decide +kernel, by decide +kernel⟩
def sp_is_below : SpD := fun ds M R W => match ds with
  | [a, b] => ∃ (x y : Rat) (k l : Nat), a = qN x ∧ b = qN y ∧ Sz k x ∧ Sz l y ∧ k + l ≤ 7900 ∧ R (.bl (decide (x < y))) M
  | _ => False
theorem ok_is_below {f : Addr} {fd : FuncData} (F : FnP K "is_below" "is_below" s_is_below f fd) (T : Fx K mg C_BadRay C_Curve C_ScaleError) (M_compared : Cal P w K mg base (L2N.CX P w) 1 "compared" ["a", "b"] [] (upSp K sp_compared)) :
    FnOk P w K mg base (L2N.CX P w) 2 f fd ["a", "b"] (upSp K sp_is_below) := by
  refine okDN (k := 1) F sc_is_below (fun ds M R W h => ?_) (fun cdv A outer s H E hr hx tk => ⟨_, (dss_one (ds_ret (de_cmp op_lt ro_b0 (de_fn M_compared Dfl.nil (hr.mono (by decide)) hx (da_cons (de_v 0) (da_cons (de_v 1) da_nil))) de_int (nomark _)))), fun ds M R W h => ?_⟩)
  · match ds, h with | [_, _], _ => rfl
  · match ds, h with
    | [a, b], h =>
      obtain ⟨x, y, k1, l1, rfl, rfl, h1, h2, hk, k⟩ := h
      walk_at "s"
      refine ⟨x, y, k1, l1, rfl, rfl, h1, h2, hk, ?_⟩
      walk_at "s"
      refine ⟨M, SubM.refl M, ?_⟩
      show R (.bl (decide (sgQ x y < 0))) M
      rw [sgQ_neg]
      exact k
end
end RS

set_option maxRecDepth 100000
set_option maxHeartbeats 4000000
namespace RS
open PySem PySem.Spec PyProof.Rows L2 NdefX He PySem.W LamX
variable [Tbls]
section
variable {P : Program} {w : World} {K : PySem.W.Frag} {mg : Str → Option Value} {base : Heap} {C_BadRay C_Curve C_ScaleError : Addr}
/-- a list or tuple, a list that could change -/
def LV (M : MS) (v : D) (xs : List D) : Prop := v = .lst xs ∨ v = .tup xs ∨ ∃ a, v = .ref a ∧ M a = some (.lst xs)
def NL : D → Prop
  | .lst _ => False
  | .tup _ => False
  | _ => True
theorem LV.seq {M : MS} {v : D} {xs : List D} (h : LV M v xs) : ∃ o, seqOf M v = some (xs, o) := by
  rcases h with rfl | rfl | ⟨a, rfl, ea⟩
  · exact ⟨none, rfl⟩
  · exact ⟨none, rfl⟩
  · exact ⟨some a, by unfold seqOf; dsimp only; rw [ea]⟩
theorem LV.new {M : MS} {v : D} {xs : List D} {p : Addr} {m : MO} (h : LV M v xs) (hp : M p = none) : LV (updM M p m) v xs := by
  rcases h with rfl | rfl | ⟨a, rfl, ea⟩
  · exact .inl rfl
  · exact .inr (.inl rfl)
  · exact .inr (.inr ⟨a, rfl, by rw [updM_ne (by rintro rfl; rw [hp] at ea; cases ea)]; exact ea⟩)
def IOk (M : MS) (d : D) : Prop := (∃ ys, LV M d ys ∧ ∀ a b, ys = [a, b] → NumOk a ∧ NumOk b) ∨ (Pln d ∧ NL d)
def pairF (ys : List D) : Option (Rat × Rat) := match ys with
  | [a, b] => if (numB a && numB b) = true then some (numQ a, numQ b) else none
  | _ => none
def itemF (M : MS) (d : D) : Option (Rat × Rat) := match vw M d with
  | .lst ys => pairF ys
  | .tup ys => pairF ys
  | _ => none
def cornF (M : MS) : List D → Option (List (Rat × Rat))
  | [] => some []
  | d :: r => match itemF M d with
    | some c => (cornF M r).map (c :: ·)
    | none => none
def oC : Option (List (Rat × Rat)) → D
  | some cs => .tup (cs.map cD)
  | none => .non
theorem LV.item {M : MS} {d : D} {ys : List D} (h : LV M d ys) : itemF M d = pairF ys := by
  rcases h with rfl | rfl | ⟨a, rfl, ea⟩
  · rfl
  · rfl
  · unfold itemF vw
    dsimp only
    rw [ea]
    rfl
theorem NL.item {M : MS} {d : D} (pl : Pln d) (h : NL d) : itemF M d = none := by
  cases d <;> first | exact h.elim | exact pl.elim | rfl
theorem tag_ref {M : MS} {a : Addr} {xs : List D} (h : M a = some (.lst xs)) : tag M (.ref a) = some (.bt .list) := by
  unfold tag
  rw [vw_at h]
  rfl
theorem cornF_app {M : MS} : ∀ (x1 x2 : List D) {c1 : List (Rat × Rat)}, cornF M x1 = some c1 → cornF M (x1 ++ x2) = (cornF M x2).map (c1 ++ ·)
  | [], x2, c1, h => by
    cases h
    show cornF M x2 = (cornF M x2).map (fun c => [] ++ c)
    cases cornF M x2 <;> rfl
  | d :: x1, x2, c1, h => by
    unfold cornF at h
    rw [List.cons_append, cornF]
    cases e : itemF M d with
    | none => rw [e] at h; cases h
    | some c =>
      rw [e] at h
      dsimp only at h ⊢
      cases e1 : cornF M x1 with
      | none => rw [e1] at h; cases h
      | some c2 =>
        rw [e1] at h
        cases h
        rw [cornF_app x1 x2 e1]
        cases cornF M x2 <;> rfl
theorem cornF_bad {M : MS} {x1 x2 : List D} {d : D} {c1 : List (Rat × Rat)} (h : cornF M x1 = some c1) (hd : itemF M d = none) : cornF M (x1 ++ d :: x2) = none := by
  rw [cornF_app x1 _ h, cornF, hd]
  rfl
theorem cornF_len {M : MS} : ∀ {xs : List D} {cs : List (Rat × Rat)}, cornF M xs = some cs → cs.length = xs.length
  | [], cs, h => by cases h; rfl
  | d :: xs, cs, h => by
    unfold cornF at h
    split at h
    · cases e : cornF M xs with
      | none => rw [e] at h; cases h
      | some c2 =>
        rw [e] at h
        cases h
        rw [List.length_cons, List.length_cons, cornF_len e]
    · cases h
theorem numB_qN {d : D} (h : numB d = true) : d = qN (numQ d) := by
  unfold numB at h
  split at h
  · rename_i a b
    obtain ⟨h1, h2⟩ := ba h
    have h1 := of_decide_eq_true h1
    have h2 : Int.gcd a b = 1 := by have := of_decide_eq_true h2; omega
    have h1 : 1 ≤ b := h1
    show D.tup [.int a, .int b] = qN (Rat.divInt a b)
    obtain ⟨n, rfl⟩ : ∃ n : Nat, b = (n : Int) := ⟨b.toNat, by omega⟩
    have hc : a.natAbs.Coprime n := by
      rw [Int.gcd_eq_natAbs_gcd_natAbs] at h2
      exact h2
    rw [← Rat.mk_eq_divInt (nz := by omega) (c := hc)]
    rfl
  · cases h
abbrev s_corners_of : Stmt := top 18
theorem sc_corners_of : FnScope ["value", "corners", "corner"] ["value"] (defScope s_corners_of) := ⟨rfl, rfl, rfl, by decide +kernel, rfl, by decide +kernel, by decide +kernel⟩
def sp_corners_of : SpD := fun ds M R W => match ds with
  | [v] => (∃ xs, LV M v xs ∧ xs.length ≤ 1000 ∧ (∀ d ∈ xs, IOk M d) ∧ R (oC (if xs = [] then none else cornF M xs)) M) ∨ (Pln v ∧ NL v ∧ R .non M)
  | _ => False
theorem ok_corners_of {f : Addr} {fd : FuncData} (F : FnP K "corners_of" "corners_of" s_corners_of f fd) (T : Fx K mg C_BadRay C_Curve C_ScaleError) (M_is_number : Cal P w K mg base (L2N.CX P w) 2 "is_number" ["value"] [] (upSp K sp_is_number)) :
    FnOk P w K mg base (L2N.CX P w) 3 f fd ["value"] (upSp K sp_corners_of) := by
  refine okDN (k := 2) F sc_corners_of (fun ds M R W h => ?_) (fun cdv A outer s H E hr hx tk => ⟨_, (dss_cons (ds_if (DW.t (dw_or (dt_not (dt_val (de_isiT (K := K) rfl T.b_isinstance (de_v 0) (de_ty (n := .list) T.b_list (by decide +kernel)) (de_ty (n := .tuple) T.b_tuple (by decide +kernel))))) (dw_or1 (dt_not (dt_tru (de_v 0)))))) (dss_one (ds_ret de_non)) dss_nil)
      (dss_cons (ds_set 1 sc_corners_of.nd (de_lstM da_nil))
      (dss_cons (ds_forO (passes_of rfl) rfl (de_v 0) (dg_name 2 sc_corners_of.nd) (dss_cons (ds_if (DW.t (dw_or (dt_not (dt_val (de_isiT (K := K) rfl T.b_isinstance (de_v 2) (de_ty (n := .list) T.b_list (by decide +kernel)) (de_ty (n := .tuple) T.b_tuple (by decide +kernel))))) (dw_or1 (dt_cmp (op_neA hr.units) ro_neA (de_bi call_len rc_len T.b_len PySem.boot_len (da_cons (de_v 2) da_nil)) de_int (nomark _))))) (dss_one (ds_ret de_non)) dss_nil)
      (dss_cons (ds_if (DW.t (dw_or (dt_not (dt_val (de_fn M_is_number Dfl.nil (hr.mono (by decide)) hx (da_cons (de_ix (de_v 2) de_int (fun _ _ => rfl)) da_nil)))) (dw_or1 (dt_not (dt_val (de_fn M_is_number Dfl.nil (hr.mono (by decide)) hx (da_cons (de_ix (de_v 2) de_int (fun _ _ => rfl)) da_nil))))))) (dss_one (ds_ret de_non)) dss_nil)
      (dss_one (ds_expr (de_bm PySem.F.slot_list_append PySem.F.type_list_append mt_append rm_append (de_v 1) (da_cons (de_tup (da_cons (de_ix (de_v 2) de_int (fun _ _ => rfl)) (da_cons (de_ix (de_v 2) de_int (fun _ _ => rfl)) da_nil))) da_nil)))))))
      (dss_one (ds_ret (de_bt call_tuple_of rc_tuple T.b_tuple (by decide +kernel) (da_cons (de_v 1) da_nil))))))), fun ds M R W h => ?_⟩)
  · match ds, h with | [_], _ => rfl
  · match ds, h with
    | [v], h =>
      rcases h with ⟨xs, lv, few, ok, k⟩ | ⟨pl, nl, k⟩
      · obtain ⟨o, eo⟩ := lv.seq
        by_cases hx : xs = []
        · rw [if_pos hx] at k
          have k : Rt R .non M := Rt.of k
          subst hx
          rcases lv with rfl | rfl | ⟨a, rfl, ea⟩
          · walk_at "s"
            exact k
          · walk_at "s"
            exact k
          · walk_at "s"
            rw [tag_ref ea]
            walk_at "s"
            rw [ea]
            walk_at "s"
            exact k
        rw [if_neg hx] at k
        have hne : (!xs.isEmpty) = true := by cases xs with
          | nil => exact absurd rfl hx
          | cons a b => rfl
        have ck0 : ∀ (p : Addr) (m : MO), M p = none → chk o xs (updM M p m) := fun p m hp => chk.new (seqOf_chk eo) hp
        have bad : cornF M xs = none → ∀ M', SubM M M' → Rt R .non M' := fun e M' sb => by
          rw [e] at k
          exact ⟨M, sb, k⟩
        have start : ∀ p : Addr, M p = none → seqOf (updM M p (.lst [])) v = some (xs, o) := fun p hp => seqOf_new eo hp
        rcases lv with rfl | rfl | ⟨a, rfl, ea⟩
        all_goals
          walk_at "s"
          first | (rw [tag_ref ea]; walk_at "s"; rw [ea]; walk_at "s") | skip
          refine dIte_no (fun z => by rw [hne] at z; cases z) ?_
          walk_at "s"
          refine fun p hp => ?_
          have st := start p hp
          walk_at "w"
          first | rw [st] | cases eo
          refine dLoopO_ind (fun r τ M' => ∃ (x1 x2 : List D) (cs : List (Rat × Rat)) (v2 : Option D), r = x2 ∧ x1 ++ x2 = xs ∧ cornF M x1 = some cs ∧ τ = [some _, some (.ref p), v2] ∧ M' = updM M p (.lst (cs.map cD))) ⟨[], xs, [], _, rfl, rfl, rfl, rfl, rfl⟩ ?_ ?_
          · rintro d r _ _ ⟨x1, _, cs, v2, rfl, ex, ec, rfl, rfl⟩ ih
            have od := ok d (by rw [← ex]; simp)
            have lcs : cs.length < 1000 := by have h1 := cornF_len ec; have h2 := congrArg List.length ex; simp at h2; omega
            have sb : SubM M (updM M p (.lst (cs.map cD))) := (SubM.refl M).new hp
            have badI : itemF M d = none → Rt R .non (updM M p (.lst (cs.map cD))) := fun e => bad (by rw [← ex]; exact cornF_bad ec e) _ sb
            rcases od with ⟨ys, lvd, oky⟩ | ⟨pld, nld⟩
            · have ei := lvd.item
              have lv2 : ∀ m, LV (updM M p m) d ys := fun m => lvd.new hp
              match ys, oky, ei, lv2, lvd with
              | [x, y], oky, ei, lv2, lvd =>
                obtain ⟨n1, n2⟩ := oky x y rfl
                have bad2 : (numB x && numB y) = false → itemF M d = none := fun e => by
                  rw [ei]
                  show (if (numB x && numB y) = true then some (numQ x, numQ y) else none) = _
                  rw [if_neg (by rw [e]; exact nofun)]
                have good : (numB x && numB y) = true → itemF M d = some (numQ x, numQ y) := fun e => by
                  rw [ei]
                  show (if (numB x && numB y) = true then some (numQ x, numQ y) else none) = _
                  rw [if_pos e]
                have exd : (x1 ++ [d]) ++ r = xs := by rw [← ex]; simp
                have ecn : (numB x && numB y) = true → cornF M (x1 ++ [d]) = some (cs ++ [(numQ x, numQ y)]) := fun e => by
                  rw [cornF_app x1 [d] ec, cornF, good e]
                  rfl
                rcases lv2 (.lst (cs.map cD)) with rfl | rfl | ⟨a2, rfl, ea2⟩
                all_goals
                  walk_at "s"
                  repeat (first | (rw [tag_ref ea2]; walk_at "s") | (rw [vw_at ea2]; walk_at "s") | (rw [ea2]; walk_at "s"))
                  cases e1 : numB x with
                  | false =>
                    walk_at "s"
                    exact badI (bad2 (by rw [e1]; rfl))
                  | true =>
                    walk_at "s"
                    repeat (first | (rw [tag_ref ea2]; walk_at "s") | (rw [vw_at ea2]; walk_at "s") | (rw [ea2]; walk_at "s"))
                    cases e2 : numB y with
                    | false =>
                      walk_at "s"
                      exact badI (bad2 (by rw [e1, e2]; rfl))
                    | true =>
                      have eg := good (by rw [e1, e2]; rfl)
                      walk_at "s"
                      repeat (first | (rw [tag_ref ea2]; walk_at "s") | (rw [vw_at ea2]; walk_at "s") | (rw [ea2]; walk_at "s"))
                      refine ⟨lt_line (by rw [List.length_map]; omega), ?_⟩
                      walk_at "s"
                      rw [updM_updM]
                      have ecd : (cs.map cD) ++ [D.tup [x, y]] = (cs ++ [(numQ x, numQ y)]).map cD := by
                        rw [List.map_append]
                        show _ = _ ++ [D.tup [qN (numQ x), qN (numQ y)]]
                        rw [← numB_qN e1, ← numB_qN e2]
                      rw [ecd]
                      first | exact (ih _ _ ⟨_, r, cs ++ [(numQ x, numQ y)], _, rfl, exd, ecn (by rw [e1, e2]; rfl), rfl, rfl⟩ (ck0 p _ hp)).2 | exact ih _ _ ⟨_, r, cs ++ [(numQ x, numQ y)], _, rfl, exd, ecn (by rw [e1, e2]; rfl), rfl, rfl⟩ (ck0 p _ hp)
              | [], oky, ei, lv2, lvd =>
                rcases lv2 (.lst (cs.map cD)) with rfl | rfl | ⟨a2, rfl, ea2⟩
                all_goals
                  walk_at "s"
                  repeat (first | (rw [tag_ref ea2]; walk_at "s") | (rw [vw_at ea2]; walk_at "s") | (rw [ea2]; walk_at "s"))
                  exact badI ei
              | [x], oky, ei, lv2, lvd =>
                rcases lv2 (.lst (cs.map cD)) with rfl | rfl | ⟨a2, rfl, ea2⟩
                all_goals
                  walk_at "s"
                  repeat (first | (rw [tag_ref ea2]; walk_at "s") | (rw [vw_at ea2]; walk_at "s") | (rw [ea2]; walk_at "s"))
                  exact badI ei
              | x :: y :: z :: ys, oky, ei, lv2, lvd =>
                rcases lv2 (.lst (cs.map cD)) with rfl | rfl | ⟨a2, rfl, ea2⟩
                all_goals
                  walk_at "s"
                  repeat (first | (rw [tag_ref ea2]; walk_at "s") | (rw [vw_at ea2]; walk_at "s") | (rw [ea2]; walk_at "s"))
                  exact badI ei
            · have ei := NL.item (M := M) pld nld
              cases d <;> first | exact nld.elim | exact pld.elim | skip
              all_goals
                walk_at "s"
                exact badI ei
          · rintro _ _ ⟨x1, _, cs, v2, rfl, ex, ec, rfl, rfl⟩
            rw [List.append_nil] at ex
            subst ex
            walk_at "s"
            rw [ec] at k
            exact ⟨M, (SubM.refl M).new hp, k⟩
      · have k : Rt R .non M := Rt.of k
        cases v <;> first | exact nl.elim | exact pl.elim | skip
        all_goals
          walk_at "s"
          exact k
end
end RS

set_option maxRecDepth 100000
set_option maxHeartbeats 4000000
namespace RS
open PySem PySem.Spec PyProof.Rows L2 NdefX He PySem.W LamX
variable [Tbls]
section
variable {P : Program} {w : World} {K : PySem.W.Frag} {mg : Str → Option Value} {base : Heap} {C_BadRay C_Curve C_ScaleError : Addr}
/-- `RayOK` with room for four rays -/
structure RayK (r : Ray) : Prop where
  way : r.way = 1 ∨ r.way = -1
  ne : r.cs ≠ []
  few : r.cs.length ≤ 100
  asc : AscQ r.cs
  lo : ∀ x, r.low = some x → x < (fstC r).2
  hi : ∀ x, r.high = some x → (lstC r).2 < x
  szc : ∀ c ∈ r.cs, Sz 160 c.1 ∧ Sz 160 c.2
  szl : ∀ x, r.low = some x → Sz 160 x
  szh : ∀ x, r.high = some x → Sz 160 x
theorem RayK.told {lo hi : Option Rat} {w : Int} {cs : List (Rat × Rat)} {y y2 : Rat} (hw : w = 1 ∨ w = -1) (ne : cs ≠ []) (few : cs.length ≤ 100) (asc : AscQ cs) (hd : ∀ c, cs.head? = some c → y < c.2) (lst : ∀ c, cs.getLast? = some c → c.2 < y2)
    (hlo : ∀ x, lo = some x → x = y) (hhi : ∀ x, hi = some x → x = y2) (sz : ∀ c ∈ cs, Sz 160 c.1 ∧ Sz 160 c.2) (sy : Sz 160 y) (sy2 : Sz 160 y2) : RayK ⟨lo, hi, w, cs⟩ := by
  have e1 : cs.head? = some (fstC ⟨lo, hi, w, cs⟩) := by
    unfold fstC
    cases cs with
    | nil => exact absurd rfl ne
    | cons a b => rfl
  have e2 : cs.getLast? = some (lstC ⟨lo, hi, w, cs⟩) := by
    unfold lstC
    rw [List.getLast?_eq_some_getLast ne]
    rfl
  refine ⟨hw, ne, few, asc, fun x e => ?_, fun x e => ?_, sz, fun x e => ?_, fun x e => ?_⟩
  · rw [hlo x e]
    exact hd _ e1
  · rw [hhi x e]
    exact lst _ e2
  · rw [hlo x e]
    exact sy
  · rw [hhi x e]
    exact sy2
def ascB : List (Rat × Rat) → Bool
  | a :: b :: r => decide (a.1 < b.1) && (decide (a.2 < b.2) && ascB (b :: r))
  | _ => true
theorem ascB_iff : ∀ cs : List (Rat × Rat), ascB cs = true ↔ AscQ cs
  | [] => ⟨fun _ => trivial, fun _ => rfl⟩
  | [_] => ⟨fun _ => trivial, fun _ => rfl⟩
  | a :: b :: r => by
    have ih := ascB_iff (b :: r)
    unfold ascB AscQ
    rw [Bool.and_eq_true, Bool.and_eq_true, decide_eq_true_eq, decide_eq_true_eq, ih]
abbrev s_ascend : Stmt := top 19
theorem sc_ascend : FnScope ["corners", "clock", "place", "later", "higher"] ["corners"] (defScope s_ascend) := ⟨rfl, rfl, rfl, by decide +kernel, rfl, by decide +kernel, by decide +kernel⟩
def sp_ascend : SpD := fun ds M R W => match ds with
  | [v] => ∃ cs : List (Rat × Rat), v = .tup (cs.map cD) ∧ (∀ c ∈ cs, Sz 160 c.1 ∧ Sz 160 c.2) ∧ R (.bl (ascB cs)) M
  | _ => False
theorem ok_ascend {f : Addr} {fd : FuncData} (F : FnP K "ascend" "ascend" s_ascend f fd) (T : Fx K mg C_BadRay C_Curve C_ScaleError) (M_is_below : Cal P w K mg base (L2N.CX P w) 2 "is_below" ["a", "b"] [] (upSp K sp_is_below)) :
    FnOk P w K mg base (L2N.CX P w) 3 f fd ["corners"] (upSp K sp_ascend) := by
  refine okDN (k := 2) F sc_ascend (fun ds M R W h => ?_) (fun cdv A outer s H E hr hx tk => ⟨_, (dss_cons (ds_for (passes_of rfl) rfl (di_zip T.b_zip (da_cons (de_v 0) (da_cons (de_sl (de_v 0) (do_some de_int) do_none) da_nil))) (dg_tup (K := K) (n := 2) rfl (by rfl) (dgs_cons (dg_tup (K := K) (n := 2) rfl (by rfl) (dgs_cons (dg_name 1 sc_ascend.nd) (dgs_cons (dg_name 2 sc_ascend.nd) dgs_nil))) (dgs_cons (dg_tup (K := K) (n := 2) rfl (by rfl) (dgs_cons (dg_name 3 sc_ascend.nd) (dgs_cons (dg_name 4 sc_ascend.nd) dgs_nil))) dgs_nil))) (dss_one (ds_if (DW.t (dw_or (dt_not (dt_val (de_fn M_is_below Dfl.nil (hr.mono (by decide)) hx (da_cons (de_v 1) (da_cons (de_v 3) da_nil))))) (dw_or1 (dt_not (dt_val (de_fn M_is_below Dfl.nil (hr.mono (by decide)) hx (da_cons (de_v 2) (da_cons (de_v 4) da_nil)))))))) (dss_one (ds_ret de_bl)) dss_nil)))
      (dss_one (ds_ret de_bl))), fun ds M R W h => ?_⟩)
  · match ds, h with | [_], _ => rfl
  · match ds, h with
    | [v], h =>
      obtain ⟨cs, rfl, sz, k⟩ := h
      walk_at "s"
      rw [cut_1, ← List.map_drop]
      walk_at "s"
      refine dLoop_indC (fun r τ => ∃ (c2 : List (Rat × Rat)) (v1 v2 v3 v4 : Option D), r = zipD (c2.map cD) ((c2.drop 1).map cD) ∧ ascB cs = ascB c2 ∧ (∀ c ∈ c2, Sz 160 c.1 ∧ Sz 160 c.2) ∧ τ = [some (.tup (cs.map cD)), v1, v2, v3, v4]) ⟨cs, _, _, _, _, rfl, rfl, sz, rfl⟩ ?_ ?_
      · rintro _ r _ ⟨c2, v1, v2, v3, v4, e1, ea, s2, rfl⟩ ih
        match c2, e1, ea, s2 with
        | [], e1, _, _ => cases e1
        | [_], e1, _, _ => cases e1
        | a :: b :: c2, e1, ea, s2 =>
          rw [zip_cons] at e1
          cases e1
          rw [ascB.eq_1] at ea
          obtain ⟨sa1, sa2⟩ := s2 a (by simp)
          obtain ⟨sb1, sb2⟩ := s2 b (by simp)
          walk_at "s"
          refine ⟨a.1, b.1, 160, 160, rfl, rfl, sa1, sb1, by decide, ?_⟩
          walk_at "s"
          refine dIte_nd (c := a.1 < b.1) (fun h1 => ?_) (fun h1 => ?_)
          · rw [decide_eq_false h1, Bool.false_and] at ea
            walk_at "s"
            rw [ea] at k
            exact Rt.of k
          rw [decide_eq_true h1, Bool.true_and] at ea
          walk_at "s"
          refine ⟨a.2, b.2, 160, 160, rfl, rfl, sa2, sb2, by decide, ?_⟩
          walk_at "s"
          refine dIte_nd (c := a.2 < b.2) (fun h2 => ?_) (fun h2 => ?_)
          · rw [decide_eq_false h2, Bool.false_and] at ea
            walk_at "s"
            rw [ea] at k
            exact Rt.of k
          rw [decide_eq_true h2, Bool.true_and] at ea
          walk_at "s"
          exact ih _ ⟨b :: c2, _, _, _, _, rfl, ea, fun c hc => s2 c (List.mem_cons_of_mem _ hc), rfl⟩
      · rintro _ ⟨c2, v1, v2, v3, v4, e1, ea, s2, rfl⟩
        have e2 : ascB c2 = true := by
          match c2, e1 with
          | [], _ => rfl
          | [_], _ => rfl
          | a :: b :: c2, e1 => rw [zip_cons] at e1; cases e1
        rw [ea, e2] at k
        walk_at "s"
        exact Rt.of k
abbrev s_lies_above : Stmt := top 21
theorem sc_lies_above : FnScope ["ray", "before"] ["ray", "before"] (defScope s_lies_above) := ⟨rfl, rfl, rfl, by decide +kernel, rfl, by decide +kernel, by decide +kernel⟩
def sp_lies_above : SpD := fun ds M R W => match ds with
  | [a, b] => ∃ r b2 : Ray, a = rayD r ∧ b = rayD b2 ∧ RayK r ∧ RayK b2 ∧ R (.bl (abvB r b2)) M
  | _ => False
theorem ok_lies_above {f : Addr} {fd : FuncData} (F : FnP K "lies_above" "lies_above" s_lies_above f fd) (T : Fx K mg C_BadRay C_Curve C_ScaleError) (M_is_below : Cal P w K mg base (L2N.CX P w) 2 "is_below" ["a", "b"] [] (upSp K sp_is_below)) :
    FnOk P w K mg base (L2N.CX P w) 3 f fd ["ray", "before"] (upSp K sp_lies_above) := by
  refine okDN (k := 2) F sc_lies_above (fun ds M R W h => ?_) (fun cdv A outer s H E hr hx tk => ⟨_, (dss_cons (ds_if (DW.t (dw_or (dt_cmp op_isN ro_isN (de_ix (de_v 1) de_int (fun _ _ => rfl)) de_non (nomark _)) (dw_or1 (dt_cmp op_isN ro_isN (de_ix (de_v 0) de_int (fun _ _ => rfl)) de_non (nomark _))))) (dss_one (ds_ret de_bl)) dss_nil)
      (dss_one (ds_ret (de_not (de_fn M_is_below Dfl.nil (hr.mono (by decide)) hx (da_cons (de_ix (de_v 0) de_int (fun _ _ => rfl)) (da_cons (de_ix (de_v 1) de_int (fun _ _ => rfl)) da_nil))))))), fun ds M R W h => ?_⟩)
  · match ds, h with | [_, _], _ => rfl
  · match ds, h with
    | [a, b], h =>
      obtain ⟨r, b2, rfl, rfl, o1, o2, k⟩ := h
      obtain ⟨lo, hi, w, cs⟩ := r
      obtain ⟨lo2, hi2, w2, cs2⟩ := b2
      have k2 := Rt.of (R := R) k
      cases hi2 with
      | none =>
        walk_at "s"
        exact k2
      | some h2 =>
        cases lo with
        | none =>
          walk_at "s"
          exact k2
        | some l =>
          walk_at "s"
          refine ⟨l, h2, 160, 160, rfl, rfl, o1.szl _ rfl, o2.szh _ rfl, by decide, ?_⟩
          walk_at "s"
          exact k2
/-- what stands where corners should: as corners they are cs -/
def CoOk (M : MS) (co : D) (cs : Option (List (Rat × Rat))) : Prop := ((∃ xs, LV M co xs ∧ xs.length ≤ 1000 ∧ (∀ d ∈ xs, IOk M d) ∧ cs = if xs = [] then none else cornF M xs) ∨ (Pln co ∧ NL co ∧ cs = none)) ∧ ∀ c, cs = some c → c ≠ [] ∧ ∀ x ∈ c, Sz 160 x.1 ∧ Sz 160 x.2
def SzO (d : D) : Prop := numB d = true → Sz 160 (numQ d)
def endF (d : D) : Option (Option Rat) := match d with
  | .non => some none
  | d => if numB d = true then some (some (numQ d)) else none
def wayF (d : D) : Option Int := match d with
  | .int i => if i = 1 ∨ i = -1 then some i else none
  | _ => none
def oR : Option Ray → D
  | some r => rayD r
  | none => .non
def lowB (lo : Option Rat) (cs : List (Rat × Rat)) : Bool := match lo with
  | none => true
  | some x => decide (x < (cs.head?.getD (0, 0)).2)
def hghB (hi : Option Rat) (cs : List (Rat × Rat)) : Bool := match hi with
  | none => true
  | some x => decide ((cs.getLast?.getD (0, 0)).2 < x)
theorem endF_bad {d : D} (h : numB d = false) (hn : d ≠ .non) : endF d = none := by
  unfold endF
  split
  · exact absurd rfl hn
  · rw [if_neg (by rw [h]; exact nofun)]
theorem numB_q (x : Rat) : numB (qN x) = true := by
  show (decide (1 ≤ (x.den : Int)) && decide (((Int.gcd x.num (x.den : Int) : Nat) : Int) = 1)) = true
  have h1 : Nat.gcd x.num.natAbs x.den = 1 := x.reduced
  have h2 : Int.gcd x.num (x.den : Int) = 1 := by
    rw [Int.gcd_eq_natAbs_gcd_natAbs]
    simp [h1]
  rw [h2, decide_eq_true (by have := x.den_pos; omega)]
  rfl
theorem numQ_q (x : Rat) : numQ (qN x) = x := Rat.num_divInt_den x
theorem inW (i : Int) : inB (.int i) [.int 1, .int (-1)] = decide (i = 1 ∨ i = -1) := by
  show ((decide ((1 : Int) = i)) || ((decide ((-1 : Int) = i)) || false)) = _
  rw [Bool.or_false, ← Bool.decide_or]
  exact decide_eq_decide.mpr ⟨fun h => h.imp Eq.symm Eq.symm, fun h => h.imp Eq.symm Eq.symm⟩
def rayF (lo hi way : D) (cs : Option (List (Rat × Rat))) : Option Ray := match endF lo, endF hi, wayF way, cs with
  | some l, some h, some w, some cs => if (ascB cs && (lowB l cs && hghB h cs)) = true then some ⟨l, h, w, cs⟩ else none
  | _, _, _, _ => none
theorem rayF_of {lo hi way : D} {cs : Option (List (Rat × Rat))} {l h : Option Rat} {w : Int} {c : List (Rat × Rat)} (e1 : endF lo = some l) (e2 : endF hi = some h) (e3 : wayF way = some w) (e4 : cs = some c) : rayF lo hi way cs = if (ascB c && (lowB l c && hghB h c)) = true then some ⟨l, h, w, c⟩ else none := by
  unfold rayF
  rw [e1, e2, e3, e4]
theorem rayF_noC {lo hi way : D} : rayF lo hi way none = none := by
  unfold rayF
  cases endF lo <;> cases endF hi <;> cases wayF way <;> rfl
theorem rayF_noW {lo hi way : D} {cs : Option (List (Rat × Rat))} (e3 : wayF way = none) : rayF lo hi way cs = none := by
  unfold rayF
  rw [e3]
  cases endF lo <;> cases endF hi <;> rfl
theorem rayF_noL {lo hi way : D} {cs : Option (List (Rat × Rat))} (e : endF lo = none) : rayF lo hi way cs = none := by
  unfold rayF
  rw [e]
theorem rayF_noH {lo hi way : D} {cs : Option (List (Rat × Rat))} (e : endF hi = none) : rayF lo hi way cs = none := by
  unfold rayF
  rw [e]
  cases endF lo <;> rfl
abbrev s_ray_of : Stmt := top 20
theorem sc_ray_of : FnScope ["value", "end", "corners", "low", "high", "way"] ["value"] (defScope s_ray_of) := ⟨rfl, rfl, rfl, by decide +kernel, rfl, by decide +kernel, by decide +kernel⟩
def sp_ray_of : SpD := fun ds M R W => match ds with
  | [v] => (∃ (lo hi way co : D) (cs : Option (List (Rat × Rat))), v = .tup [lo, hi, way, co] ∧ NumOk lo ∧ NumOk hi ∧ Pln way ∧ CoOk M co cs ∧ SzO lo ∧ SzO hi ∧ R (oR (rayF lo hi way cs)) M) ∨ (Pln v ∧ (∀ xs, v = .tup xs → xs.length ≠ 4) ∧ R .non M)
  | _ => False
theorem ok_ray_of {f : Addr} {fd : FuncData} (F : FnP K "ray_of" "ray_of" s_ray_of f fd) (T : Fx K mg C_BadRay C_Curve C_ScaleError) (M_is_whole : Cal P w K mg base (L2N.CX P w) 1 "is_whole" ["value"] [] (upSp K sp_is_whole)) (M_is_number : Cal P w K mg base (L2N.CX P w) 2 "is_number" ["value"] [] (upSp K sp_is_number)) (M_is_below : Cal P w K mg base (L2N.CX P w) 2 "is_below" ["a", "b"] [] (upSp K sp_is_below)) (M_corners_of : Cal P w K mg base (L2N.CX P w) 3 "corners_of" ["value"] [] (upSp K sp_corners_of)) (M_ascend : Cal P w K mg base (L2N.CX P w) 3 "ascend" ["corners"] [] (upSp K sp_ascend)) :
    FnOk P w K mg base (L2N.CX P w) 4 f fd ["value"] (upSp K sp_ray_of) := by
  refine okDN (k := 3) F sc_ray_of (fun ds M R W h => ?_) (fun cdv A outer s H E hr hx tk => ⟨_, (dss_cons (ds_if (DW.t (dw_or (dt_not (dt_val (de_bi call_isi rc_isi T.b_isinstance (by decide +kernel) (da_cons (de_v 0) (da_cons (de_ty (n := .tuple) T.b_tuple (by decide +kernel)) da_nil))))) (dw_or1 (dt_cmp (op_neA hr.units) ro_neA (de_bi call_len rc_len T.b_len PySem.boot_len (da_cons (de_v 0) da_nil)) de_int (nomark _))))) (dss_one (ds_ret de_non)) dss_nil)
      (dss_cons (ds_asg (de_v 0) (dg_tup (K := K) (n := 4) rfl (by rfl) (dgs_cons (dg_name 3 sc_ray_of.nd) (dgs_cons (dg_name 4 sc_ray_of.nd) (dgs_cons (dg_name 5 sc_ray_of.nd) (dgs_cons (dg_name 2 sc_ray_of.nd) dgs_nil))))))
      (dss_cons (ds_for (passes_of rfl) rfl (di_sq (de_tup (da_cons (de_v 3) (da_cons (de_v 4) da_nil)))) (dg_name 1 sc_ray_of.nd) (dss_one (ds_if (DW.t (dw_and (dt_cmp op_notN ro_notN (de_v 1) de_non (nomark _)) (dw_and1 (dt_not (dt_val (de_fn M_is_number Dfl.nil (hr.mono (by decide)) hx (da_cons (de_v 1) da_nil))))))) (dss_one (ds_ret de_non)) dss_nil)))
      (dss_cons (ds_set 2 sc_ray_of.nd (de_fn M_corners_of Dfl.nil (hr.mono (by decide)) hx (da_cons (de_v 2) da_nil)))
      (dss_cons (ds_if (DW.t (dw_or (dt_not (dt_val (de_fn M_is_whole Dfl.nil (hr.mono (by decide)) hx (da_cons (de_v 5) da_nil)))) (dw_or (dt_cmp (op_notInA hr.units) (ro_in true) (de_v 5) (de_tup (da_cons de_int (da_cons (de_neg de_int) da_nil))) rfl) (dw_or (dt_cmp op_isN ro_isN (de_v 2) de_non (nomark _)) (dw_or1 (dt_not (dt_val (de_fn M_ascend Dfl.nil (hr.mono (by decide)) hx (da_cons (de_v 2) da_nil))))))))) (dss_one (ds_ret de_non)) dss_nil)
      (dss_cons (ds_if (DW.t (dw_and (dt_cmp op_notN ro_notN (de_v 3) de_non (nomark _)) (dw_and1 (dt_not (dt_val (de_fn M_is_below Dfl.nil (hr.mono (by decide)) hx (da_cons (de_v 3) (da_cons (de_ix (de_ix (de_v 2) de_int (fun _ _ => rfl)) de_int (fun _ _ => rfl)) da_nil)))))))) (dss_one (ds_ret de_non)) dss_nil)
      (dss_cons (ds_if (DW.t (dw_and (dt_cmp op_notN ro_notN (de_v 4) de_non (nomark _)) (dw_and1 (dt_not (dt_val (de_fn M_is_below Dfl.nil (hr.mono (by decide)) hx (da_cons (de_ix (de_ix (de_v 2) (de_neg de_int) (fun _ _ => rfl)) de_int (fun _ _ => rfl)) (da_cons (de_v 4) da_nil)))))))) (dss_one (ds_ret de_non)) dss_nil)
      (dss_one (ds_ret (de_tup (da_cons (de_v 3) (da_cons (de_v 4) (da_cons (de_v 5) (da_cons (de_v 2) da_nil)))))))))))))), fun ds M R W h => ?_⟩)
  · match ds, h with | [_], _ => rfl
  · match ds, h with
    | [v], h =>
      rcases h with ⟨lo, hi, way, co, cs, rfl, n1, n2, pw, ⟨hc, hs⟩, z1, z2, k⟩ | ⟨pl, nl, k⟩
      · have bad : rayF lo hi way cs = none → Rt R .non M := fun e => by
          rw [e] at k
          exact Rt.of k
        have end3 : ∀ d : D, NumOk d → SzO d → (d = .non ∧ endF d = some none) ∨ (∃ x, d = qN x ∧ Sz 160 x ∧ endF d = some (some x)) ∨ (numB d = false ∧ dNonB d = false ∧ endF d = none) := fun d n z => by
          cases hb : numB d with
          | true =>
            have e := numB_qN hb
            refine .inr (.inl ⟨numQ d, e, z hb, ?_⟩)
            rw [e]
            show (if numB (qN (numQ d)) = true then some (some (numQ (qN (numQ d)))) else none) = _
            rw [if_pos (numB_q _), numQ_q]
          | false =>
            cases d
            case non => exact .inl ⟨rfl, rfl⟩
            all_goals exact .inr (.inr ⟨rfl, rfl, endF_bad hb nofun⟩)
        rcases end3 lo n1 z1 with ⟨rfl, el⟩ | ⟨xl, rfl, sl, el⟩ | ⟨b1, b2, el⟩
        rotate_right
        · have k := bad (rayF_noL el)
          walk_at "s"
          rw [b2]
          walk_at "s"
          rw [b1]
          walk_at "s"
          exact k
        all_goals
          walk_at "s"
          first | (rw [numB_q]; walk_at "s") | skip
          rcases end3 hi n2 z2 with ⟨rfl, eh⟩ | ⟨xh, rfl, sh, eh⟩ | ⟨b1, b2, eh⟩
          rotate_right
          · have k := bad (rayF_noH eh)
            walk_at "s"
            rw [b2]
            walk_at "s"
            rw [b1]
            walk_at "s"
            exact k
          all_goals
            walk_at "s"
            first | (rw [numB_q]; walk_at "s") | skip
            have noC : cs = none → Rt R .non M := fun e => bad (by rw [e]; exact rayF_noC)
            have noW : wayF way = none → Rt R .non M := fun e => bad (rayF_noW e)
            rcases hc with ⟨xs, lv, few, ok, e⟩ | ⟨pc, nc, e⟩
            · refine .inl ⟨xs, lv, few, ok, ?_⟩
              rw [← e]
              cases hcs : cs with
              | none =>
                have kN := noC hcs
                cases way <;> try exact pw.elim
                case int i =>
                  walk_at "s"
                  refine ⟨way_pd, ?_⟩
                  walk_at "s"
                  show dIte (!inB (.int i) [.int 1, .int (-1)]) _ _
                  rw [inW]
                  refine dIte_nd (c := i = 1 ∨ i = -1) (fun h => ?_) (fun h => ?_)
                  · walk_at "s"
                    exact kN
                  · walk_at "s"
                    exact kN
                all_goals
                  walk_at "s"
                  exact kN
              | some c =>
                obtain ⟨cne, csz⟩ := hs c hcs
                have a0 : atD (c.map cD) 0 = some (cD (c.head?.getD (0, 0))) := atD_fst (r := ⟨none, none, 1, c⟩) cne
                have a1 : atD (c.map cD) (-1) = some (cD (c.getLast?.getD (0, 0))) := atD_lst (r := ⟨none, none, 1, c⟩) cne
                have f1 := csz _ (fst_mem (r := ⟨none, none, 1, c⟩) cne)
                have f2 := csz _ (lst_mem (r := ⟨none, none, 1, c⟩) cne)
                cases way <;> try exact pw.elim
                case int i =>
                  walk_at "s"
                  refine ⟨way_pd, ?_⟩
                  walk_at "s"
                  show dIte (!inB (.int i) [.int 1, .int (-1)]) _ _
                  rw [inW]
                  refine dIte_nd (c := i = 1 ∨ i = -1) (fun h => ?_) (fun h => ?_)
                  · have kN := noW (if_neg h)
                    walk_at "s"
                    exact kN
                  · have ew : wayF (.int i) = some i := if_pos h
                    have rf := rayF_of el eh ew hcs
                    rw [rf] at k bad
                    walk_at "s"
                    refine ⟨c, rfl, csz, ?_⟩
                    cases ha : ascB c with
                    | false =>
                      have kN := bad (by rw [ha]; rfl)
                      walk_at "s"
                      exact kN
                    | true =>
                      rw [ha] at k bad
                      walk_at "s"
                      first
                      | (rw [a0]
                         walk_at "s"
                         refine ⟨_, _, 160, 160, rfl, rfl, sl, f1.2, by decide, ?_⟩
                         walk_at "s"
                         refine dIte_nd (c := xl < (c.head?.getD (0, 0)).2) (fun hl => ?_) (fun hl => ?_)
                         · have kN := bad (by rw [if_neg (by simp [lowB, hl])])
                           walk_at "s"
                           exact kN
                         walk_at "s")
                      | have hl : True := trivial
                      first
                      | (rw [a1]
                         walk_at "s"
                         refine ⟨_, _, 160, 160, rfl, rfl, f2.2, sh, by decide, ?_⟩
                         walk_at "s"
                         refine dIte_nd (c := (c.getLast?.getD (0, 0)).2 < xh) (fun hh => ?_) (fun hh => ?_)
                         · have kN := bad (by rw [if_neg (by simp [hghB, hh])])
                           walk_at "s"
                           exact kN
                         walk_at "s")
                      | have hh : True := trivial
                      rw [if_pos (by simp [lowB, hghB, hl, hh])] at k
                      exact Rt.of k
                all_goals
                  have kN := noW rfl
                  walk_at "s"
                  exact kN
            · refine .inr ⟨pc, nc, ?_⟩
              have kN := noC e
              cases way <;> try exact pw.elim
              case int i =>
                walk_at "s"
                refine ⟨way_pd, ?_⟩
                walk_at "s"
                show dIte (!inB (.int i) [.int 1, .int (-1)]) _ _
                rw [inW]
                refine dIte_nd (c := i = 1 ∨ i = -1) (fun h => ?_) (fun h => ?_)
                · walk_at "s"
                  exact kN
                · walk_at "s"
                  exact kN
              all_goals
                walk_at "s"
                exact kN
      · have k : Rt R .non M := Rt.of k
        cases v <;> try exact pl.elim
        case tup xs =>
          have hl := nl xs rfl
          walk_at "s"
          refine dIte_te (by show (!decide ((xs.length : Int) = 4)) = true; simp; omega) ?_
          walk_at "s"
          exact k
        all_goals
          walk_at "s"
          exact k
end
end RS

set_option maxRecDepth 100000
set_option maxHeartbeats 4000000
namespace RS
open PySem PySem.Spec PyProof.Rows L2 NdefX He PySem.W LamX
variable [Tbls]
section
variable {P : Program} {w : World} {K : PySem.W.Frag} {mg : Str → Option Value} {base : Heap} {C_BadRay C_Curve C_ScaleError : Addr}
theorem IOk.new {M : MS} {d : D} {p : Addr} {m : MO} (h : IOk M d) (hp : M p = none) : IOk (updM M p m) d := h.imp (fun ⟨ys, l, o⟩ => ⟨ys, l.new hp, o⟩) id
theorem IOk.item {M : MS} {d : D} {p : Addr} {m : MO} (h : IOk M d) (hp : M p = none) : itemF (updM M p m) d = itemF M d := by
  rcases h with ⟨ys, l, _⟩ | ⟨pl, nl⟩
  · rw [l.item, (l.new hp).item]
  · rw [NL.item pl nl, NL.item pl nl]
theorem cornF_new {M : MS} {p : Addr} {m : MO} (hp : M p = none) : ∀ {xs : List D}, (∀ d ∈ xs, IOk M d) → cornF (updM M p m) xs = cornF M xs
  | [], _ => rfl
  | d :: xs, h => by
    unfold cornF
    rw [(h d (List.mem_cons_self ..)).item hp, cornF_new hp fun x hx => h x (List.mem_cons_of_mem _ hx)]
theorem CoOk.new {M : MS} {co : D} {cs : Option (List (Rat × Rat))} {p : Addr} {m : MO} (h : CoOk M co cs) (hp : M p = none) : CoOk (updM M p m) co cs := by
  refine ⟨h.1.imp (fun ⟨xs, l, few, ok, e⟩ => ⟨xs, l.new hp, few, fun d hd => (ok d hd).new hp, ?_⟩) id, h.2⟩
  rw [cornF_new hp ok]
  exact e
/-- what stands where a ray should: as a ray it is o -/
def ValOk (M : MS) (v : D) (o : Option Ray) : Prop := (∃ (lo hi way co : D) (cs : Option (List (Rat × Rat))), v = .tup [lo, hi, way, co] ∧ NumOk lo ∧ NumOk hi ∧ Pln way ∧ CoOk M co cs ∧ SzO lo ∧ SzO hi ∧ o = rayF lo hi way cs) ∨ (Pln v ∧ (∀ xs, v = .tup xs → xs.length ≠ 4) ∧ o = none)
theorem ValOk.new {M : MS} {v : D} {o : Option Ray} {p : Addr} {m : MO} (h : ValOk M v o) (hp : M p = none) : ValOk (updM M p m) v o := h.imp (fun ⟨lo, hi, way, co, cs, a, b, c, d, e, f⟩ => ⟨lo, hi, way, co, cs, a, b, c, d, e.new hp, f⟩) id
inductive ValsOk (M : MS) : List D → List (Option Ray) → Prop where
  | nil : ValsOk M [] []
  | cons {v : D} {o : Option Ray} {vs : List D} {os : List (Option Ray)} (h : ValOk M v o) (r : ValsOk M vs os) : ValsOk M (v :: vs) (o :: os)
def crvF : List Ray → Nat → List (Option Ray) → Except Nat (List Ray)
  | kept, _, [] => .ok kept
  | _, j, none :: _ => .error j
  | kept, j, some r :: os => match kept.getLast? with
    | some b => if abvB r b = true then crvF (kept ++ [r]) (j + 1) os else .error j
    | none => crvF (kept ++ [r]) (j + 1) os
abbrev s_Curve___init__ : Stmt := inClass (top 25) 0
theorem sc_Curve___init__ : FnScope ["self", "rays", "kept", "index", "value", "ray"] ["self", "rays"] (defScope s_Curve___init__) := ⟨rfl, rfl, rfl, by decide +kernel, rfl, by decide +kernel, by decide +kernel⟩
def sp_Curve___init__ (C_BadRay C_Curve : Addr) : SpD := fun ds M R W => match ds with
  | [s, d] => ∃ (p : Addr) (vs : List D) (os : List (Option Ray)), s = .ref p ∧ M p = some (.ins C_Curve []) ∧ LV M d vs ∧ ValsOk M vs os ∧ (∀ r, some r ∈ os → RayK r) ∧ vs.length ≤ 100 ∧
    (match crvF [] 0 os with
    | .ok rs => R .non (updM M p (.ins C_Curve [("rays", .tup (rs.map rayD))]))
    | .error j => W C_BadRay [("index", .int (j : Nat))] M)
  | _ => False
theorem ok_Curve___init__ {dvs : List V} {f : Addr} {fd : FuncData} (F : FunD K "__init__" "Curve.__init__" (defArgs s_Curve___init__) (defBody s_Curve___init__) (defScope s_Curve___init__) dvs [] f fd) (T : Fx K mg C_BadRay C_Curve C_ScaleError) (M_BadRay : Exk P w K mg base "BadRay" C_BadRay ["index"]) (M_lies_above : Cal P w K mg base (L2N.CX P w) 3 "lies_above" ["ray", "before"] [] (upSp K sp_lies_above)) (M_ray_of : Cal P w K mg base (L2N.CX P w) 4 "ray_of" ["value"] [] (upSp K sp_ray_of)) :
    FnOk P w K mg base (L2N.CX P w) 5 f fd ["self", "rays"] (upSp K (sp_Curve___init__ C_BadRay C_Curve)) := by
  refine okDN (k := 4) F sc_Curve___init__ (fun ds M R W h => ?_) (fun cdv A outer s H E hr hx tk => ⟨_, (dss_cons (ds_set 2 sc_Curve___init__.nd (de_lstM da_nil))
      (dss_cons (ds_forC (passes_of rfl) rfl (dic_enum2 T.b_enumerate (da_cons (de_v 1) da_nil)) (dg_tup (K := K) (n := 2) rfl (by rfl) (dgs_cons (dg_name 3 sc_Curve___init__.nd) (dgs_cons (dg_name 4 sc_Curve___init__.nd) dgs_nil))) (dss_cons (ds_set 5 sc_Curve___init__.nd (de_fn M_ray_of Dfl.nil (hr.mono (by decide)) hx (da_cons (de_v 4) da_nil)))
      (dss_cons (ds_if (DW.t (dw_or (dt_cmp op_isN ro_isN (de_v 5) de_non (nomark _)) (dw_or1 (DW.t (dw_and (dt_tru (de_v 2)) (dw_and1 (dt_not (dt_val (de_fn M_lies_above Dfl.nil (hr.mono (by decide)) hx (da_cons (de_v 5) (da_cons (de_ix (de_v 2) (de_neg de_int) (fun _ _ => rfl)) da_nil))))))))))) (dss_one (dsN_raise rfl tk M_BadRay (hr.mono (by decide)) (da_cons (de_v 3) da_nil))) dss_nil)
      (dss_one (ds_expr (de_bm PySem.F.slot_list_append PySem.F.type_list_append mt_append rm_append (de_v 2) (da_cons (de_v 5) da_nil)))))))
      (dss_one (ds_fld (K := K) rfl "rays" 0 (de_v 0) (de_bt call_tuple_of rc_tuple T.b_tuple (by decide +kernel) (da_cons (de_v 2) da_nil)))))), fun ds M R W h => ?_⟩)
  · match ds, h with | [_, _], _ => rfl
  · match ds, h with
    | [s, d], h =>
      obtain ⟨p, vs, os, rfl, hp, lv, vo, ok, few, k⟩ := h
      have at1 := T.at_Curve_rays
      walk_at "s"
      refine fun q hq => ?_
      have pq : p ≠ q := by rintro rfl; rw [hp] at hq; cases hq
      have bad : ∀ {jj : Nat}, crvF [] 0 os = .error jj → ∀ M', SubM M M' → Wt W C_BadRay [("index", .int (jj : Nat))] M' := fun e M' sb => by
        rw [e] at k
        exact ⟨M, sb, k⟩
      rcases lv with rfl | rfl | ⟨a, rfl, ea⟩
      all_goals
        walk_at "s"
        first
        | (refine .inl ?_
           walk_at "s"
           have ea2 : ∀ m, (updM M q m) a = some (.lst vs) := fun m => by
             rw [updM_ne (by rintro rfl; rw [hq] at ea; cases ea)]
             exact ea
           rw [ea2]
           walk_at "s")
        | (refine .inr ?_; walk_at "s"; show dLoopC _ _ _ _ _ _ _)
        | (refine .inl ?_; walk_at "s"; show dLoopC _ _ _ _ _ _ _)
        refine dLoopC_ind (fun r τ M' => ∃ (j : Nat) (v2 : List D) (o2 : List (Option Ray)) (kept : List Ray) (v3 v4 v5 : Option D), r = enumD j v2 ∧ ValsOk M v2 o2 ∧ crvF [] 0 os = crvF kept j o2 ∧ (∀ r, some r ∈ o2 → RayK r) ∧ (∀ r ∈ kept, RayK r) ∧ kept.length + v2.length ≤ 100 ∧ τ = [some (.ref p), some _, some (.ref q), v3, v4, v5] ∧ M' = updM M q (.lst (kept.map rayD))) ⟨0, vs, os, [], _, _, _, rfl, vo, rfl, ok, (by simp), (by simpa using few), rfl, rfl⟩ ?_ ?_
        · rintro _ r _ _ ⟨j, v2, o2, kept, v3, v4, v5, e1, vo2, ec, ok2, okk, lk, rfl, rfl⟩ ih
          cases vo2 with
          | nil => cases e1
          | cons hv vo2 =>
          rename_i v o v2 o2
          cases e1
          have sb : SubM M (updM M q (.lst (kept.map rayD))) := (SubM.refl M).new hq
          have hv2 := hv.new (m := .lst (kept.map rayD)) hq
          have lt : (kept.map rayD).length < sizeLine := by rw [List.length_map]; simp at lk; exact lt_line (by omega)
          walk_at "s"
          rcases hv2 with ⟨lo, hi, way, co, cs, rfl, n1, n2, pw, co2, z1, z2, eo⟩ | ⟨pl, nl, eo⟩
          · refine .inl ⟨lo, hi, way, co, cs, rfl, n1, n2, pw, co2, z1, z2, ?_⟩
            rw [← eo]
            cases ho : o with
            | none =>
              rw [ho] at ec
              walk_at "s"
              exact bad ec _ sb
            | some x =>
              rw [ho] at ec ok2
              have ox := ok2 x (List.mem_cons_self ..)
              have fin : crvF [] 0 os = crvF (kept ++ [x]) (j + 1) o2 → (kept ++ [x]).length + v2.length ≤ 100 ∧ (∀ r, some r ∈ o2 → RayK r) ∧ (∀ r ∈ kept ++ [x], RayK r) ∧ (kept.map rayD) ++ [rayD x] = (kept ++ [x]).map rayD := fun _ => by
                refine ⟨by simp at lk ⊢; omega, fun r hr => ok2 r (List.mem_cons_of_mem _ hr), fun r hr => ?_, by rw [List.map_append]; rfl⟩
                rcases List.mem_append.mp hr with hr | hr
                · exact okk r hr
                · rw [List.mem_singleton.mp hr]
                  exact ox
              rcases List.eq_nil_or_concat kept with rfl | ⟨k0, b, rfl⟩
              · obtain ⟨f1, f2, f3, f4⟩ := fin ec
                walk_at "s"
                rw [updM_updM]
                first | exact (ih _ _ ⟨j + 1, v2, o2, [x], _, _, _, rfl, vo2, ec, f2, f3, f1, rfl, rfl⟩ (by first | exact trivial | exact ea2 _)).2 | exact ih _ _ ⟨j + 1, v2, o2, [x], _, _, _, rfl, vo2, ec, f2, f3, f1, rfl, rfl⟩ (by first | exact trivial | exact ea2 _)
              · simp only [List.concat_eq_append] at ec fin lt okk lk sb ⊢
                have ob := okk b (by simp)
                have e2 : crvF (k0 ++ [b]) j (some x :: o2) = if abvB x b = true then crvF (k0 ++ [b] ++ [x]) (j + 1) o2 else .error j := by rw [crvF, List.getLast?_concat]
                rw [e2] at ec
                simp only [List.map_append, List.map_cons, List.map_nil] at lt sb ⊢
                walk_at "s"
                refine dIte_te (by simp) ?_
                walk_at "s"
                refine ⟨x, b, rfl, rfl, ox, ob, ?_⟩
                walk_at "s"
                cases hab : abvB x b with
                | false =>
                  rw [hab, if_neg nofun] at ec
                  walk_at "s"
                  exact bad ec _ sb
                | true =>
                  rw [hab, if_pos rfl] at ec
                  obtain ⟨f1, f2, f3, f4⟩ := fin ec
                  simp only [List.map_append, List.map_cons, List.map_nil] at f4
                  walk_at "s"
                  rw [updM_updM]
                  first | exact (ih _ _ ⟨j + 1, v2, o2, k0 ++ [b] ++ [x], _, _, _, rfl, vo2, ec, f2, f3, f1, rfl, by simp only [List.map_append, List.map_cons, List.map_nil]; rfl⟩ (by first | exact trivial | exact ea2 _)).2 | exact ih _ _ ⟨j + 1, v2, o2, k0 ++ [b] ++ [x], _, _, _, rfl, vo2, ec, f2, f3, f1, rfl, by simp only [List.map_append, List.map_cons, List.map_nil]; rfl⟩ (by first | exact trivial | exact ea2 _)
          · refine .inr ⟨pl, nl, ?_⟩
            subst eo
            walk_at "s"
            exact bad ec _ sb
        · rintro _ _ ⟨j, v2, o2, kept, v3, v4, v5, e1, vo2, ec, ok2, okk, lk, rfl, rfl⟩
          cases vo2 with
          | cons hv vo2 => cases e1
          | nil =>
          have ec2 : crvF [] 0 os = .ok kept := ec
          rw [ec2] at k
          walk_at "s"
          rw [updM_ne pq, hp]
          walk_at "s"
          refine ⟨_, ?_, k⟩
          refine SubM.upd' fun a m ha e => ?_
          have hb : a ≠ q := by rintro rfl; rw [hq] at e; cases e
          rw [updM_ne hb]
          exact e
abbrev s_Curve_kinds : Stmt := inClass (top 25) 4
theorem sc_Curve_kinds : FnScope ["self"] ["self"] (defScope s_Curve_kinds) := ⟨rfl, rfl, rfl, by decide +kernel, rfl, by decide +kernel, by decide +kernel⟩
def sp_Curve_kinds (C_Curve : Addr) : SpD := fun ds M R W => match ds with
  | [s] => ∃ rs : List Ray, s = curD C_Curve rs ∧ (∀ r ∈ rs, RayK r) ∧ rs.length ≤ 100 ∧ R (.tup ((kndQ rs).map .str)) M
  | _ => False
theorem ok_Curve_kinds {f : Addr} {fd : FuncData} (F : FnP K "kinds" "Curve.kinds" s_Curve_kinds f fd) (T : Fx K mg C_BadRay C_Curve C_ScaleError) :
    FnOk P w K mg base (L2N.CX P w) 1 f fd ["self"] (upSp K (sp_Curve_kinds C_Curve)) := by
  refine okDN (k := 0) F sc_Curve_kinds (fun ds M R W h => ?_) (fun cdv A outer s H E hr hx tk => ⟨_, (dss_cons (ds_if (DW.t (dw_or (dt_cmp (op_neA hr.units) ro_neA (de_bi call_len rc_len T.b_len PySem.boot_len (da_cons (de_fld (K := K) rfl "rays" 0 (de_v 0)) da_nil)) de_int (nomark _)) (dw_or (dt_cmp op_notN ro_notN (de_ix (de_ix (de_fld (K := K) rfl "rays" 0 (de_v 0)) de_int (fun _ _ => rfl)) de_int (fun _ _ => rfl)) de_non (nomark _)) (dw_or1 (dt_cmp op_notN ro_notN (de_ix (de_ix (de_fld (K := K) rfl "rays" 0 (de_v 0)) de_int (fun _ _ => rfl)) de_int (fun _ _ => rfl)) de_non (nomark _)))))) (dss_one (ds_ret (de_tup (da_cons de_str da_nil)))) dss_nil)
      (dss_cons (ds_if (dt_cmp (op_eqA hr.units) ro_eqA (de_ix (de_ix (de_fld (K := K) rfl "rays" 0 (de_v 0)) de_int (fun _ _ => rfl)) de_int (fun _ _ => rfl)) de_int (nomark _)) (dss_one (ds_ret (de_tup (da_cons de_str (da_cons de_str da_nil))))) dss_nil)
      (dss_one (ds_ret (de_tup (da_cons de_str (da_cons de_str da_nil))))))), fun ds M R W h => ?_⟩)
  · match ds, h with | [_], _ => rfl
  · match ds, h with
    | [s], h =>
      obtain ⟨rs, rfl, ok, few, k⟩ := h
      have at1 := T.at_Curve_rays
      have k2 := Rt.of (R := R) k
      match rs, k2 with
      | [], k2 =>
        walk_at "s"
        exact k2
      | [⟨lo, hi, w, cs⟩], k2 =>
        cases lo with
        | some lo =>
          walk_at "s"
          exact k2
        | none =>
          cases hi with
          | some hi =>
            walk_at "s"
            exact k2
          | none =>
            have ek : kndQ [⟨none, none, w, cs⟩] = (if w = 1 then ([("free" : Str), "rising"] : List Str) else [("free" : Str), "falling"]) := rfl
            rw [ek] at k2
            walk_at "s"
            refine dIte_d (c := w = 1) (fun h0 => ?_) (fun h0 => ?_)
            · rw [if_pos h0] at k2
              walk_at "s"
              exact k2
            · rw [if_neg h0] at k2
              walk_at "s"
              exact k2
      | a :: b :: r, k2 =>
        have ek : kndQ (a :: b :: r) = ([("free" : Str)] : List Str) := by
          obtain ⟨lo, hi, w, cs⟩ := a
          cases lo <;> cases hi <;> rfl
        rw [ek] at k2
        have lr : ((a :: b :: r).map rayD).length = r.length + 2 := by simp
        walk_at "s"
        exact k2
end
end RS

set_option maxRecDepth 100000
set_option maxHeartbeats 4000000
namespace RS
open PySem PySem.Spec PyProof.Rows L2 NdefX He PySem.W LamX
variable [Tbls]
section
variable {P : Program} {w : World} {K : PySem.W.Frag} {mg : Str → Option Value} {base : Heap} {C_BadRay C_Curve C_ScaleError : Addr}
abbrev s__law_pick : Stmt := top 29
theorem sc__law_pick : FnScope ["_law_pen_here", "_law_items"] ["_law_pen_here", "_law_items"] (defScope s__law_pick) := ⟨rfl, rfl, rfl, by decide +kernel, rfl, by decide +kernel, by decide +kernel⟩
def sp__law_pick : SpD := fun ds M R W => match ds with
  | [g, d] => ∃ (p : Addr) (m : MO) (xs : List D) (b : Nat), g = .ref p ∧ d = .lst xs ∧ xs ≠ [] ∧ xs.length ≤ 8000 ∧ M p = some m ∧ Pn.PenM m (b + 1) ∧ ∀ x m2, x ∈ xs → Pn.PenM m2 b → R x (updM M p m2)
  | _ => False
theorem ok__law_pick {f : Addr} {fd : FuncData} (F : FnP K "_law_pick" "_law_pick" s__law_pick f fd) (T : Fx K mg C_BadRay C_Curve C_ScaleError) (M__law_draw : Cal P w K mg base (L2N.CX P w) 1 "_law_draw" ["_law_pen_here", "_law_many"] [] (upSp K Pn.spDrawD)) :
    FnOk P w K mg base (L2N.CX P w) 2 f fd ["_law_pen_here", "_law_items"] (upSp K sp__law_pick) := by
  refine okDN (k := 1) F sc__law_pick (fun ds M R W h => ?_) (fun cdv A outer s H E hr hx tk => ⟨_, (dss_one (ds_ret (de_ix (de_v 1) (de_fn M__law_draw Dfl.nil (hr.mono (by decide)) hx (da_cons (de_v 0) (da_cons (de_bi call_len rc_len T.b_len PySem.boot_len (da_cons (de_v 1) da_nil)) da_nil))) (fun _ _ => rfl)))), fun ds M R W h => ?_⟩)
  · match ds, h with | [_, _], _ => rfl
  · match ds, h with
    | [g, d], h =>
      obtain ⟨p, m, xs, b, rfl, rfl, ne, few, hp, hb, k⟩ := h
      have l1 : 1 ≤ xs.length := List.length_pos_iff.mpr ne
      walk_at "s"
      refine ⟨p, m, _, b, rfl, by omega, log_ok (by omega), hp, hb, fun z m1 z0 z1 b1 => ?_⟩
      obtain ⟨i, rfl⟩ : ∃ i : Nat, z = (i : Int) := ⟨z.toNat, by omega⟩
      have hi : i < xs.length := by omega
      walk_at "w"
      rw [atD_nat hi, List.getElem?_eq_getElem hi]
      walk_at "s"
      exact ⟨_, SubM.refl _, k _ _ (List.getElem_mem hi) b1⟩
abbrev s__law_number : Stmt := top 30
theorem sc__law_number : FnScope ["_law_top", "_law_low", "_law_one", "_law_two"] ["_law_top", "_law_low"] (defScope s__law_number) := ⟨rfl, rfl, rfl, by decide +kernel, rfl, by decide +kernel, by decide +kernel⟩
def sp__law_number : SpD := fun ds M R W => match ds with
  | [a, b] => ∃ x y : Int, a = .int x ∧ b = .int y ∧ y ≠ 0 ∧ Bd 8000 y ∧ R (qN (Rat.divInt x y)) M
  | _ => False
theorem ok__law_number {f : Addr} {fd : FuncData} (F : FnP K "_law_number" "_law_number" s__law_number f fd) (T : Fx K mg C_BadRay C_Curve C_ScaleError) :
    FnOk P w K mg base (L2N.CX P w) 1 f fd ["_law_top", "_law_low"] (upSp K sp__law_number) := by
  refine okDN (k := 0) F sc__law_number (fun ds M R W h => ?_) (fun cdv A outer s H E hr hx tk => ⟨_, (dss_cons (ds_par sc__law_number.nd (da_cons (de_bi call_abs rc_abs T.b_abs (by decide +kernel) (da_cons (de_v 0) da_nil)) (da_cons (de_bi call_abs rc_abs T.b_abs (by decide +kernel) (da_cons (de_v 1) da_nil)) da_nil)) (fun ha => ps_par (i := 2) (j := 3) (by rfl) sc__law_number.nd rfl rfl (by decide) rfl rfl ha (by rfl)))
      (dss_cons (ds_while (passes_of rfl) (dt_cmp (op_neA hr.units) ro_neA (de_v 3) de_int (nomark _)) (dss_one (ds_par sc__law_number.nd (da_cons (de_v 3) (da_cons (de_op op_modN ro_ii (de_bt call_int1 rc_int T.b_int (by decide +kernel) (da_cons (de_v 2) da_nil)) (de_v 3)) da_nil)) (fun ha => ps_par (i := 2) (j := 3) (by rfl) sc__law_number.nd rfl rfl (by decide) rfl rfl ha (by rfl)))))
      (dss_cut (ds_if (dt_cmp op_lt ro_b0 (de_v 1) de_int (nomark _)) (dss_one (ds_set 2 sc__law_number.nd (de_neg (de_v 2)))) dss_nil)
      (dss_one (ds_ret (de_tup (da_cons (de_op op_fdivNW ro_ii (de_v 0) (de_v 2)) (da_cons (de_op op_fdivNW ro_ii (de_v 1) (de_v 2)) da_nil)))))))), fun ds M R W h => ?_⟩)
  · match ds, h with | [_, _], _ => rfl
  · match ds, h with
    | [a, b], h =>
      obtain ⟨x, y, rfl, rfl, hy, by_, k⟩ := h
      walk_at "s"
      rw [abs_if, abs_if]
      refine dWhile_ind (fun n τ M' => ∃ a : Nat, τ = [some (.int x), some (.int y), some (.int (a : Int)), some (.int (n : Int))] ∧ M' = M ∧ Int.gcd (a : Int) (n : Int) = Int.gcd x y) ⟨x.natAbs, rfl, rfl, by rw [Int.gcd_eq_natAbs_gcd_natAbs, Int.gcd_eq_natAbs_gcd_natAbs]; simp⟩ ?_
      rintro n τ M1 ⟨a, rfl, rfl, e⟩ W ih
      walk_at "s"
      refine dIte_nd (c := (n : Int) = 0) (fun h0 => ?_) (fun h0 => ?_)
      · walk_at "s"
        have e1 : (a : Int).fmod (n : Int) = ((a % n : Nat) : Int) := by
          rw [Int.fmod_eq_emod_of_nonneg _ (by omega)]
          exact (Int.natCast_emod a n).symm
        refine ih (a % n) _ _ (Nat.mod_lt _ (by omega)) ⟨n, ?_, rfl, ?_⟩
        · show [some (D.int x), some (D.int y), some (D.int (n : Int)), some (D.int ((a : Int).fmod (n : Int)))] = _
          rw [e1]
        · rw [← e, Int.natCast_emod]
          exact gcd_step a n
      · have e2 : n = 0 := by omega
        subst e2
        have e3 : nG x y = (a : Int) := by
          unfold nG
          rw [← e]
          simp
        refine ⟨fun τ' M' => τ' = [some (.int x), some (.int y), some (.int (nP x y)), some (.int ((0 : Nat) : Int))] ∧ M' = M1, ?_, ?_⟩
        · walk_at "s"
          refine dIte_d (c := y < 0) (fun hl => ?_) (fun hl => ?_)
          · walk_at "s"
            refine ⟨?_, rfl⟩
            rw [nP, if_pos hl, e3]
            rfl
          · walk_at "s"
            refine ⟨?_, rfl⟩
            rw [nP, if_neg hl, e3]
            try rfl
        · rintro _ _ ⟨rfl, rfl⟩
          have lg : (nP x y).natAbs.log2 < 9000 := (by_.le (nP_le hy)).log (by omega)
          walk_at "s"
          refine ⟨⟨nP_ne hy, lg⟩, ?_⟩
          walk_at "s"
          refine ⟨⟨nP_ne hy, lg⟩, ?_⟩
          walk_at "s"
          refine ⟨_, SubM.refl _, ?_⟩
          show R (.tup [.int (x.fdiv (nP x y)), .int (y.fdiv (nP x y))]) _
          rw [(num_of hy).1, (num_of hy).2]
          exact k
abbrev s__law_plus : Stmt := top 31
theorem sc__law_plus : FnScope ["_law_a", "_law_b", "_law_sign"] ["_law_a", "_law_b", "_law_sign"] (defScope s__law_plus) := ⟨rfl, rfl, rfl, by decide +kernel, rfl, by decide +kernel, by decide +kernel⟩
def sp__law_plus : SpD := fun ds M R W => match ds with
  | [a, b, c] => ∃ (x y : Rat) (s : Int) (k l : Nat), a = qN x ∧ QP b y l ∧ c = .int s ∧ Sz k x ∧ k + l ≤ 7900 ∧ ((s = 1 ∧ R (qN (x + y)) M) ∨ (s = -1 ∧ R (qN (x - y)) M))
  | _ => False
theorem ok__law_plus {f : Addr} {fd : FuncData} (F : FnP K "_law_plus" "_law_plus" s__law_plus f fd) (T : Fx K mg C_BadRay C_Curve C_ScaleError) (M__law_number : Cal P w K mg base (L2N.CX P w) 1 "_law_number" ["_law_top", "_law_low"] [] (upSp K sp__law_number)) :
    FnOk P w K mg base (L2N.CX P w) 2 f fd ["_law_a", "_law_b", "_law_sign"] (upSp K sp__law_plus) := by
  refine okDN (k := 1) F sc__law_plus (fun ds M R W h => ?_) (fun cdv A outer s H E hr hx tk => ⟨_, (dss_one (ds_ret (de_fn M__law_number Dfl.nil (hr.mono (by decide)) hx (da_cons (de_op op_addD ro_add (de_op op_mulD ro_mul (de_ix (de_v 0) de_int (fun _ _ => rfl)) (de_ix (de_v 1) de_int (fun _ _ => rfl))) (de_op op_mulD ro_mul (de_op op_mulD ro_mul (de_v 2) (de_ix (de_v 1) de_int (fun _ _ => rfl))) (de_ix (de_v 0) de_int (fun _ _ => rfl)))) (da_cons (de_op op_mulD ro_mul (de_ix (de_v 0) de_int (fun _ _ => rfl)) (de_ix (de_v 1) de_int (fun _ _ => rfl))) da_nil))))), fun ds M R W h => ?_⟩)
  · match ds, h with | [_, _, _], _ => rfl
  · match ds, h with
    | [a, b, c], h =>
      obtain ⟨x, y, s, k1, l1, rfl, ⟨u, v, rfl, hv, hu1, hv1, rfl⟩, rfl, h1, hk, k⟩ := h
      have bs : Bd 2 s := by rcases k with ⟨e, _⟩ | ⟨e, _⟩ <;> (rw [e]; unfold Bd; decide)
      have sl : Bd l1 (s * u) := by
        rcases k with ⟨e, _⟩ | ⟨e, _⟩
        · rw [e, Int.one_mul]; exact hu1
        · rw [e, Int.neg_mul, Int.one_mul]; exact hu1.neg
      walk_at "s"
      refine ⟨h1.1.w hv1 (by omega) (by omega), ?_⟩
      walk_at "s"
      refine ⟨bs.w hu1 (by omega) (by omega), ?_⟩
      walk_at "s"
      refine ⟨sl.w h1.2 (by omega) (by omega), ?_⟩
      walk_at "s"
      refine ⟨h1.2.w hv1 (by omega) (by omega), ?_⟩
      walk_at "s"
      refine ⟨_, _, rfl, rfl, Int.mul_ne_zero (den_ne x) hv, (h1.2.mul hv1).mono (by omega), ?_⟩
      rcases k with ⟨e, k⟩ | ⟨e, k⟩
      · have e2 : x.num * v + s * u * (x.den : Int) = x.num * v + u * x.den := by rw [e, Int.one_mul]
        rw [e2, ← Rat.divInt_add_divInt _ _ (den_ne x) hv, Rat.num_divInt_den]
        exact Rt.of k
      · have e2 : x.num * v + s * u * (x.den : Int) = x.num * v - u * x.den := by rw [e, Int.neg_mul, Int.one_mul, Int.neg_mul, Int.sub_eq_add_neg]
        rw [e2, ← Rat.divInt_sub_divInt _ _ (den_ne x) hv, Rat.num_divInt_den]
        exact Rt.of k
abbrev s__law_corners : Stmt := top 32
theorem sc__law_corners : FnScope ["_law_pen_here", "_law_start", "_law_most", "_law_k", "_law_clock", "_law_place", "_law_corners_here"] ["_law_pen_here", "_law_start", "_law_most"] (defScope s__law_corners) := ⟨rfl, rfl, rfl, by decide +kernel, rfl, by decide +kernel, by decide +kernel⟩
def sp__law_corners : SpD := fun ds M R W => match ds with
  | [g, a, c] => ∃ (p : Addr) (m : MO) (x : Rat) (i b k : Nat), g = .ref p ∧ a = qN x ∧ c = .int i ∧ 1 ≤ i ∧ i ≤ 3 ∧ Sz k x ∧ k ≤ 2000 ∧ M p = some m ∧ Pn.PenM m (b + 30) ∧
    ∀ (cs : List (Rat × Rat)) (y : Rat) m2 (q : Addr), cs ≠ [] → cs.length ≤ i → AscQ cs → (∀ c ∈ cs, Sz 40 c.1 ∧ Sz (k + 18) c.2) → (∀ c, cs.head? = some c → x < c.2) → (∀ c, cs.getLast? = some c → c.2 < y) → Sz (k + 24) y → Pn.PenM m2 b → M q = none → q ≠ p → R (.tup [.ref q, qN y]) (updM (updM M p m2) q (.lst (cs.map cD)))
  | _ => False
theorem ok__law_corners {f : Addr} {fd : FuncData} (F : FnP K "_law_corners" "_law_corners" s__law_corners f fd) (T : Fx K mg C_BadRay C_Curve C_ScaleError) (M__law_draw : Cal P w K mg base (L2N.CX P w) 1 "_law_draw" ["_law_pen_here", "_law_many"] [] (upSp K Pn.spDrawD)) (M__law_number : Cal P w K mg base (L2N.CX P w) 1 "_law_number" ["_law_top", "_law_low"] [] (upSp K sp__law_number)) (M__law_plus : Cal P w K mg base (L2N.CX P w) 2 "_law_plus" ["_law_a", "_law_b", "_law_sign"] [] (upSp K sp__law_plus)) :
    FnOk P w K mg base (L2N.CX P w) 3 f fd ["_law_pen_here", "_law_start", "_law_most"] (upSp K sp__law_corners) := by
  refine okDN (k := 2) F sc__law_corners (fun ds M R W h => ?_) (fun cdv A outer s H E hr hx tk => ⟨_, (dss_cons (ds_par3 sc__law_corners.nd (da_cons (de_fn M__law_number Dfl.nil (hr.mono (by decide)) hx (da_cons (de_op op_sub ro_i0 (de_fn M__law_draw Dfl.nil (hr.mono (by decide)) hx (da_cons (de_v 0) (da_cons de_int da_nil))) de_int) (da_cons (de_op op_addD ro_add de_int (de_fn M__law_draw Dfl.nil (hr.mono (by decide)) hx (da_cons (de_v 0) (da_cons de_int da_nil)))) da_nil))) (da_cons (de_v 1) (da_cons (de_lstM da_nil) da_nil))) (fun ha => ps_par3 (i := 4) (j := 5) (l := 6) (by rfl) sc__law_corners.nd rfl rfl rfl (by decide) (by decide) (by decide) rfl rfl rfl ha (by rfl)))
      (dss_cons (ds_for (passes_of rfl) rfl (di_rng1 T.b_range (da_cons (de_op op_addD ro_add de_int (de_fn M__law_draw Dfl.nil (hr.mono (by decide)) hx (da_cons (de_v 0) (da_cons (de_v 2) da_nil)))) da_nil)) (dg_name 3 sc__law_corners.nd) (dss_cons (ds_set 5 sc__law_corners.nd (de_fn M__law_plus Dfl.nil (hr.mono (by decide)) hx (da_cons (de_v 5) (da_cons (de_fn M__law_number Dfl.nil (hr.mono (by decide)) hx (da_cons (de_op op_addD ro_add de_int (de_fn M__law_draw Dfl.nil (hr.mono (by decide)) hx (da_cons (de_v 0) (da_cons de_int da_nil)))) (da_cons (de_op op_addD ro_add de_int (de_fn M__law_draw Dfl.nil (hr.mono (by decide)) hx (da_cons (de_v 0) (da_cons de_int da_nil)))) da_nil))) (da_cons de_int da_nil)))))
      (dss_cons (ds_set 4 sc__law_corners.nd (de_fn M__law_plus Dfl.nil (hr.mono (by decide)) hx (da_cons (de_v 4) (da_cons (de_fn M__law_number Dfl.nil (hr.mono (by decide)) hx (da_cons (de_op op_addD ro_add de_int (de_fn M__law_draw Dfl.nil (hr.mono (by decide)) hx (da_cons (de_v 0) (da_cons de_int da_nil)))) (da_cons (de_op op_addD ro_add de_int (de_fn M__law_draw Dfl.nil (hr.mono (by decide)) hx (da_cons (de_v 0) (da_cons de_int da_nil)))) da_nil))) (da_cons de_int da_nil)))))
      (dss_one (ds_expr (de_bm PySem.F.slot_list_append PySem.F.type_list_append mt_append rm_append (de_v 6) (da_cons (de_tup (da_cons (de_v 4) (da_cons (de_v 5) da_nil))) da_nil)))))))
      (dss_one (ds_ret (de_tup (da_cons (de_v 6) (da_cons (de_fn M__law_plus Dfl.nil (hr.mono (by decide)) hx (da_cons (de_v 5) (da_cons (de_fn M__law_number Dfl.nil (hr.mono (by decide)) hx (da_cons (de_op op_addD ro_add de_int (de_fn M__law_draw Dfl.nil (hr.mono (by decide)) hx (da_cons (de_v 0) (da_cons de_int da_nil)))) (da_cons (de_op op_addD ro_add de_int (de_fn M__law_draw Dfl.nil (hr.mono (by decide)) hx (da_cons (de_v 0) (da_cons de_int da_nil)))) da_nil))) (da_cons de_int da_nil)))) da_nil))))))), fun ds M R W h => ?_⟩)
  · match ds, h with | [_, _, _], _ => rfl
  · match ds, h with
    | [g, a, c], h =>
      obtain ⟨p, m, x, i, b, k1, rfl, rfl, rfl, hi1, hi3, sx, hk, hp, hb, k⟩ := h
      walk_at "s"
      refine ⟨p, m, 41, b + 29, rfl, by decide, log_ok (by decide), hp, hb, fun z1 m1 z10 z11 b1 => ?_⟩
      walk_at "s"
      refine ⟨p, m1, 6, b + 28, rfl, by decide, log_ok (by decide), updM_same, b1, fun z2 m2 z20 z21 b2 => ?_⟩
      rw [updM_updM]
      walk_at "s"
      refine ⟨_, _, rfl, rfl, by omega, bd_of (n := 6) (by omega) (by decide +kernel), ?_⟩
      have sc0 : Sz 6 (Rat.divInt (z1 - 20) (1 + z2)) := Sz.of (by omega) (bd_of (n := 20) (by omega) (by decide +kernel)) (bd_of (n := 6) (by omega) (by decide +kernel))
      walk_at "s"
      refine fun q hq => ?_
      have pq : q ≠ p := by rintro rfl; rw [updM_same] at hq; cases hq
      walk_at "s"
      refine ⟨p, m2, i, b + 27, rfl, by omega, log_ok (by omega), updM_at pq, b2, fun z m3 z0 z1 b3 => ?_⟩
      rw [updM_swap pq]
      obtain ⟨n, rfl⟩ : ∃ n : Nat, z = (n : Int) := ⟨z.toNat, by omega⟩
      walk_at "s"
      refine ⟨by omega, by omega, ?_⟩
      have e0 : ((1 + (n : Int)).toNat) = 1 + n := by omega
      rw [e0, rangeD_up]
      walk_at "s"
      refine dLoop_ind (fun r τ M' => ∃ (j n2 : Nat) (ds : List (Rat × Rat)) (c y : Rat) (m2 : MO) (v3 : Option D), r = upD j n2 ∧ j + n2 = 1 + n ∧ ds.length = j ∧ τ = [some (.ref p), some (qN x), some (.int (i : Int)), v3, some (qN c), some (qN y), some (.ref q)] ∧ M' = updM (updM M p m2) q (.lst (ds.map cD)) ∧ Pn.PenM m2 (b + 3 + 4 * n2) ∧ Sz (6 + 6 * j) c ∧ Sz (k1 + 6 * j) y ∧ CornS x k1 ds c y) ⟨0, 1 + n, [], _, x, m3, _, rfl, by omega, rfl, rfl, rfl, b3.mono (by omega), sc0, sx, CornS.start x _ k1⟩ ?_ ?_
      · rintro _ r _ _ ⟨j, n2, ds, c, y, m4, v3, e1, e2, e3, rfl, rfl, b4, sc, sy, cs⟩ ih
        cases n2 with
        | zero => cases e1
        | succ n2 =>
        cases e1
        walk_at "s"
        refine ⟨p, m4, 30, b + 3 + 4 * n2 + 3, rfl, by decide, log_ok (by decide), updM_at pq, b4.mono (by omega), fun z3 m5 z30 z31 b5 => ?_⟩
        rw [updM_swap pq]
        walk_at "s"
        refine ⟨p, m5, 7, b + 3 + 4 * n2 + 2, rfl, by decide, log_ok (by decide), updM_at pq, b5, fun z4 m6 z40 z41 b6 => ?_⟩
        rw [updM_swap pq]
        walk_at "s"
        refine ⟨_, _, rfl, rfl, by omega, bd_of (n := 7) (by omega) (by decide +kernel), ?_⟩
        have s1 : Sz 5 (Rat.divInt (1 + z3) (1 + z4)) := Sz.of (by omega) (bd_of (n := 30) (by omega) (by decide +kernel)) (bd_of (n := 7) (by omega) (by decide +kernel))
        have p1 : 0 < Rat.divInt (1 + z3) (1 + z4) := q_pos (by omega) (by omega)
        walk_at "s"
        refine ⟨y, _, 1, _, 5, rfl, QP.of s1, rfl, sy, by omega, .inl ⟨rfl, ?_⟩⟩
        walk_at "s"
        refine ⟨p, m6, 20, b + 3 + 4 * n2 + 1, rfl, by decide, log_ok (by decide), updM_at pq, b6, fun z5 m7 z50 z51 b7 => ?_⟩
        rw [updM_swap pq]
        walk_at "s"
        refine ⟨p, m7, 7, b + 3 + 4 * n2, rfl, by decide, log_ok (by decide), updM_at pq, b7, fun z6 m8 z60 z61 b8 => ?_⟩
        rw [updM_swap pq]
        walk_at "s"
        refine ⟨_, _, rfl, rfl, by omega, bd_of (n := 7) (by omega) (by decide +kernel), ?_⟩
        have s2 : Sz 5 (Rat.divInt (1 + z5) (1 + z6)) := Sz.of (by omega) (bd_of (n := 20) (by omega) (by decide +kernel)) (bd_of (n := 7) (by omega) (by decide +kernel))
        have p2 : 0 < Rat.divInt (1 + z5) (1 + z6) := q_pos (by omega) (by omega)
        walk_at "s"
        refine ⟨c, _, 1, _, 5, rfl, QP.of s2, rfl, sc, by omega, .inl ⟨rfl, ?_⟩⟩
        have lt : (ds.map cD).length < sizeLine := by rw [List.length_map]; exact lt_line (by omega)
        walk_at "s"
        rw [updM_updM]
        refine ih _ _ ⟨j + 1, n2, ds ++ [(c + Rat.divInt (1 + z5) (1 + z6), y + Rat.divInt (1 + z3) (1 + z4))], _, _, m8, _, rfl, by omega, by rw [List.length_append, e3]; rfl, rfl, by rw [List.map_append]; rfl, b8, (sc.add s2).mono (by omega), (sy.add s1).mono (by omega), cs.snoc (lt_addp p2) (lt_addp p1) ((sc.add s2).mono (by omega)) ((sy.add s1).mono (by omega))⟩
      · rintro _ _ ⟨j, n2, ds, c, y, m4, v3, e1, e2, e3, rfl, rfl, b4, sc, sy, cs⟩
        cases n2 with
        | succ n2 => cases e1
        | zero =>
        walk_at "s"
        rw [updM_ne pq] at hq
        refine ⟨p, m4, 20, b + 2, rfl, by decide, log_ok (by decide), updM_at pq, b4.mono (by omega), fun z3 m5 z30 z31 b5 => ?_⟩
        rw [updM_swap pq]
        walk_at "s"
        refine ⟨p, m5, 5, b + 1, rfl, by decide, log_ok (by decide), updM_at pq, b5, fun z4 m6 z40 z41 b6 => ?_⟩
        rw [updM_swap pq]
        walk_at "s"
        refine ⟨_, _, rfl, rfl, by omega, bd_of (n := 5) (by omega) (by decide +kernel), ?_⟩
        have s1 : Sz 5 (Rat.divInt (1 + z3) (1 + z4)) := Sz.of (by omega) (bd_of (n := 20) (by omega) (by decide +kernel)) (bd_of (n := 5) (by omega) (by decide +kernel))
        have p1 : 0 < Rat.divInt (1 + z3) (1 + z4) := q_pos (by omega) (by omega)
        walk_at "s"
        refine ⟨y, _, 1, _, 5, rfl, QP.of s1, rfl, sy, by omega, .inl ⟨rfl, ?_⟩⟩
        walk_at "s"
        refine ⟨_, SubM.refl _, k ds (y + Rat.divInt (1 + z3) (1 + z4)) _ q ?_ (by omega) cs.asc cs.sz cs.hd (fun a e => ?_) ((sy.add s1).mono (by omega)) (b6.mono (by omega)) hq pq⟩
        · intro z
          rw [z] at e3
          simp at e3
          omega
        · rw [cs.lst a e]
          exact lt_addp p1
end
end RS

set_option maxRecDepth 100000
set_option maxHeartbeats 4000000
namespace RS
open PySem PySem.Spec PyProof.Rows L2 NdefX He PySem.W LamX
variable [Tbls]
section
variable {P : Program} {w : World} {K : PySem.W.Frag} {mg : Str → Option Value} {base : Heap} {C_BadRay C_Curve C_ScaleError : Addr}

/-- room left -/
structure RayS (r : Ray) : Prop where
  few : r.cs.length ≤ 3
  szc : ∀ c ∈ r.cs, Sz 130 c.1 ∧ Sz 130 c.2
  szl : ∀ x, r.low = some x → Sz 130 x
  szh : ∀ x, r.high = some x → Sz 130 x
/-- a ray of the law: its corners are a list that changes -/
def rayR (x : Ray × Addr) : D := .tup [oN x.1.low, oN x.1.high, .int x.1.way, .ref x.2]
def CS (M : MS) (xs : List (Ray × Addr)) : Prop := ∀ x ∈ xs, M x.2 = some (.lst (x.1.cs.map cD))
theorem CS.snoc {M : MS} {xs : List (Ray × Addr)} {r : Ray} {c : Addr} {cs : List (Rat × Rat)} (h : CS M xs) (hc : M c = none) (e : r.cs = cs) : CS (updM M c (.lst (cs.map cD))) (xs ++ [(r, c)]) := fun x hx => by
  rcases List.mem_append.mp hx with hx | hx
  · have e1 := h x hx
    have : x.2 ≠ c := by intro z; rw [z, hc] at e1; cases e1
    rw [updM_ne this]; exact e1
  · rw [List.mem_singleton.mp hx]
    show updM M c _ c = _
    rw [updM_same, e]
theorem CS.upd {M : MS} {xs : List (Ray × Addr)} {p : Addr} {m : MO} (h : CS M xs) (hp : ∀ x ∈ xs, x.2 ≠ p) : CS (updM M p m) xs := fun x hx => by
  rw [updM_ne (hp x hx)]; exact h x hx
abbrev s__law_rays : Stmt := top 33
theorem sc__law_rays : FnScope ["_law_pen_here", "_law_most", "_law_place", "_law_k", "_law_many", "_law_rays_here", "_law_low", "_law_high", "_law_corners_here"] ["_law_pen_here", "_law_most"] (defScope s__law_rays) := ⟨rfl, rfl, rfl, by decide +kernel, rfl, by decide +kernel, by decide +kernel⟩
def sp__law_rays : SpD := fun ds M R W => match ds with
  | [g, c] => ∃ (p : Addr) (m : MO) (i b : Nat), g = .ref p ∧ c = .int i ∧ i ≤ 4 ∧ M p = some m ∧ Pn.PenM m (b + 200) ∧
    ∀ (rcs : List (Ray × Addr)) m2 (M2 : MS), rcs.length ≤ i → (∀ r ∈ rcs.map (·.1), RayK r ∧ RayS r) → ChainR (rcs.map (·.1)) → CS M2 rcs → M2 p = some m2 → Pn.PenM m2 b → R (.lst (rcs.map rayR)) M2
  | _ => False
theorem ok__law_rays {f : Addr} {fd : FuncData} (F : FnP K "_law_rays" "_law_rays" s__law_rays f fd) (T : Fx K mg C_BadRay C_Curve C_ScaleError) (M__law_draw : Cal P w K mg base (L2N.CX P w) 1 "_law_draw" ["_law_pen_here", "_law_many"] [] (upSp K Pn.spDrawD)) (M__law_number : Cal P w K mg base (L2N.CX P w) 1 "_law_number" ["_law_top", "_law_low"] [] (upSp K sp__law_number)) (M__law_plus : Cal P w K mg base (L2N.CX P w) 2 "_law_plus" ["_law_a", "_law_b", "_law_sign"] [] (upSp K sp__law_plus)) (M__law_corners : Cal P w K mg base (L2N.CX P w) 3 "_law_corners" ["_law_pen_here", "_law_start", "_law_most"] [] (upSp K sp__law_corners)) :
    FnOk P w K mg base (L2N.CX P w) 4 f fd ["_law_pen_here", "_law_most"] (upSp K sp__law_rays) := by
  refine okDN (k := 3) F sc__law_rays (fun ds M R W h => ?_) (fun cdv A outer s H E hr hx tk => ⟨_, (dss_cons (ds_set 2 sc__law_rays.nd (de_fn M__law_number Dfl.nil (hr.mono (by decide)) hx (da_cons (de_op op_sub ro_i0 (de_fn M__law_draw Dfl.nil (hr.mono (by decide)) hx (da_cons (de_v 0) (da_cons (de_op op_pow ro_ii de_int de_int) da_nil))) de_int) (da_cons (de_op op_addD ro_add de_int (de_fn M__law_draw Dfl.nil (hr.mono (by decide)) hx (da_cons (de_v 0) (da_cons de_int da_nil)))) da_nil))))
      (dss_cons (ds_par sc__law_rays.nd (da_cons (de_fn M__law_draw Dfl.nil (hr.mono (by decide)) hx (da_cons (de_v 0) (da_cons (de_op op_addD ro_add (de_v 1) de_int) da_nil))) (da_cons (de_lstM da_nil) da_nil)) (fun ha => ps_par (i := 4) (j := 5) (by rfl) sc__law_rays.nd rfl rfl (by decide) rfl rfl ha (by rfl)))
      (dss_cons (ds_for (passes_of rfl) rfl (di_rng1 T.b_range (da_cons (de_v 4) da_nil)) (dg_name 3 sc__law_rays.nd) (dss_cons (ds_set 6 sc__law_rays.nd (de_v 2))
      (dss_cut (ds_if (DW.t (dw_and (dt_cmp (op_eqA hr.units) ro_eqA (de_v 3) de_int (nomark _)) (dw_and1 (dt_cmp (op_eqA hr.units) ro_eqA (de_fn M__law_draw Dfl.nil (hr.mono (by decide)) hx (da_cons (de_v 0) (da_cons de_int da_nil))) de_int (nomark _))))) (dss_one (ds_set 6 sc__law_rays.nd de_non)) dss_nil)
      (dss_cons (ds_asg (de_fn M__law_corners Dfl.nil (hr.mono (by decide)) hx (da_cons (de_v 0) (da_cons (de_v 2) (da_cons de_int da_nil)))) (dg_tup (K := K) (n := 2) rfl (by rfl) (dgs_cons (dg_name 8 sc__law_rays.nd) (dgs_cons (dg_name 2 sc__law_rays.nd) dgs_nil))))
      (dss_cons (ds_set 7 sc__law_rays.nd (de_v 2))
      (dss_cut (ds_if (DW.t (dw_and (dt_cmp (op_eqA hr.units) ro_eqA (de_v 3) (de_op op_sub ro_i0 (de_v 4) de_int) (nomark _)) (dw_and1 (dt_cmp (op_eqA hr.units) ro_eqA (de_fn M__law_draw Dfl.nil (hr.mono (by decide)) hx (da_cons (de_v 0) (da_cons de_int da_nil))) de_int (nomark _))))) (dss_one (ds_set 7 sc__law_rays.nd de_non)) dss_nil)
      (dss_cons (ds_expr (de_bm PySem.F.slot_list_append PySem.F.type_list_append mt_append rm_append (de_v 5) (da_cons (de_tup (da_cons (de_v 6) (da_cons (de_v 7) (da_cons (de_op op_sub ro_i0 de_int (de_op op_mulD ro_mul de_int (de_fn M__law_draw Dfl.nil (hr.mono (by decide)) hx (da_cons (de_v 0) (da_cons de_int da_nil))))) (da_cons (de_v 8) da_nil))))) da_nil)))
      (dss_one (ds_set 2 sc__law_rays.nd (de_fn M__law_plus Dfl.nil (hr.mono (by decide)) hx (da_cons (de_v 2) (da_cons (de_tup (da_cons (de_fn M__law_draw Dfl.nil (hr.mono (by decide)) hx (da_cons (de_v 0) (da_cons de_int da_nil))) (da_cons (de_op op_addD ro_add de_int (de_fn M__law_draw Dfl.nil (hr.mono (by decide)) hx (da_cons (de_v 0) (da_cons de_int da_nil)))) da_nil))) (da_cons de_int da_nil)))))))))))))
      (dss_one (ds_ret (de_f 5)))))), fun ds M R W h => ?_⟩)
  · match ds, h with | [_, _], _ => rfl
  · match ds, h with
    | [g, c], h =>
      obtain ⟨p, m, i, b, rfl, rfl, hi3, hp, hb, k⟩ := h
      walk_at "s"
      refine ⟨⟨by decide, by decide, by decide⟩, ?_⟩
      walk_at "s"
      have e6 : (10 : Int) ^ Int.toNat 6 = 1000000 := by decide
      refine ⟨p, m, (10 : Int) ^ Int.toNat 6, b + 199, rfl, by decide, bd_log (k := 20) (by rw [e6]; unfold Bd; decide) (by decide), hp, hb, fun z1 m1 z10 z11 b1 => ?_⟩
      rw [e6] at z11
      walk_at "s"
      refine ⟨p, m1, 9, b + 198, rfl, by decide, log_ok (by decide), updM_same, b1, fun z2 m2 z20 z21 b2 => ?_⟩
      rw [updM_updM]
      walk_at "s"
      refine ⟨_, _, rfl, rfl, by omega, bd_of (n := 9) (by omega) (by decide +kernel), ?_⟩
      have sc0 : Sz 20 (Rat.divInt (z1 - 500000) (1 + z2)) := Sz.of (by omega) (bd_of (n := 500000) (by omega) (by decide +kernel)) (bd_of (n := 9) (by omega) (by decide +kernel))
      walk_at "s"
      refine ⟨p, m2, (i : Int) + 1, b + 197, rfl, by omega, log_ok (by omega), updM_same, b2, fun z m3 z0 z1' b3 => ?_⟩
      rw [updM_updM]
      obtain ⟨n, rfl⟩ : ∃ n : Nat, z = (n : Int) := ⟨z.toNat, by omega⟩
      walk_at "s"
      refine fun q hq => ?_
      have pq : q ≠ p := by rintro rfl; rw [updM_same] at hq; cases hq
      rw [updM_ne pq] at hq
      walk_at "s"
      refine ⟨by omega, by omega, ?_⟩
      have e0 : ((n : Int)).toNat = n := by omega
      rw [e0, rangeD_up]
      walk_at "s"
      refine dLoop_ind (fun r τ M' => ∃ (j n2 : Nat) (rcs : List (Ray × Addr)) (y : Rat) (M0 : MS) (m2 : MO) (v3 v6 v7 v8 : Option D), r = upD j n2 ∧ j + n2 = n ∧ rcs.length = j ∧ M0 q = none ∧ CS M0 rcs ∧ (∀ x ∈ rcs, x.2 ≠ p) ∧ τ = [some (.ref p), some (.int (i : Int)), some (qN y), v3, some (.int (n : Int)), some (.ref q), v6, v7, v8] ∧ M' = updM (updM M0 p m2) q (.lst (rcs.map rayR)) ∧ Pn.PenM m2 (b + 40 * n2) ∧ Sz (20 + 27 * j) y ∧ (∀ r ∈ rcs.map (·.1), RayK r ∧ RayS r) ∧ ChainR (rcs.map (·.1)) ∧ (n2 ≠ 0 → ∀ r, (rcs.map (·.1)).getLast? = some r → ∃ h, r.high = some h ∧ h ≤ y)) ⟨0, n, [], _, M, m3, _, _, _, _, rfl, by omega, rfl, hq, (fun _ z => nomatch z), (fun _ z => nomatch z), rfl, rfl, b3.mono (by omega), sc0, fun _ z => (nomatch z), trivial, fun _ _ z => (nomatch z)⟩ ?_ ?_
      · rintro _ r _ _ ⟨j, n2, rcs, y, M0, m4, v3, v6, v7, v8, e1, e2, e3, hq0, hcs, hcp, rfl, rfl, b4, sy, ok, ch, lst⟩ ih
        cases n2 with
        | zero => cases e1
        | succ n2 =>
        cases e1
        walk_at "s"
        refine ⟨fun τ' M' => ∃ (lo : Option Rat) (m5 : MO), τ' = [some (.ref p), some (.int (i : Int)), some (qN y), some (.int (j : Int)), some (.int (n : Int)), some (.ref q), some (oN lo), v7, v8] ∧ M' = updM (updM M0 p m5) q (.lst (rcs.map rayR)) ∧ Pn.PenM m5 (b + 40 * n2 + 39) ∧ (lo = some y ∨ (lo = none ∧ j = 0)), ?_, ?_⟩
        · walk_at "s"
          refine dIte_d (c := (j : Int) = 0) (fun h => ?_) (fun h => ?_)
          · walk_at "s"
            refine ⟨p, m4, 3, b + 40 * n2 + 39, rfl, by decide, log_ok (by decide), updM_at pq, b4.mono (by omega), fun z3 m5 _ _ b5 => ?_⟩
            rw [updM_swap pq]
            walk_at "s"
            refine dIte_d (c := z3 = 0) (fun h2 => ?_) (fun h2 => ?_)
            · walk_at "s"
              exact ⟨none, m5, rfl, rfl, b5, .inr ⟨rfl, by omega⟩⟩
            · walk_at "s"
              exact ⟨some y, m5, rfl, rfl, b5, .inl rfl⟩
          · walk_at "s"
            exact ⟨some y, m4, rfl, rfl, b4.mono (by omega), .inl rfl⟩
        · rintro _ _ ⟨lo, m5, rfl, rfl, b5, hlo⟩
          walk_at "s"
          refine ⟨p, m5, y, 3, b + 40 * n2 + 9, _, rfl, rfl, rfl, by omega, by omega, sy, by omega, updM_at pq, b5, fun cs y2 m6 c ne few asc sz hd lst2 sy2 b6 hc0 hcp0 => ?_⟩
          have hcq : c ≠ q := by rintro rfl; rw [updM_same] at hc0; cases hc0
          rw [updM_ne hcq, updM_ne hcp0] at hc0
          rw [updM_swap pq]
          have ec : updM (updM (updM M0 p m6) q (.lst (rcs.map rayR))) c (.lst (cs.map cD)) = updM (updM (updM M0 c (.lst (cs.map cD))) p m6) q (.lst (rcs.map rayR)) := by
            rw [updM_comm (Ne.symm hcq), updM_comm (Ne.symm hcp0)]
          rw [ec]
          have hq1 : updM M0 c (.lst (cs.map cD)) q = none := by rw [updM_ne (Ne.symm hcq)]; exact hq0
          have hcs1 : ∀ r : Ray, r.cs = cs → CS (updM M0 c (.lst (cs.map cD))) (rcs ++ [(r, c)]) := fun r e => hcs.snoc hc0 e
          generalize eM1 : updM M0 c (.lst (cs.map cD)) = M1 at *
          walk_at "s"
          refine ⟨fun τ' M' => ∃ (hi : Option Rat) (m7 : MO), τ' = [some (.ref p), some (.int (i : Int)), some (qN y2), some (.int (j : Int)), some (.int (n : Int)), some (.ref q), some (oN lo), some (oN hi), some (.ref c)] ∧ M' = updM (updM M1 p m7) q (.lst (rcs.map rayR)) ∧ Pn.PenM m7 (b + 40 * n2 + 8) ∧ (hi = some y2 ∨ (hi = none ∧ n2 = 0)), ?_, ?_⟩
          · walk_at "s"
            refine dIte_d (c := (j : Int) = (n : Int) - 1) (fun h => ?_) (fun h => ?_)
            · walk_at "s"
              refine ⟨p, m6, 3, b + 40 * n2 + 8, rfl, by decide, log_ok (by decide), updM_at pq, b6, fun z3 m7 _ _ b7 => ?_⟩
              rw [updM_swap pq]
              walk_at "s"
              refine dIte_d (c := z3 = 0) (fun h2 => ?_) (fun h2 => ?_)
              · walk_at "s"
                exact ⟨none, m7, rfl, rfl, b7, .inr ⟨rfl, by omega⟩⟩
              · walk_at "s"
                exact ⟨some y2, m7, rfl, rfl, b7, .inl rfl⟩
            · walk_at "s"
              exact ⟨some y2, m6, rfl, rfl, b6.mono (by omega), .inl rfl⟩
          · rintro _ _ ⟨hi, m7, rfl, rfl, b7, hhi⟩
            walk_at "s"
            refine ⟨p, m7, 2, b + 40 * n2 + 7, rfl, by decide, log_ok (by decide), updM_at pq, b7, fun z3 m8 z30 z31 b8 => ?_⟩
            rw [updM_swap pq]
            walk_at "s"
            refine ⟨CMul.ok (.inl (by omega)), ?_⟩
            have lt : (rcs.map rayR).length < sizeLine := by rw [List.length_map]; exact lt_line (by omega)
            walk_at "s"
            rw [updM_updM]
            refine ⟨p, m8, 3, b + 40 * n2 + 6, rfl, by decide, log_ok (by decide), updM_at pq, b8, fun z5 m9 z50 z51 b9 => ?_⟩
            rw [updM_swap pq]
            walk_at "s"
            refine ⟨p, m9, 2, b + 40 * n2 + 5, rfl, by decide, log_ok (by decide), updM_at pq, b9, fun z6 m10 z60 z61 b10 => ?_⟩
            rw [updM_swap pq]
            walk_at "s"
            refine ⟨y2, Rat.divInt z5 (1 + z6), 1, _, 2, rfl, ⟨z5, 1 + z6, rfl, by omega, bd_of (n := 2) (by omega) (by decide +kernel), bd_of (n := 2) (by omega) (by decide +kernel), rfl⟩, rfl, sy2, by omega, .inl ⟨rfl, ?_⟩⟩
            walk_at "s"
            have sz2 : Sz 2 (Rat.divInt z5 (1 + z6)) := Sz.of (by omega) (bd_of (n := 2) (by omega) (by decide +kernel)) (bd_of (n := 2) (by omega) (by decide +kernel))
            have os_ : RayS ⟨lo, hi, 1 - 2 * z3, cs⟩ := ⟨by simpa using few, fun c hc => ⟨(sz c hc).1.mono (by omega), (sz c hc).2.mono (by omega)⟩, fun x e => (by rcases hlo with h | ⟨h, _⟩ <;> rw [show lo = some x from e] at h <;> cases h; exact sy.mono (by omega)), fun x e => (by rcases hhi with h | ⟨h, _⟩ <;> rw [show hi = some x from e] at h <;> cases h; exact sy2.mono (by omega))⟩
            have or_ : RayK ⟨lo, hi, 1 - 2 * z3, cs⟩ := RayK.told (y := y) (y2 := y2) (by omega) ne (by omega) asc hd lst2 (fun x e => (by rcases hlo with h | ⟨h, _⟩ <;> rw [h] at e <;> cases e; rfl)) (fun x e => (by rcases hhi with h | ⟨h, _⟩ <;> rw [h] at e <;> cases e; rfl)) (fun c hc => ⟨(sz c hc).1.mono (by omega), (sz c hc).2.mono (by omega)⟩) (sy.mono (by omega)) (sy2.mono (by omega))
            have abv : ∀ b2, (rcs.map (·.1)).getLast? = some b2 → abvB ⟨lo, hi, 1 - 2 * z3, cs⟩ b2 = true := fun b2 e => (by
              obtain ⟨h, e4, e5⟩ := lst (by omega) b2 e
              rcases hlo with h1 | ⟨_, h1⟩
              · exact abv_of e4 h1 e5
              · rw [h1] at e3
                rw [List.length_eq_zero_iff.mp e3] at e
                cases e)
            refine ih _ _ ⟨j + 1, n2, rcs ++ [(⟨lo, hi, 1 - 2 * z3, cs⟩, c)], _, M1, m10, _, _, _, _, rfl, by omega, by rw [List.length_append, e3]; rfl, hq1, hcs1 _ rfl, fun x hx => (by rcases List.mem_append.mp hx with hx | hx; exact hcp x hx; rw [List.mem_singleton.mp hx]; exact hcp0), rfl, by rw [List.map_append]; rfl, b10.mono (by omega), (sy2.add sz2).mono (by omega), fun r hr => ?_, (by rw [List.map_append]; exact ch.snoc fun b2 e => abv b2 e), fun hn r e => ?_⟩
            · rw [List.map_append] at hr
              rcases List.mem_append.mp hr with hr | hr
              · exact ok r hr
              · rw [List.mem_singleton.mp hr]
                exact ⟨or_, os_⟩
            · rw [List.map_append, List.map_singleton, List.getLast?_concat] at e
              cases e
              rcases hhi with h1 | ⟨_, h1⟩
              · exact ⟨y2, h1, le_addn (Rat.divInt_nonneg (by omega) (by omega))⟩
              · exact absurd h1 hn
      · rintro _ _ ⟨j, n2, rcs, y, M0, m4, v3, v6, v7, v8, e1, e2, e3, hq0, hcs, hcp, rfl, rfl, b4, sy, ok, ch, lst⟩
        cases n2 with
        | succ n2 => cases e1
        | zero =>
        walk_at "s"
        rw [delM_updM (by rw [updM_ne pq]; exact hq0)]
        refine ⟨_, SubM.refl _, k rcs m4 _ (by omega) ok ch (hcs.upd hcp) updM_same (b4.mono (by omega))⟩
end
end RS

set_option maxRecDepth 100000
set_option maxHeartbeats 4000000
namespace RS
open PySem PySem.Spec PyProof.Rows L2 NdefX He PySem.W LamX
variable [Tbls]
section
variable {P : Program} {w : World} {K : PySem.W.Frag} {mg : Str → Option Value} {base : Heap} {C_BadRay C_Curve C_ScaleError : Addr}
abbrev s__law_kinds : Stmt := top 35
theorem sc__law_kinds : FnScope ["_law_rays_here"] ["_law_rays_here"] (defScope s__law_kinds) := ⟨rfl, rfl, rfl, by decide +kernel, rfl, by decide +kernel, by decide +kernel⟩
def sp__law_kinds : SpD := fun ds M R W => match ds with
  | [v] => ∃ rs : List Ray, v = .tup (rs.map rayD) ∧ (∀ r ∈ rs, RayK r) ∧ R (.tup ((kndQ rs).map .str)) M
  | _ => False
theorem ok__law_kinds {f : Addr} {fd : FuncData} (F : FnP K "_law_kinds" "_law_kinds" s__law_kinds f fd) (T : Fx K mg C_BadRay C_Curve C_ScaleError) :
    FnOk P w K mg base (L2N.CX P w) 1 f fd ["_law_rays_here"] (upSp K sp__law_kinds) := by
  refine okDN (k := 0) F sc__law_kinds (fun ds M R W h => ?_) (fun cdv A outer s H E hr hx tk => ⟨_, (dss_cons (ds_if (DW.t (dw_and (dt_cmp (op_eqA hr.units) ro_eqA (de_bi call_len rc_len T.b_len PySem.boot_len (da_cons (de_v 0) da_nil)) de_int (nomark _)) (dw_and (dt_cmp op_isN ro_isN (de_ix (de_ix (de_v 0) de_int (fun _ _ => rfl)) de_int (fun _ _ => rfl)) de_non (nomark _)) (dw_and1 (dt_cmp op_isN ro_isN (de_ix (de_ix (de_v 0) de_int (fun _ _ => rfl)) de_int (fun _ _ => rfl)) de_non (nomark _)))))) (dss_one (ds_ret (de_tup (da_cons de_str (da_cons (de_ix (de_lst (da_cons de_str (da_cons de_str da_nil))) (de_bt call_int1 rc_int T.b_int (by decide +kernel) (da_cons (de_cmp (op_eqA hr.units) ro_eqA (de_ix (de_ix (de_v 0) de_int (fun _ _ => rfl)) de_int (fun _ _ => rfl)) (de_neg de_int) (nomark _)) da_nil)) (fun _ _ => rfl)) da_nil))))) dss_nil)
      (dss_one (ds_ret (de_tup (da_cons de_str da_nil))))), fun ds M R W h => ?_⟩)
  · match ds, h with | [_], _ => rfl
  · match ds, h with
    | [v], h =>
      obtain ⟨rs, rfl, ok, k⟩ := h
      have k2 := Rt.of (R := R) k
      match rs, ok, k2 with
      | [], _, k2 =>
        walk_at "s"
        exact k2
      | [⟨lo, hi, w, cs⟩], ok, k2 =>
        cases lo with
        | some lo =>
          walk_at "s"
          exact k2
        | none =>
          cases hi with
          | some hi =>
            walk_at "s"
            exact k2
          | none =>
            have ek : kndQ [⟨none, none, w, cs⟩] = (if w = 1 then ([("free" : Str), "rising"] : List Str) else [("free" : Str), "falling"]) := rfl
            rw [ek] at k2
            rcases (ok _ (List.mem_singleton.mpr rfl)).way with e | e
            · cases e
              walk_at "s"
              exact k2
            · cases e
              walk_at "s"
              exact k2
      | a :: b :: r, _, k2 =>
        have ek : kndQ (a :: b :: r) = ([("free" : Str)] : List Str) := by
          obtain ⟨lo, hi, w, cs⟩ := a
          cases lo <;> cases hi <;> rfl
        rw [ek] at k2
        have lr : ((a :: b :: r).map rayD).length = r.length + 2 := by simp
        walk_at "s"
        exact k2
end
end RS

set_option maxRecDepth 100000
set_option maxHeartbeats 4000000
namespace RS
open PySem PySem.Spec PyProof.Rows L2 NdefX He PySem.W LamX
variable [Tbls]
section
variable {P : Program} {w : World} {K : PySem.W.Frag} {mg : Str → Option Value} {base : Heap} {C_BadRay C_Curve C_ScaleError : Addr}
theorem ValsOk.new {M : MS} {vs : List D} {os : List (Option Ray)} {p : Addr} {m : MO} (h : ValsOk M vs os) (hp : M p = none) : ValsOk (updM M p m) vs os := by
  induction h with
  | nil => exact .nil
  | cons h _ ih => exact .cons (h.new hp) ih
theorem ValsOk.len {M : MS} {vs : List D} {os : List (Option Ray)} (h : ValsOk M vs os) : os.length = vs.length := by
  induction h with
  | nil => rfl
  | cons _ _ ih => simp [ih]
abbrev s__law_made : Stmt := top 36
theorem sc__law_made : FnScope ["_law_rays_here", "_law_due", "_law_curve", "_law_ray"] ["_law_rays_here", "_law_due"] (defScope s__law_made) := ⟨rfl, rfl, rfl, by decide +kernel, rfl, by decide +kernel, by decide +kernel⟩
def sp__law_made (C_Curve : Addr) : SpD := fun ds M R W => match ds with
  | [v, d] => ∃ (q : Addr) (vs : List D) (rs : List Ray), v = .ref q ∧ d = .tup (rs.map rayD) ∧ M q = some (.lst vs) ∧ ValsOk M vs (rs.map some) ∧ (∀ r ∈ rs, RayK r) ∧ vs.length ≤ 100 ∧ crvF [] 0 (rs.map some) = .ok rs ∧
    (∀ v ∈ vs, ∃ lo hi way c ys, v = .tup [lo, hi, way, .ref c] ∧ M c = some (.lst ys) ∧ c ≠ q) ∧ ∀ M2, R (.bl true) M2
  | _ => False
theorem ok__law_made {f : Addr} {fd : FuncData} (F : FnP K "_law_made" "_law_made" s__law_made f fd) (T : Fx K mg C_BadRay C_Curve C_ScaleError) (M_Curve___init__ : Mkr P w K mg base (L2N.CX P w) 5 "Curve" C_Curve ["self", "rays"] [] (upSp K (sp_Curve___init__ C_BadRay C_Curve))) (M_Curve_kinds : Mtd P w K mg base (L2N.CX P w) 1 C_Curve "kinds" ["self"] [] (upSp K (sp_Curve_kinds C_Curve))) (M__law_kinds : Cal P w K mg base (L2N.CX P w) 1 "_law_kinds" ["_law_rays_here"] [] (upSp K sp__law_kinds)) :
    FnOk P w K mg base (L2N.CX P w) 9 f fd ["_law_rays_here", "_law_due"] (upSp K (sp__law_made C_Curve)) := by
  refine okDN (k := 8) F sc__law_made (fun ds M R W h => ?_) (fun cdv A outer s H E hr hx tk => ⟨_, (dss_cons (ds_set 2 sc__law_made.nd (de_mk M_Curve___init__ Dfl.nil (hr.mono (by decide)) hx (da_cons (de_v 0) da_nil)))
      (dss_cons (ds_forC (passes_of rfl) rfl (dic_sq (de_v 0)) (dg_name 3 sc__law_made.nd) (dss_one (ds_expr (de_bm0 PySem.F.slot_list_clear PySem.F.type_list_clear mt_clear rm_clear (de_ix (de_v 3) de_int (fun _ _ => rfl))))))
      (dss_cons (ds_expr (de_bm0 PySem.F.slot_list_clear PySem.F.type_list_clear mt_clear rm_clear (de_v 0)))
      (dss_one (ds_ret (de_and (de_cmp (op_eqA hr.units) ro_eqA (de_fld (K := K) rfl "rays" 0 (de_v 2)) (de_v 1) (nomark _)) (de_and (de_bi call_isi rc_isi T.b_isinstance (by decide +kernel) (da_cons (de_fld (K := K) rfl "rays" 0 (de_v 2)) (da_cons (de_ty (n := .tuple) T.b_tuple (by decide +kernel)) da_nil))) (de_one (de_cmp (op_eqA hr.units) ro_eqA (de_mt0 T.c_Curve M_Curve_kinds Dfl.nil (hr.mono (by decide)) hx (de_v 2)) (de_fn M__law_kinds Dfl.nil (hr.mono (by decide)) hx (da_cons (de_v 1) da_nil)) (nomark _)))))))))), fun ds M R W h => ?_⟩)
  · match ds, h with | [_, _], _ => rfl
  · match ds, h with
    | [v, d], h =>
      obtain ⟨q, vs, rs, rfl, rfl, hq, vo, ok, few, ec, cl, k⟩ := h
      have at1 := T.at_Curve_rays
      walk_at "s"
      refine fun p hp0 => ?_
      have pq : q ≠ p := by rintro rfl; rw [hq] at hp0; cases hp0
      refine ⟨p, vs, rs.map some, rfl, updM_same, .inr (.inr ⟨q, rfl, by rw [updM_ne pq]; exact hq⟩), vo.new hp0, fun r hr => ok r (by simpa using hr), few, ?_⟩
      rw [ec]
      show _ ∧ _
      refine ⟨trivial, ?_⟩
      rw [updM_updM, updM_same]
      walk_at "s"
      rw [delM_updM hp0]
      have es : seqOf M (.ref q) = some (vs, some q) := by
        show (match M q with | some (.lst xs) => some (xs, some q) | _ => none) = _
        rw [hq]
      rw [es]
      show dLoopC _ _ _ _ _ _ _
      refine dLoopC_ind (fun r τ M' => ∃ (v3 : Option D), τ = [some (.ref q), some (.tup (rs.map rayD)), some (curD C_Curve rs), v3] ∧ M' q = some (.lst vs) ∧ (∀ v ∈ r, ∃ lo hi way c ys, v = .tup [lo, hi, way, .ref c] ∧ M' c = some (.lst ys) ∧ c ≠ q)) ⟨_, rfl, hq, cl⟩ ?_ ?_
      · rintro v r _ M1 ⟨v3, rfl, hq1, cl1⟩ ih
        obtain ⟨lo, hi, way, c, ys, rfl, hc, hcq⟩ := cl1 v (List.mem_cons_self ..)
        have clr : ∀ v ∈ r, ∃ lo hi way c2 ys, v = .tup [lo, hi, way, .ref c2] ∧ updM M1 c (.lst []) c2 = some (.lst ys) ∧ c2 ≠ q := fun v hv => by
          obtain ⟨lo, hi, way, c2, ys2, e, e2, e3⟩ := cl1 v (List.mem_cons_of_mem _ hv)
          by_cases z : c2 = c
          · exact ⟨lo, hi, way, c2, [], e, by rw [z, updM_same], e3⟩
          · exact ⟨lo, hi, way, c2, ys2, e, by rw [updM_ne z]; exact e2, e3⟩
        have hq2 : updM M1 c (.lst []) q = some (.lst vs) := by rw [updM_ne (Ne.symm hcq)]; exact hq1
        walk_at "s"
        refine ⟨(by unfold isLst vw; simp only [hc]; trivial), ?_⟩
        walk_at "s"
        show match M1 c with | some (.lst _) => _ | _ => _
        rw [hc]
        walk_at "s"
        exact (ih _ _ ⟨_, rfl, hq2, clr⟩ hq2).2
      · rintro _ M1 ⟨v3, rfl, hq1, _⟩
        walk_at "s"
        refine ⟨(by unfold isLst vw; simp only [hq1]; trivial), ?_⟩
        walk_at "s"
        rw [hq1]
        walk_at "s"
        refine ⟨PD_raysD rs, PD_raysD rs, ?_⟩
        have e1 : ∀ MM : MS, dEqB (vw MM (D.tup (rs.map rayD))) (vw MM (D.tup (rs.map rayD))) = true := fun _ => dEqB_refl (PD_raysD rs)
        rw [e1]
        walk_at "s"
        refine ⟨rs, rfl, ok, by have := vo.len; simp at this; omega, ?_⟩
        walk_at "s"
        refine ⟨rs, rfl, ok, ?_⟩
        have pk : PD 64 (D.tup ((kndQ rs).map .str)) := fun x hx => by
          obtain ⟨s, _, rfl⟩ := List.mem_map.mp hx
          trivial
        walk_at "s"
        have e2 : ∀ MM : MS, dEqB (vw MM (D.tup ((kndQ rs).map .str))) (vw MM (D.tup ((kndQ rs).map .str))) = true := fun _ => dEqB_refl pk
        have e3 := dEqB_refl pk
        first
        | (rw [e2]; exact ⟨_, SubM.refl _, k _⟩)
        | (rw [e3]; exact ⟨_, SubM.refl _, k _⟩)
        | (simp only [e2, e3]; exact ⟨_, SubM.refl _, k _⟩)
        | exact ⟨_, SubM.refl _, k _⟩
end
end RS

set_option maxRecDepth 100000
set_option maxHeartbeats 4000000
namespace RS
open PySem PySem.Spec PyProof.Rows L2 NdefX He PySem.W LamX
variable [Tbls]
section
variable {P : Program} {w : World} {K : PySem.W.Frag} {mg : Str → Option Value} {base : Heap} {C_BadRay C_Curve C_ScaleError : Addr}

/-- a corner as the law hands it in -/
def cV (b : Bool) (c : Rat × Rat) : D := if b = true then .lst [qN c.1, qN c.2] else .tup [qN c.1, qN c.2]
theorem cV_LV {M : MS} (b : Bool) (c : Rat × Rat) : LV M (cV b c) [qN c.1, qN c.2] := by
  cases b
  · exact .inr (.inl rfl)
  · exact .inl rfl
theorem numOk_q (x : Rat) : NumOk (qN x) := ⟨trivial, trivial⟩
theorem numOk_oN (o : Option Rat) : NumOk (oN o) := by
  cases o with
  | none => trivial
  | some x => exact numOk_q x
theorem endF_oN (o : Option Rat) : endF (oN o) = some o := by
  cases o with
  | none => rfl
  | some x =>
    show (if numB (qN x) = true then some (some (numQ (qN x))) else none) = _
    rw [numB_q, numQ_q, if_pos rfl]
theorem wayF_ok {w : Int} (h : w = 1 ∨ w = -1) : wayF (.int w) = some w := if_pos h
theorem szO_q {x : Rat} (h : Sz 160 x) : SzO (qN x) := fun _ => by rw [numQ_q]; exact h
theorem szO_oN {o : Option Rat} (h : ∀ x, o = some x → Sz 160 x) : SzO (oN o) := by
  cases o with
  | none => intro z; cases z
  | some x => exact szO_q (h x rfl)
theorem szO_no {d : D} (h : numB d = false) : SzO d := fun z => by rw [h] at z; cases z
theorem iOk_cV {M : MS} (b : Bool) (c : Rat × Rat) : IOk M (cV b c) := .inl ⟨_, cV_LV b c, fun x y e => by cases e; exact ⟨numOk_q _, numOk_q _⟩⟩
theorem itemF_cV {M : MS} (b : Bool) (c : Rat × Rat) : itemF M (cV b c) = some c := by
  rw [(cV_LV (M := M) b c).item]
  show (if numB (qN c.1) && numB (qN c.2) then some (numQ (qN c.1), numQ (qN c.2)) else none) = _
  simp [numB_q, numQ_q]
theorem cornF_cV {M : MS} (b : Bool) : ∀ cs : List (Rat × Rat), cornF M (cs.map (cV b)) = some cs
  | [] => rfl
  | c :: r => by
    show cornF M (cV b c :: r.map (cV b)) = _
    unfold cornF
    rw [itemF_cV, cornF_cV b r]
    rfl
theorem cornF_no {M : MS} : ∀ {xs : List D} {d : D}, d ∈ xs → itemF M d = none → cornF M xs = none
  | x :: xs, d, hd, e => by
    unfold cornF
    rcases List.mem_cons.mp hd with rfl | hd
    · rw [e]
    · rw [cornF_no hd e]
      cases itemF M x <;> rfl
theorem coOk_of {M : MS} {co : D} {b : Bool} {cs : List (Rat × Rat)} (lv : LV M co (cs.map (cV b))) (ne : cs ≠ []) (few : cs.length ≤ 1000) (sz : ∀ x ∈ cs, Sz 160 x.1 ∧ Sz 160 x.2) : CoOk M co (some cs) := by
  refine ⟨.inl ⟨_, lv, by rw [List.length_map]; exact few, fun d hd => ?_, ?_⟩, fun c e => by cases e; exact ⟨ne, sz⟩⟩
  · obtain ⟨c, _, rfl⟩ := List.mem_map.mp hd
    exact iOk_cV b c
  · rw [if_neg (by simpa using ne), cornF_cV]
theorem coOk_no {M : MS} {co : D} {xs : List D} (lv : LV M co xs) (few : xs.length ≤ 1000) (ok : ∀ d ∈ xs, IOk M d) (h : ∃ d ∈ xs, itemF M d = none) : CoOk M co none := by
  refine ⟨.inl ⟨xs, lv, few, ok, ?_⟩, fun c e => nomatch e⟩
  obtain ⟨d, hd, e⟩ := h
  rw [cornF_no hd e]
  split <;> rfl
theorem rayF_good {r : Ray} (o : RayK r) : rayF (oN r.low) (oN r.high) (.int r.way) (some r.cs) = some r := by
  rw [rayF_of (endF_oN r.low) (endF_oN r.high) (wayF_ok o.way) rfl]
  have e1 : ascB r.cs = true := (ascB_iff _).mpr o.asc
  have e2 : lowB r.low r.cs = true := by
    unfold lowB
    split
    · rfl
    · rename_i x e
      exact decide_eq_true (o.lo x e)
  have e3 : hghB r.high r.cs = true := by
    unfold hghB
    split
    · rfl
    · rename_i x e
      exact decide_eq_true (o.hi x e)
  rw [e1, e2, e3]
  rfl
/-- what is bad about a ray -/
theorem valBad {M : MS} {lo hi way co : D} {cs : Option (List (Rat × Rat))} (n1 : NumOk lo) (n2 : NumOk hi) (pw : Pln way) (co2 : CoOk M co cs) (z1 : SzO lo) (z2 : SzO hi) (e : rayF lo hi way cs = none) : ValOk M (.tup [lo, hi, way, co]) none := .inl ⟨lo, hi, way, co, cs, rfl, n1, n2, pw, co2, z1, z2, e.symm⟩
theorem rayF_asc {lo hi : Option Rat} {w : Int} {cs : List (Rat × Rat)} (hw : w = 1 ∨ w = -1) (h : ascB cs = false) : rayF (oN lo) (oN hi) (.int w) (some cs) = none := by
  rw [rayF_of (endF_oN _) (endF_oN _) (wayF_ok hw) rfl, h]
  rfl
theorem rayF_low {lo : Rat} {hi : Option Rat} {w : Int} {cs : List (Rat × Rat)} (hw : w = 1 ∨ w = -1) (h : ¬ lo < (cs.head?.getD (0, 0)).2) : rayF (qN lo) (oN hi) (.int w) (some cs) = none := by
  show rayF (oN (some lo)) _ _ _ = none
  rw [rayF_of (endF_oN (some lo)) (endF_oN _) (wayF_ok hw) rfl]
  have : lowB (some lo) cs = false := decide_eq_false h
  rw [this, if_neg (by simp)]
theorem rayF_hgh {lo : Option Rat} {hi : Rat} {w : Int} {cs : List (Rat × Rat)} (hw : w = 1 ∨ w = -1) (h : ¬ (cs.getLast?.getD (0, 0)).2 < hi) : rayF (oN lo) (qN hi) (.int w) (some cs) = none := by
  show rayF _ (oN (some hi)) _ _ = none
  rw [rayF_of (endF_oN _) (endF_oN (some hi)) (wayF_ok hw) rfl]
  have : hghB (some hi) cs = false := decide_eq_false h
  rw [this, if_neg (by simp)]
theorem ascQ_le : ∀ {cs : List (Rat × Rat)}, AscQ cs → cs ≠ [] → (cs.head?.getD (0, 0)).1 ≤ (cs.getLast?.getD (0, 0)).1 ∧ (cs.head?.getD (0, 0)).2 ≤ (cs.getLast?.getD (0, 0)).2
  | [a], _, _ => ⟨Rat.le_refl, Rat.le_refl⟩
  | a :: b :: r, h, _ => by
    obtain ⟨h1, h2, h3⟩ := h
    obtain ⟨i1, i2⟩ := ascQ_le h3 (by simp)
    have e : ((a :: b :: r).getLast?.getD (0, 0)) = ((b :: r).getLast?.getD (0, 0)) := by simp [List.getLast?_cons_cons]
    rw [e]
    exact ⟨Rat.le_trans (Rat.le_of_lt h1) i1, Rat.le_trans (Rat.le_of_lt h2) i2⟩
theorem ascB_dup : ∀ (xs ys : List (Rat × Rat)) (c : Rat × Rat), ascB (xs ++ c :: c :: ys) = false
  | [], ys, c => by
    show (decide (c.1 < c.1) && _) = false
    rw [decide_eq_false (Rat.lt_irrefl)]
    rfl
  | [x], ys, c => by
    show (decide (x.1 < c.1) && (decide (x.2 < c.2) && ascB ([] ++ c :: c :: ys))) = false
    rw [ascB_dup [] ys c, Bool.and_false, Bool.and_false]
  | x :: y :: xs, ys, c => by
    show (decide (x.1 < y.1) && (decide (x.2 < y.2) && ascB ((y :: xs) ++ c :: c :: ys))) = false
    rw [ascB_dup (y :: xs) ys c, Bool.and_false, Bool.and_false]
theorem ValOk.keep {M M2 : MS} {v : D} {o : Option Ray} (k : ∀ a xs, M a = some (.lst xs) → M2 a = some (.lst xs)) (h : ValOk M v o) : ValOk M2 v o := by
  have kl : ∀ {v xs}, LV M v xs → LV M2 v xs := fun h => h.imp id (Or.imp id fun ⟨a, e, ea⟩ => ⟨a, e, k _ _ ea⟩)
  have ki : ∀ d, IOk M d → IOk M2 d := fun d => Or.imp (fun ⟨ys, l, o⟩ => ⟨ys, kl l, o⟩) id
  have kf : ∀ d, IOk M d → itemF M2 d = itemF M d := fun d h => by
    rcases h with ⟨ys, l, _⟩ | ⟨pl, nl⟩
    · rw [l.item, (kl l).item]
    · rw [NL.item pl nl, NL.item pl nl]
  have kc : ∀ xs : List D, (∀ d ∈ xs, IOk M d) → cornF M2 xs = cornF M xs := by
    intro xs
    induction xs with
    | nil => intro _; rfl
    | cons x xs ih =>
      intro h
      unfold cornF
      rw [kf x (h x (by simp)), ih fun d hd => h d (by simp [hd])]
  refine h.imp (fun ⟨lo, hi, way, co, cs, a, b, c, d, e, f⟩ => ⟨lo, hi, way, co, cs, a, b, c, d, ⟨e.1.imp (fun ⟨xs, l, few, ok, ee⟩ => ⟨xs, kl l, few, fun d hd => ki d (ok d hd), by rw [kc xs ok]; exact ee⟩) id, e.2⟩, f⟩) id
theorem qp_lit (u v : Int) {l : Nat} (h0 : v ≠ 0) (h1 : Bd l u) (h2 : Bd l v) : QP (.tup [.int u, .int v]) (Rat.divInt u v) l := ⟨u, v, rfl, h0, h1, h2, rfl⟩
theorem seqOf_ne {M : MS} {p c : Addr} {m1 : MO} {xs : List D} (pc : c ≠ p) (hc : M c = some (.lst xs)) : seqOf (updM M p m1) (.ref c) = some (xs, some c) := by
  show (match updM M p m1 c with | some (.lst xs) => some (xs, some c) | _ => none) = _
  rw [updM_ne pc, hc]
theorem twin_map {f : Rat × Rat → D} {cs : List (Rat × Rat)} {n : Nat} (h : n < cs.length) : (List.take n (cs.map f) ++ [f cs[n]]) ++ List.drop n (cs.map f) = (cs.take n ++ cs[n] :: cs[n] :: cs.drop (n + 1)).map f := by
  rw [← List.map_take, ← List.map_drop, List.drop_eq_getElem_cons h]
  simp
theorem atD_memZ {xs : List D} {z : Int} (h0 : 0 ≤ z) (h1 : z < (xs.length : Int)) : ∃ r ∈ xs, atD xs z = some r := by
  have := atD_mapZ (f := id) h0 h1
  rw [List.map_id] at this
  exact this
abbrev spoilL (lo hi : Option Rat) (w : Int) (cs : List (Rat × Rat)) (c : Addr) (b : Bool) (as : List Addr) (y : Rat × Rat) (nz : Nat) : List D := [D.tup [oN lo, oN hi, D.int w], D.tup [oN lo, oN hi, D.int w, D.ref c, D.int 1],
        D.lst [oN lo, oN hi, D.int w, D.ref c], D.tup [oN lo, oN hi, D.int 0, D.ref c],
        D.tup [oN lo, oN hi, D.int (2 * w), D.ref c], D.tup [oN lo, oN hi, D.bl true, D.ref c],
        D.tup [oN lo, oN hi, D.int w, D.lst []], D.tup [oN lo, oN hi, D.int w, D.lst (List.map D.ref as)],
        D.tup [oN lo, oN hi, D.int w, D.lst (List.map (cV b) (List.take nz cs ++ y :: y :: List.drop (nz + 1) cs))],
        D.tup [oN lo, oN hi, D.int w, D.non], D.tup [D.tup [D.int 4, D.int 2], oN hi, D.int w, D.ref c],
        D.tup [oN lo, D.int 5, D.int w, D.ref c], D.tup [qN (cs.head?.getD (0, 0)).snd, oN hi, D.int w, D.ref c],
        D.tup [oN lo, qN (cs.getLast?.getD (0, 0)).snd, D.int w, D.ref c],
        D.tup [qN ((cs.getLast?.getD (0, 0)).snd + Rat.divInt 5 1), oN hi, D.int w, D.ref c],
        D.tup [oN lo, qN ((cs.head?.getD (0, 0)).snd - Rat.divInt 7 1), D.int w, D.ref c],
        D.tup [oN lo, oN hi, D.int w, D.lst [D.tup ([qN (cs.head?.getD (0, 0)).fst, qN (cs.head?.getD (0, 0)).snd] ++ [D.tup [D.int 7, D.int 1]])]],
        D.non,
        D.tup [oN lo, oN hi, D.int w, D.lst ([D.tup [qN ((cs.getLast?.getD (0, 0)).fst + Rat.divInt 1 1), qN ((cs.head?.getD (0, 0)).snd + Rat.divInt (-1) 9)]] ++ List.map (cV b) cs)],
        D.str (Str.ofString "ray")]
theorem spoil_bad {M : MS} {lo hi : Option Rat} {w : Int} {cs : List (Rat × Rat)} {c : Addr} {b : Bool} {as : List Addr} {nz : Nat} (ok : RayK ⟨lo, hi, w, cs⟩) (sm : RayS ⟨lo, hi, w, cs⟩) (hc : M c = some (.lst (cs.map (cV b)))) (las : as.length ≤ 3) (ok4 : ∀ d ∈ as.map D.ref, IOk M d) (bad : ∃ a ∈ as, itemF M (.ref a) = none) (hnz : nz < cs.length) :
    ∀ d ∈ spoilL lo hi w cs c b as cs[nz] nz, ValOk M d none := by
  have hw : w = 1 ∨ w = -1 := ok.way
  have ne : cs ≠ [] := ok.ne
  have few : cs.length ≤ 3 := sm.few
  have nl := numOk_oN lo
  have nh := numOk_oN hi
  have zl : SzO (oN lo) := szO_oN ok.szl
  have zh : SzO (oN hi) := szO_oN ok.szh
  have cO : CoOk M (.ref c) (some cs) := coOk_of (.inr (.inr ⟨c, rfl, hc⟩)) ne (by omega) ok.szc
  have f1 : (cs.head?.getD (0, 0)) ∈ cs := fst_mem (r := ⟨lo, hi, w, cs⟩) ne
  have f2 : (cs.getLast?.getD (0, 0)) ∈ cs := lst_mem (r := ⟨lo, hi, w, cs⟩) ne
  have s1 : Sz 130 (cs.head?.getD (0, 0)).1 ∧ Sz 130 (cs.head?.getD (0, 0)).2 := sm.szc _ f1
  have s2 : Sz 130 (cs.getLast?.getD (0, 0)).1 ∧ Sz 130 (cs.getLast?.getD (0, 0)).2 := sm.szc _ f2
  obtain ⟨l1, l2⟩ := ascQ_le ok.asc ne
  have p5 : Sz 4 (Rat.divInt 5 1) := Sz.of (by decide) (by unfold Bd; decide) (by unfold Bd; decide)
  have p7 : Sz 4 (Rat.divInt 7 1) := Sz.of (by decide) (by unfold Bd; decide) (by unfold Bd; decide)
  have p1 : Sz 4 (Rat.divInt 1 1) := Sz.of (by decide) (by unfold Bd; decide) (by unfold Bd; decide)
  have p9 : Sz 4 (Rat.divInt (-1) 9) := Sz.of (by decide) (by unfold Bd; decide) (by unfold Bd; decide)
  intro d hd
  simp only [List.mem_cons, List.not_mem_nil, or_false] at hd
  rcases hd with rfl | rfl | rfl | rfl | rfl | rfl | rfl | rfl | rfl | rfl | rfl | rfl | rfl | rfl | rfl | rfl | rfl | rfl | rfl | rfl
  · exact .inr ⟨trivial, fun xs e => by cases e; simp, rfl⟩
  · exact .inr ⟨trivial, fun xs e => by cases e; simp, rfl⟩
  · exact .inr ⟨trivial, (fun xs e => nomatch e), rfl⟩
  · exact valBad nl nh trivial cO zl zh (rayF_noW rfl)
  · refine valBad nl nh trivial cO zl zh (rayF_noW ?_)
    rcases hw with rfl | rfl <;> rfl
  · exact valBad nl nh trivial cO zl zh (rayF_noW rfl)
  · exact valBad nl nh trivial ⟨.inl ⟨[], .inl rfl, by simp, (fun _ h => nomatch h), rfl⟩, (fun _ h => nomatch h)⟩ zl zh rayF_noC
  · obtain ⟨a, ha, e⟩ := bad
    exact valBad nl nh trivial (coOk_no (.inl rfl) (by rw [List.length_map]; omega) ok4 ⟨_, List.mem_map.mpr ⟨a, ha, rfl⟩, e⟩) zl zh rayF_noC
  · refine valBad nl nh trivial (coOk_of (b := b) (.inl rfl) (by simp) (by simp; omega) fun x hx => ?_) zl zh (rayF_asc hw (ascB_dup _ _ _))
    refine ok.szc x ?_
    rcases List.mem_append.mp hx with hx | hx
    · exact List.mem_of_mem_take hx
    · rcases List.mem_cons.mp hx with rfl | hx
      · exact List.getElem_mem hnz
      · rcases List.mem_cons.mp hx with rfl | hx
        · exact List.getElem_mem hnz
        · exact List.mem_of_mem_drop hx
  · exact valBad nl nh trivial ⟨.inr ⟨trivial, trivial, rfl⟩, (fun _ h => nomatch h)⟩ zl zh rayF_noC
  · exact valBad ⟨trivial, trivial⟩ nh trivial cO (szO_no rfl) zh (rayF_noL rfl)
  · exact valBad nl trivial trivial cO zl (szO_no rfl) (rayF_noH rfl)
  · exact valBad (numOk_q _) nh trivial cO (szO_q (s1.2.mono (by decide))) zh (rayF_low hw Rat.lt_irrefl)
  · exact valBad nl (numOk_q _) trivial cO zl (szO_q (s2.2.mono (by decide))) (rayF_hgh hw Rat.lt_irrefl)
  · refine valBad (numOk_q _) nh trivial cO (szO_q ((s2.2.add p5).mono (by decide))) zh (rayF_low hw fun h => ?_)
    have : (0 : Rat) < Rat.divInt 5 1 := q_pos (by decide) (by decide)
    grind
  · refine valBad nl (numOk_q _) trivial cO zl (szO_q ((s1.2.sub p7).mono (by decide))) (rayF_hgh hw fun h => ?_)
    have : (0 : Rat) < Rat.divInt 7 1 := q_pos (by decide) (by decide)
    grind
  · refine valBad nl nh trivial (coOk_no (.inl rfl) (by simp) (fun d hd => ?_) ⟨_, List.mem_singleton.mpr rfl, rfl⟩) zl zh rayF_noC
    rw [List.mem_singleton.mp hd]
    exact .inl ⟨_, .inr (.inl rfl), (fun a b e => nomatch e)⟩
  · exact .inr ⟨trivial, (fun xs e => nomatch e), rfl⟩
  · have lv : LV M (D.lst ([D.tup [qN ((cs.getLast?.getD (0, 0)).fst + Rat.divInt 1 1), qN ((cs.head?.getD (0, 0)).snd + Rat.divInt (-1) 9)]] ++ List.map (cV b) cs)) (cV false ((cs.getLast?.getD (0, 0)).fst + Rat.divInt 1 1, (cs.head?.getD (0, 0)).snd + Rat.divInt (-1) 9) :: List.map (cV b) cs) := .inl rfl
    have ec : CoOk M (D.lst ([D.tup [qN ((cs.getLast?.getD (0, 0)).fst + Rat.divInt 1 1), qN ((cs.head?.getD (0, 0)).snd + Rat.divInt (-1) 9)]] ++ List.map (cV b) cs)) (some (((cs.getLast?.getD (0, 0)).fst + Rat.divInt 1 1, (cs.head?.getD (0, 0)).snd + Rat.divInt (-1) 9) :: cs)) := by
      refine ⟨.inl ⟨_, lv, by simp; omega, fun d hd => ?_, ?_⟩, fun c e => ?_⟩
      · rcases List.mem_cons.mp hd with rfl | hd
        · exact iOk_cV _ _
        · obtain ⟨x, _, rfl⟩ := List.mem_map.mp hd
          exact iOk_cV _ _
      · rw [if_neg (by simp)]
        unfold cornF
        rw [itemF_cV, cornF_cV]
        rfl
      · cases e
        refine ⟨by simp, fun x hx => ?_⟩
        rcases List.mem_cons.mp hx with rfl | hx
        · exact ⟨(s2.1.add p1).mono (by decide), (s1.2.add p9).mono (by decide)⟩
        · exact ok.szc x hx
    refine valBad nl nh trivial ec zl zh (rayF_asc hw ?_)
    cases cs with
    | nil => exact absurd rfl ne
    | cons x r =>
      show (decide (_ < x.1) && _) = false
      have h1 : (x.1 : Rat) ≤ ((x :: r).getLast?.getD (0, 0)).1 := l1
      have : (0 : Rat) < Rat.divInt 1 1 := q_pos (by decide) (by decide)
      rw [decide_eq_false (by
        show ¬ ((x :: r).getLast?.getD (0, 0)).1 + Rat.divInt 1 1 < x.1
        intro h; grind)]
      rfl
  · exact .inr ⟨(show Str.length _ ≤ sizeLine from le_line rfl), (fun xs e => nomatch e), rfl⟩
theorem spoil_at {M : MS} {lo hi : Option Rat} {w : Int} {cs : List (Rat × Rat)} {c : Addr} {b : Bool} {as : List Addr} {nz : Nat} {z : Int} (ok : RayK ⟨lo, hi, w, cs⟩) (sm : RayS ⟨lo, hi, w, cs⟩) (hc : M c = some (.lst (cs.map (cV b)))) (las : as.length ≤ 3) (ok4 : ∀ d ∈ as.map D.ref, IOk M d) (bad : ∃ a ∈ as, itemF M (.ref a) = none) (hnz : nz < cs.length) (z0 : 0 ≤ z) (z1 : z < 20) :
    ∃ d, atD (spoilL lo hi w cs c b as cs[nz] nz) z = some d ∧ ValOk M d none := by
  obtain ⟨d, hd, e⟩ := atD_memZ (xs := spoilL lo hi w cs c b as cs[nz] nz) z0 z1
  exact ⟨d, e, spoil_bad ok sm hc las ok4 bad hnz d hd⟩
abbrev s__law_spoiled : Stmt := top 34
theorem sc__law_spoiled : FnScope ["_law_pen_here", "_law_ray", "_law_beyond", "_law_at", "_law_bent", "_law_twin", "_law_low", "_law_high", "_law_way", "_law_corners_here", "_law_end", "_law_first", "_law_last", "_law_corner"] ["_law_pen_here", "_law_ray"] (defScope s__law_spoiled) := ⟨rfl, rfl, rfl, by decide +kernel, rfl, by decide +kernel, by decide +kernel⟩
def sp__law_spoiled : SpD := fun ds M R W => match ds with
  | [g, v] => ∃ (p : Addr) (m : MO) (r : Ray) (c : Addr) (b : Bool) (n : Nat), g = .ref p ∧ v = .tup [oN r.low, oN r.high, .int r.way, .ref c] ∧ RayK r ∧ RayS r ∧ M c = some (.lst (r.cs.map (cV b))) ∧ M p = some m ∧ Pn.PenM m (n + 10) ∧
    ∀ d M2 m2, ValOk M2 d none → (∀ a, a ≠ p → M a ≠ none → M2 a = M a) → M2 p = some m2 → Pn.PenM m2 n → R d M2
  | _ => False
theorem ok__law_spoiled {f : Addr} {fd : FuncData} (F : FnP K "_law_spoiled" "_law_spoiled" s__law_spoiled f fd) (T : Fx K mg C_BadRay C_Curve C_ScaleError) (M__law_draw : Cal P w K mg base (L2N.CX P w) 1 "_law_draw" ["_law_pen_here", "_law_many"] [] (upSp K Pn.spDrawD)) (M__law_pick : Cal P w K mg base (L2N.CX P w) 2 "_law_pick" ["_law_pen_here", "_law_items"] [] (upSp K sp__law_pick)) (M__law_plus : Cal P w K mg base (L2N.CX P w) 2 "_law_plus" ["_law_a", "_law_b", "_law_sign"] [] (upSp K sp__law_plus)) :
    FnOk P w K mg base (L2N.CX P w) 3 f fd ["_law_pen_here", "_law_ray"] (upSp K sp__law_spoiled) := by
  refine okDN (k := 2) F sc__law_spoiled (fun ds M R W h => ?_) (fun cdv A outer s H E hr hx tk => ⟨_, (dss_cons (ds_asg (de_v 1) (dg_tup (K := K) (n := 4) rfl (by rfl) (dgs_cons (dg_name 6 sc__law_spoiled.nd) (dgs_cons (dg_name 7 sc__law_spoiled.nd) (dgs_cons (dg_name 8 sc__law_spoiled.nd) (dgs_cons (dg_name 9 sc__law_spoiled.nd) dgs_nil))))))
      (dss_cons (ds_par3 sc__law_spoiled.nd (da_cons (de_tup (da_cons de_int (da_cons de_int da_nil))) (da_cons (de_ix (de_v 9) de_int (fun _ _ => rfl)) (da_cons (de_ix (de_v 9) (de_neg de_int) (fun _ _ => rfl)) da_nil))) (fun ha => ps_par3 (i := 10) (j := 11) (l := 12) (by rfl) sc__law_spoiled.nd rfl rfl rfl (by decide) (by decide) (by decide) rfl rfl rfl ha (by rfl)))
      (dss_cons (ds_set 2 sc__law_spoiled.nd (de_fn M__law_plus Dfl.nil (hr.mono (by decide)) hx (da_cons (de_ix (de_v 12) de_int (fun _ _ => rfl)) (da_cons (de_tup (da_cons de_int (da_cons de_int da_nil))) (da_cons de_int da_nil)))))
      (dss_cons (ds_set 3 sc__law_spoiled.nd (de_fn M__law_draw Dfl.nil (hr.mono (by decide)) hx (da_cons (de_v 0) (da_cons (de_bi call_len rc_len T.b_len PySem.boot_len (da_cons (de_v 9) da_nil)) da_nil))))
      (dss_cons (ds_setLcC 4 (own := [("_law_corner", 13)]) (by rfl) sc__law_spoiled.nd rfl rfl (sw_true rfl rfl rfl (by decide +kernel)) (dic_sq (de_v 9)) (blkOk_by (own := [("_law_corner", 13)]) (N := ["_law_pen_here", "_law_ray", "_law_beyond", "_law_at", "_law_bent", "_law_twin", "_law_low", "_law_high", "_law_way", "_law_corners_here", "_law_end", "_law_first", "_law_last", "_law_corner"]) (sc := defScope s__law_spoiled) (by decide +kernel)) (fun _ _ _ _ _ => (dgw_name 13 sc__law_spoiled.nd)) (fun _ _ _ _ _ => dts_nil) (fun _ _ _ _ _ => (de_bt call_list_of rc_listM T.b_list (by decide +kernel) (da_cons (de_v 13) da_nil))))
      (dss_cons (ds_asg (de_fn M__law_pick Dfl.nil (hr.mono (by decide)) hx (da_cons (de_v 0) (da_cons (de_lst (da_cons de_non (da_cons de_int (da_cons (de_tup (da_cons de_int (da_cons de_int da_nil))) (da_cons (de_tup (da_cons de_int (da_cons (de_neg de_int) da_nil))) (da_cons (de_tup (da_cons de_int (da_cons de_int (da_cons de_int da_nil)))) (da_cons (de_tup (da_cons de_bl (da_cons de_int da_nil))) (da_cons (de_tup (da_cons de_int (da_cons de_int da_nil))) da_nil)))))))) da_nil))) (dg_sub (de_ix (de_v 4) (de_v 3) (fun _ _ => rfl)) (de_fn M__law_draw Dfl.nil (hr.mono (by decide)) hx (da_cons (de_v 0) (da_cons de_int da_nil)))))
      (dss_cut (ds_set 5 sc__law_spoiled.nd (de_op op_addD ro_add (de_op op_addD ro_add (de_sl (de_v 9) do_none (do_some (de_v 3))) (de_lst (da_cons (de_ix (de_v 9) (de_v 3) (fun _ _ => rfl)) da_nil))) (de_sl (de_v 9) (do_some (de_v 3)) do_none)))
      (dss_one (ds_ret (de_ix (de_lst (da_cons (de_tup (da_cons (de_v 6) (da_cons (de_v 7) (da_cons (de_v 8) da_nil)))) (da_cons (de_tup (da_cons (de_v 6) (da_cons (de_v 7) (da_cons (de_v 8) (da_cons (de_v 9) (da_cons de_int da_nil)))))) (da_cons (de_lst (da_cons (de_v 6) (da_cons (de_v 7) (da_cons (de_v 8) (da_cons (de_v 9) da_nil))))) (da_cons (de_tup (da_cons (de_v 6) (da_cons (de_v 7) (da_cons de_int (da_cons (de_v 9) da_nil))))) (da_cons (de_tup (da_cons (de_v 6) (da_cons (de_v 7) (da_cons (de_op op_mulD ro_mul de_int (de_v 8)) (da_cons (de_v 9) da_nil))))) (da_cons (de_tup (da_cons (de_v 6) (da_cons (de_v 7) (da_cons de_bl (da_cons (de_v 9) da_nil))))) (da_cons (de_tup (da_cons (de_v 6) (da_cons (de_v 7) (da_cons (de_v 8) (da_cons (de_lst da_nil) da_nil))))) (da_cons (de_tup (da_cons (de_v 6) (da_cons (de_v 7) (da_cons (de_v 8) (da_cons (de_v 4) da_nil))))) (da_cons (de_tup (da_cons (de_v 6) (da_cons (de_v 7) (da_cons (de_v 8) (da_cons (de_v 5) da_nil))))) (da_cons (de_tup (da_cons (de_v 6) (da_cons (de_v 7) (da_cons (de_v 8) (da_cons de_non da_nil))))) (da_cons (de_tup (da_cons (de_tup (da_cons de_int (da_cons de_int da_nil))) (da_cons (de_v 7) (da_cons (de_v 8) (da_cons (de_v 9) da_nil))))) (da_cons (de_tup (da_cons (de_v 6) (da_cons de_int (da_cons (de_v 8) (da_cons (de_v 9) da_nil))))) (da_cons (de_tup (da_cons (de_ix (de_v 11) de_int (fun _ _ => rfl)) (da_cons (de_v 7) (da_cons (de_v 8) (da_cons (de_v 9) da_nil))))) (da_cons (de_tup (da_cons (de_v 6) (da_cons (de_ix (de_v 12) de_int (fun _ _ => rfl)) (da_cons (de_v 8) (da_cons (de_v 9) da_nil))))) (da_cons (de_tup (da_cons (de_v 2) (da_cons (de_v 7) (da_cons (de_v 8) (da_cons (de_v 9) da_nil))))) (da_cons (de_tup (da_cons (de_v 6) (da_cons (de_fn M__law_plus Dfl.nil (hr.mono (by decide)) hx (da_cons (de_ix (de_v 11) de_int (fun _ _ => rfl)) (da_cons (de_v 10) (da_cons (de_neg de_int) da_nil)))) (da_cons (de_v 8) (da_cons (de_v 9) da_nil))))) (da_cons (de_tup (da_cons (de_v 6) (da_cons (de_v 7) (da_cons (de_v 8) (da_cons (de_lst (da_cons (de_op op_addD ro_add (de_bt call_tuple_of rc_tuple T.b_tuple (by decide +kernel) (da_cons (de_ix (de_v 9) de_int (fun _ _ => rfl)) da_nil)) (de_tup (da_cons (de_v 10) da_nil))) da_nil)) da_nil))))) (da_cons de_non (da_cons (de_tup (da_cons (de_v 6) (da_cons (de_v 7) (da_cons (de_v 8) (da_cons (de_op op_addD ro_add (de_lst (da_cons (de_tup (da_cons (de_fn M__law_plus Dfl.nil (hr.mono (by decide)) hx (da_cons (de_ix (de_v 12) de_int (fun _ _ => rfl)) (da_cons (de_tup (da_cons de_int (da_cons de_int da_nil))) (da_cons de_int da_nil)))) (da_cons (de_fn M__law_plus Dfl.nil (hr.mono (by decide)) hx (da_cons (de_ix (de_v 11) de_int (fun _ _ => rfl)) (da_cons (de_tup (da_cons (de_neg de_int) (da_cons de_int da_nil))) (da_cons de_int da_nil)))) da_nil))) da_nil)) (de_v 9)) da_nil))))) (da_cons de_str da_nil))))))))))))))))))))) (de_fn M__law_draw Dfl.nil (hr.mono (by decide)) hx (da_cons (de_v 0) (da_cons de_int da_nil))) (fun _ _ => rfl))))))))))), fun ds M R W h => ?_⟩)
  · match ds, h with | [_, _], _ => rfl
  · match ds, h with
    | [g, v], h =>
      obtain ⟨p, m, ⟨lo, hi, w, cs⟩, c, b, n, rfl, rfl, ok, sm, hc, hp, hb, k⟩ := h
      have hw : w = 1 ∨ w = -1 := ok.way
      have ne : cs ≠ [] := ok.ne
      have few : cs.length ≤ 3 := sm.few
      have a0 : ∀ b, atD (cs.map (cV b)) 0 = some (cV b (cs.head?.getD (0, 0))) := fun b => by
        cases cs with
        | nil => exact absurd rfl ne
        | cons x r => exact atD_0
      have a1 : ∀ b, atD (cs.map (cV b)) (-1) = some (cV b (cs.getLast?.getD (0, 0))) := fun b => by
        obtain ⟨r, x, e⟩ : ∃ r x, cs = r ++ [x] := ⟨_, _, (List.dropLast_concat_getLast ne).symm⟩
        rw [e, List.map_append, List.getLast?_concat]
        exact atD_last
      have pc : c ≠ p := by
        rintro rfl
        rw [hc] at hp
        cases hp
        obtain ⟨_, _, _, h, _⟩ := hb
        cases h
      have f1 := sm.szc _ (fst_mem (r := ⟨lo, hi, w, cs⟩) ne)
      have f2 := sm.szc _ (lst_mem (r := ⟨lo, hi, w, cs⟩) ne)
      have f1' : Sz 130 (cs.head?.getD (0, 0)).1 ∧ Sz 130 (cs.head?.getD (0, 0)).2 := f1
      have f2' : Sz 130 (cs.getLast?.getD (0, 0)).1 ∧ Sz 130 (cs.getLast?.getD (0, 0)).2 := f2
      have hc : M c = some (.lst (cs.map (cV b))) := hc
      have eD : ∀ x : Rat × Rat, vw M (cV b x) = cV b x := fun x => by cases b <;> rfl
      cases b
      case false =>
        walk_at "s"
        rw [vw_at hc]
        walk_at "s"
        rw [a0]
        walk_at "s"
        rw [vw_at hc]
        walk_at "s"
        rw [a1]
        walk_at "s"
        refine ⟨(cs.getLast?.getD (0, 0)).2, _, 1, 130, 3, rfl, qp_lit 5 1 (by decide) (by unfold Bd; decide) (by unfold Bd; decide), rfl, f2'.2, by omega, .inl ⟨rfl, ?_⟩⟩
        walk_at "s"
        rw [vw_at hc]
        walk_at "s"
        refine ⟨p, m, ((cs.map (cV false)).length : Int), n + 9, rfl, by have := List.length_pos_iff.mpr ne; rw [List.length_map]; omega, log_ok (by rw [List.length_map]; omega), hp, hb, fun z m1 z0 z1 b1 => ?_⟩
        walk_at "s"
        rw [seqOf_ne pc hc]
        walk_at "s"
        refine dLcLC_ind (fun r acc M' => ∃ (rest : List (Rat × Rat)) (as : List Addr), r = rest.map (cV false) ∧ as.length + rest.length = cs.length ∧ acc = as.map D.ref ∧ M' p = some m1 ∧ (∀ a, a ≠ p → M a ≠ none → M' a = M a) ∧ (∀ a ∈ as, a ≠ p ∧ M a = none ∧ ∃ x y : Rat, M' a = some (.lst [qN x, qN y]))) ⟨cs, [], rfl, by simp, rfl, updM_same, fun a ha _ => updM_ne ha, fun _ h => nomatch h⟩ ?_ ?_
        · rintro d r _ M3 ⟨rest, as, e1, e2, rfl, hp3, hk3, ha3⟩ ih
          cases rest with
          | nil => cases e1
          | cons x rest =>
          cases e1
          walk_at "s"
          refine fun a0 h0 => ?_
          have hcp : M c ≠ none := by rw [hc]; nofun
          have na0 : ∀ a, a ≠ p → M a ≠ none → a ≠ a0 := fun a h1 h2 => by
            rintro rfl
            rw [← hk3 a h1 h2] at h2
            exact h2 h0
          have np0 : p ≠ a0 := by rintro rfl; rw [hp3] at h0; cases h0
          have hc5 : ∀ mo, updM M3 a0 mo c = some (.lst (cs.map (cV false))) := fun mo => by rw [updM_ne (na0 c pc hcp), hk3 c pc hcp]; exact hc
          walk_at "s"
          refine ⟨lt_line (by simp at e2 ⊢; omega), hc5 _, ?_⟩
          refine ih _ _ ⟨rest, as ++ [a0], rfl, by simp at e2 ⊢; omega, by simp, by rw [updM_ne np0]; exact hp3, fun a h1 h2 => by rw [updM_ne (na0 a h1 h2)]; exact hk3 a h1 h2, fun a ha => ?_⟩
          rcases List.mem_append.mp ha with ha | ha
          · obtain ⟨h1, h2, x1, y1, h3⟩ := ha3 a ha
            refine ⟨h1, h2, x1, y1, ?_⟩
            rw [updM_ne (by rintro rfl; rw [h3] at h0; cases h0)]
            exact h3
          · rw [List.mem_singleton.mp ha]
            refine ⟨Ne.symm np0, ?_, x.1, x.2, updM_same⟩
            cases hm : M a0 with
            | none => rfl
            | some mo => exact absurd rfl (na0 a0 (Ne.symm np0) (by rw [hm]; nofun))
        · rintro _ M3 ⟨rest, as, e1, e2, rfl, hp3, hk3, ha3⟩
          cases rest with
          | cons x rest => cases e1
          | nil =>
          walk_at "s"
          refine ⟨p, m1, _, n + 8, rfl, rfl, by simp, by simp, hp3, b1, fun x m2 hx b2 => ?_⟩
          have bx : NumOk x ∧ numB x = false := by
            simp only [List.mem_cons, List.not_mem_nil, or_false] at hx
            rcases hx with rfl | rfl | rfl | rfl | rfl | rfl | rfl
            · exact ⟨trivial, rfl⟩
            · exact ⟨trivial, rfl⟩
            · exact ⟨⟨trivial, trivial⟩, rfl⟩
            · exact ⟨⟨trivial, trivial⟩, rfl⟩
            · exact ⟨trivial, rfl⟩
            · exact ⟨⟨trivial, trivial⟩, rfl⟩
            · exact ⟨⟨trivial, trivial⟩, rfl⟩
          walk_at "s"
          obtain ⟨a, ha, ea⟩ := atD_mapZ (f := D.ref) (xs := as) z0 (by rw [List.length_map] at z1; simp at e2; omega)
          obtain ⟨ap, na, x1, y1, e3⟩ := ha3 a ha
          rw [ea]
          walk_at "s"
          refine ⟨p, m2, 2, n + 7, rfl, by decide, log_ok (by decide), updM_same, b2, fun z2 m3 z20 z21 b3 => ?_⟩
          rw [updM_updM]
          walk_at "s"
          rw [updM_ne ap, e3]
          have ez : z2 = 0 ∨ z2 = 1 := by omega
          refine ⟨z2.toNat, by rcases ez with rfl | rfl <;> rfl, ?_⟩
          have hcp : M c ≠ none := by rw [hc]; nofun
          obtain ⟨M4, eM⟩ : ∃ M4, M4 = updM (updM M3 p m3) a (.lst ([qN x1, qN y1].set z2.toNat x)) := ⟨_, rfl⟩
          rw [← eM]
          have hp4 : M4 p = some m3 := by rw [eM, updM_ne (Ne.symm ap), updM_same]
          have hk4 : ∀ a', a' ≠ p → M a' ≠ none → M4 a' = M a' := fun a' h1 h2 => by
            rw [eM, updM_ne (by rintro rfl; exact h2 na), updM_ne h1]
            exact hk3 a' h1 h2
          have hc4 : M4 c = some (.lst (cs.map (cV false))) := (hk4 c pc hcp).trans hc
          have ok4 : ∀ d ∈ as.map D.ref, IOk M4 d := fun d hd => by
            obtain ⟨a', ha', rfl⟩ := List.mem_map.mp hd
            obtain ⟨ap', na', x2, y2, e4⟩ := ha3 a' ha'
            by_cases h : a' = a
            · subst h
              refine .inl ⟨_, .inr (.inr ⟨a', rfl, by rw [eM, updM_same]⟩), fun u v e => ?_⟩
              rcases ez with rfl | rfl
              · cases e
                exact ⟨bx.1, numOk_q _⟩
              · cases e
                exact ⟨numOk_q _, bx.1⟩
            · refine .inl ⟨_, .inr (.inr ⟨a', rfl, by rw [eM, updM_ne h, updM_ne ap']; exact e4⟩), fun u v e => ?_⟩
              cases e
              exact ⟨numOk_q _, numOk_q _⟩
          have bad4 : itemF M4 (.ref a) = none := by
            have lv : LV M4 (.ref a) ([qN x1, qN y1].set z2.toNat x) := .inr (.inr ⟨a, rfl, by rw [eM, updM_same]⟩)
            rw [lv.item]
            rcases ez with rfl | rfl
            · show (if (numB x && numB (qN y1)) = true then some (numQ x, numQ (qN y1)) else none) = none
              rw [bx.2]
              rfl
            · show (if (numB (qN x1) && numB x) = true then some (numQ (qN x1), numQ x) else none) = none
              rw [bx.2, Bool.and_false]
              rfl
          clear eM
          obtain ⟨nz, rfl⟩ : ∃ nz : Nat, z = (nz : Int) := ⟨z.toNat, by omega⟩
          have hnz : nz < cs.length := by rw [List.length_map] at z1; omega
          walk_at "s"
          refine ⟨fun τ' M' => ∃ (as : List Addr) (nz : Nat) (hnz : nz < cs.length) (m3 : MO) (_ : True), τ' = [some (.ref p), some (.tup [oN lo, oN hi, .int w, .ref c]), some (qN ((cs.getLast?.getD (0, 0)).2 + Rat.divInt 5 1)), some (.int (nz : Int)), some (.lst (as.map D.ref)), some (.lst ((cs.take nz ++ cs[nz] :: cs[nz] :: cs.drop (nz + 1)).map (cV false))), some (oN lo), some (oN hi), some (.int w), some (.ref c), some (.tup [.int 7, .int 1]), some (cV false (cs.head?.getD (0, 0))), some (cV false (cs.getLast?.getD (0, 0))), none] ∧ M' p = some m3 ∧ Pn.PenM m3 (n + 7) ∧ (∀ a', a' ≠ p → M a' ≠ none → M' a' = M a') ∧ as.length ≤ 3 ∧ (∀ d ∈ as.map D.ref, IOk M' d) ∧ (∃ a ∈ as, itemF M' (.ref a) = none), ?_, ?_⟩
          · walk_at "s"
            rw [vw_at hc4]
            walk_at "s"
            rw [cut_to (i := nz) rfl]
            walk_at "s"
            rw [vw_at hc4]
            walk_at "s"
            have hy : cs[nz]? = some cs[nz] := List.getElem?_eq_getElem hnz
            rw [atD_some (f := cV false) hy rfl]
            walk_at "s"
            refine ⟨le_line2 (by simp; omega), ?_⟩
            walk_at "s"
            rw [vw_at hc4]
            walk_at "s"
            rw [cut_from (i := nz) rfl]
            walk_at "s"
            refine ⟨le_line2 (by simp; omega), ?_⟩
            walk_at "s"
            refine ⟨as, nz, hnz, m3, trivial, ?_, hp4, b3, hk4, by simp at e2; omega, ok4, a, ha, bad4⟩
            rw [twin_map hnz]
            rfl
          clear ea z0 z1 hc4 hk4 hp4 ok4 bad4 M4 b3 e3 na ap ha a x1 y1 e1 e2 ha3 hk3 hp3 as z20 z21 ez z2 m3 b2 m2 bx hx x M3 b1 m1 hnz nz
          rintro _ M4 ⟨as, nz, hnz, m3, _, rfl, hp4, b3, hk4, las, ok4, a, ha, bad4⟩
          have hcp : M c ≠ none := by rw [hc]; nofun
          have hc4 : M4 c = some (.lst (cs.map (cV false))) := (hk4 c pc hcp).trans hc
          walk_at "s"
          refine ⟨Bd.w (k := 2) (j := 1) (by unfold Bd; decide) (by rcases hw with rfl | rfl <;> (unfold Bd; decide)) (by decide) (by decide), ?_⟩
          walk_at "s"
          refine ⟨(cs.head?.getD (0, 0)).2, _, -1, 130, 3, rfl, qp_lit 7 1 (by decide) (by unfold Bd; decide) (by unfold Bd; decide), rfl, f1'.2, by omega, .inr ⟨rfl, ?_⟩⟩
          walk_at "s"
          rw [vw_at hc4]
          walk_at "s"
          rw [a0]
          walk_at "s"
          refine ⟨(cs.getLast?.getD (0, 0)).1, _, 1, 130, 3, rfl, qp_lit 1 1 (by decide) (by unfold Bd; decide) (by unfold Bd; decide), rfl, f2'.1, by omega, .inl ⟨rfl, ?_⟩⟩
          walk_at "s"
          refine ⟨(cs.head?.getD (0, 0)).2, _, 1, 130, 4, rfl, qp_lit (-1) 9 (by decide) (by unfold Bd; decide) (by unfold Bd; decide), rfl, f1'.2, by omega, .inl ⟨rfl, ?_⟩⟩
          walk_at "s"
          rw [vw_at hc4]
          walk_at "s"
          refine ⟨le_line2 (by simp; omega), ?_⟩
          walk_at "s"
          refine ⟨p, m3, 20, n + 6, rfl, by decide, log_ok (by decide), hp4, b3, fun z m4 z0 z1 b4 => ?_⟩
          walk_at "s"
          obtain ⟨d, ed, vd⟩ := spoil_at ok sm hc4 las ok4 ⟨a, ha, bad4⟩ hnz z0 z1
          rw [ed]
          have mp : ∀ xs, M4 p ≠ some (.lst xs) := fun xs h => by
            rw [hp4] at h
            cases h
            obtain ⟨_, _, _, z, _⟩ := b3
            cases z
          exact ⟨_, SubM.refl _, k d _ m4 (vd.keep fun a xs e => (by rw [updM_ne (by rintro rfl; exact mp xs e)]; exact e)) (fun a h1 h2 => by rw [updM_ne h1]; exact hk4 a h1 h2) updM_same (b4.mono (by omega))⟩
      case true =>
        walk_at "s"
        rw [vw_at hc]
        walk_at "s"
        rw [a0]
        walk_at "s"
        rw [vw_at hc]
        walk_at "s"
        rw [a1]
        walk_at "s"
        refine ⟨(cs.getLast?.getD (0, 0)).2, _, 1, 130, 3, rfl, qp_lit 5 1 (by decide) (by unfold Bd; decide) (by unfold Bd; decide), rfl, f2'.2, by omega, .inl ⟨rfl, ?_⟩⟩
        walk_at "s"
        rw [vw_at hc]
        walk_at "s"
        refine ⟨p, m, ((cs.map (cV true)).length : Int), n + 9, rfl, by have := List.length_pos_iff.mpr ne; rw [List.length_map]; omega, log_ok (by rw [List.length_map]; omega), hp, hb, fun z m1 z0 z1 b1 => ?_⟩
        walk_at "s"
        rw [seqOf_ne pc hc]
        walk_at "s"
        refine dLcLC_ind (fun r acc M' => ∃ (rest : List (Rat × Rat)) (as : List Addr), r = rest.map (cV true) ∧ as.length + rest.length = cs.length ∧ acc = as.map D.ref ∧ M' p = some m1 ∧ (∀ a, a ≠ p → M a ≠ none → M' a = M a) ∧ (∀ a ∈ as, a ≠ p ∧ M a = none ∧ ∃ x y : Rat, M' a = some (.lst [qN x, qN y]))) ⟨cs, [], rfl, by simp, rfl, updM_same, fun a ha _ => updM_ne ha, fun _ h => nomatch h⟩ ?_ ?_
        · rintro d r _ M3 ⟨rest, as, e1, e2, rfl, hp3, hk3, ha3⟩ ih
          cases rest with
          | nil => cases e1
          | cons x rest =>
          cases e1
          walk_at "s"
          refine fun a0 h0 => ?_
          have hcp : M c ≠ none := by rw [hc]; nofun
          have na0 : ∀ a, a ≠ p → M a ≠ none → a ≠ a0 := fun a h1 h2 => by
            rintro rfl
            rw [← hk3 a h1 h2] at h2
            exact h2 h0
          have np0 : p ≠ a0 := by rintro rfl; rw [hp3] at h0; cases h0
          have hc5 : ∀ mo, updM M3 a0 mo c = some (.lst (cs.map (cV true))) := fun mo => by rw [updM_ne (na0 c pc hcp), hk3 c pc hcp]; exact hc
          walk_at "s"
          refine ⟨lt_line (by simp at e2 ⊢; omega), hc5 _, ?_⟩
          refine ih _ _ ⟨rest, as ++ [a0], rfl, by simp at e2 ⊢; omega, by simp, by rw [updM_ne np0]; exact hp3, fun a h1 h2 => by rw [updM_ne (na0 a h1 h2)]; exact hk3 a h1 h2, fun a ha => ?_⟩
          rcases List.mem_append.mp ha with ha | ha
          · obtain ⟨h1, h2, x1, y1, h3⟩ := ha3 a ha
            refine ⟨h1, h2, x1, y1, ?_⟩
            rw [updM_ne (by rintro rfl; rw [h3] at h0; cases h0)]
            exact h3
          · rw [List.mem_singleton.mp ha]
            refine ⟨Ne.symm np0, ?_, x.1, x.2, updM_same⟩
            cases hm : M a0 with
            | none => rfl
            | some mo => exact absurd rfl (na0 a0 (Ne.symm np0) (by rw [hm]; nofun))
        · rintro _ M3 ⟨rest, as, e1, e2, rfl, hp3, hk3, ha3⟩
          cases rest with
          | cons x rest => cases e1
          | nil =>
          walk_at "s"
          refine ⟨p, m1, _, n + 8, rfl, rfl, by simp, by simp, hp3, b1, fun x m2 hx b2 => ?_⟩
          have bx : NumOk x ∧ numB x = false := by
            simp only [List.mem_cons, List.not_mem_nil, or_false] at hx
            rcases hx with rfl | rfl | rfl | rfl | rfl | rfl | rfl
            · exact ⟨trivial, rfl⟩
            · exact ⟨trivial, rfl⟩
            · exact ⟨⟨trivial, trivial⟩, rfl⟩
            · exact ⟨⟨trivial, trivial⟩, rfl⟩
            · exact ⟨trivial, rfl⟩
            · exact ⟨⟨trivial, trivial⟩, rfl⟩
            · exact ⟨⟨trivial, trivial⟩, rfl⟩
          walk_at "s"
          obtain ⟨a, ha, ea⟩ := atD_mapZ (f := D.ref) (xs := as) z0 (by rw [List.length_map] at z1; simp at e2; omega)
          obtain ⟨ap, na, x1, y1, e3⟩ := ha3 a ha
          rw [ea]
          walk_at "s"
          refine ⟨p, m2, 2, n + 7, rfl, by decide, log_ok (by decide), updM_same, b2, fun z2 m3 z20 z21 b3 => ?_⟩
          rw [updM_updM]
          walk_at "s"
          rw [updM_ne ap, e3]
          have ez : z2 = 0 ∨ z2 = 1 := by omega
          refine ⟨z2.toNat, by rcases ez with rfl | rfl <;> rfl, ?_⟩
          have hcp : M c ≠ none := by rw [hc]; nofun
          obtain ⟨M4, eM⟩ : ∃ M4, M4 = updM (updM M3 p m3) a (.lst ([qN x1, qN y1].set z2.toNat x)) := ⟨_, rfl⟩
          rw [← eM]
          have hp4 : M4 p = some m3 := by rw [eM, updM_ne (Ne.symm ap), updM_same]
          have hk4 : ∀ a', a' ≠ p → M a' ≠ none → M4 a' = M a' := fun a' h1 h2 => by
            rw [eM, updM_ne (by rintro rfl; exact h2 na), updM_ne h1]
            exact hk3 a' h1 h2
          have hc4 : M4 c = some (.lst (cs.map (cV true))) := (hk4 c pc hcp).trans hc
          have ok4 : ∀ d ∈ as.map D.ref, IOk M4 d := fun d hd => by
            obtain ⟨a', ha', rfl⟩ := List.mem_map.mp hd
            obtain ⟨ap', na', x2, y2, e4⟩ := ha3 a' ha'
            by_cases h : a' = a
            · subst h
              refine .inl ⟨_, .inr (.inr ⟨a', rfl, by rw [eM, updM_same]⟩), fun u v e => ?_⟩
              rcases ez with rfl | rfl
              · cases e
                exact ⟨bx.1, numOk_q _⟩
              · cases e
                exact ⟨numOk_q _, bx.1⟩
            · refine .inl ⟨_, .inr (.inr ⟨a', rfl, by rw [eM, updM_ne h, updM_ne ap']; exact e4⟩), fun u v e => ?_⟩
              cases e
              exact ⟨numOk_q _, numOk_q _⟩
          have bad4 : itemF M4 (.ref a) = none := by
            have lv : LV M4 (.ref a) ([qN x1, qN y1].set z2.toNat x) := .inr (.inr ⟨a, rfl, by rw [eM, updM_same]⟩)
            rw [lv.item]
            rcases ez with rfl | rfl
            · show (if (numB x && numB (qN y1)) = true then some (numQ x, numQ (qN y1)) else none) = none
              rw [bx.2]
              rfl
            · show (if (numB (qN x1) && numB x) = true then some (numQ (qN x1), numQ x) else none) = none
              rw [bx.2, Bool.and_false]
              rfl
          clear eM
          obtain ⟨nz, rfl⟩ : ∃ nz : Nat, z = (nz : Int) := ⟨z.toNat, by omega⟩
          have hnz : nz < cs.length := by rw [List.length_map] at z1; omega
          walk_at "s"
          refine ⟨fun τ' M' => ∃ (as : List Addr) (nz : Nat) (hnz : nz < cs.length) (m3 : MO) (_ : True), τ' = [some (.ref p), some (.tup [oN lo, oN hi, .int w, .ref c]), some (qN ((cs.getLast?.getD (0, 0)).2 + Rat.divInt 5 1)), some (.int (nz : Int)), some (.lst (as.map D.ref)), some (.lst ((cs.take nz ++ cs[nz] :: cs[nz] :: cs.drop (nz + 1)).map (cV true))), some (oN lo), some (oN hi), some (.int w), some (.ref c), some (.tup [.int 7, .int 1]), some (cV true (cs.head?.getD (0, 0))), some (cV true (cs.getLast?.getD (0, 0))), none] ∧ M' p = some m3 ∧ Pn.PenM m3 (n + 7) ∧ (∀ a', a' ≠ p → M a' ≠ none → M' a' = M a') ∧ as.length ≤ 3 ∧ (∀ d ∈ as.map D.ref, IOk M' d) ∧ (∃ a ∈ as, itemF M' (.ref a) = none), ?_, ?_⟩
          · walk_at "s"
            rw [vw_at hc4]
            walk_at "s"
            rw [cut_to (i := nz) rfl]
            walk_at "s"
            rw [vw_at hc4]
            walk_at "s"
            have hy : cs[nz]? = some cs[nz] := List.getElem?_eq_getElem hnz
            rw [atD_some (f := cV true) hy rfl]
            walk_at "s"
            refine ⟨le_line2 (by simp; omega), ?_⟩
            walk_at "s"
            rw [vw_at hc4]
            walk_at "s"
            rw [cut_from (i := nz) rfl]
            walk_at "s"
            refine ⟨le_line2 (by simp; omega), ?_⟩
            walk_at "s"
            refine ⟨as, nz, hnz, m3, trivial, ?_, hp4, b3, hk4, by simp at e2; omega, ok4, a, ha, bad4⟩
            rw [twin_map hnz]
            rfl
          clear ea z0 z1 hc4 hk4 hp4 ok4 bad4 M4 b3 e3 na ap ha a x1 y1 e1 e2 ha3 hk3 hp3 as z20 z21 ez z2 m3 b2 m2 bx hx x M3 b1 m1 hnz nz
          rintro _ M4 ⟨as, nz, hnz, m3, _, rfl, hp4, b3, hk4, las, ok4, a, ha, bad4⟩
          have hcp : M c ≠ none := by rw [hc]; nofun
          have hc4 : M4 c = some (.lst (cs.map (cV true))) := (hk4 c pc hcp).trans hc
          walk_at "s"
          refine ⟨Bd.w (k := 2) (j := 1) (by unfold Bd; decide) (by rcases hw with rfl | rfl <;> (unfold Bd; decide)) (by decide) (by decide), ?_⟩
          walk_at "s"
          refine ⟨(cs.head?.getD (0, 0)).2, _, -1, 130, 3, rfl, qp_lit 7 1 (by decide) (by unfold Bd; decide) (by unfold Bd; decide), rfl, f1'.2, by omega, .inr ⟨rfl, ?_⟩⟩
          walk_at "s"
          rw [vw_at hc4]
          walk_at "s"
          rw [a0]
          walk_at "s"
          refine ⟨(cs.getLast?.getD (0, 0)).1, _, 1, 130, 3, rfl, qp_lit 1 1 (by decide) (by unfold Bd; decide) (by unfold Bd; decide), rfl, f2'.1, by omega, .inl ⟨rfl, ?_⟩⟩
          walk_at "s"
          refine ⟨(cs.head?.getD (0, 0)).2, _, 1, 130, 4, rfl, qp_lit (-1) 9 (by decide) (by unfold Bd; decide) (by unfold Bd; decide), rfl, f1'.2, by omega, .inl ⟨rfl, ?_⟩⟩
          walk_at "s"
          rw [vw_at hc4]
          walk_at "s"
          refine ⟨le_line2 (by simp; omega), ?_⟩
          walk_at "s"
          refine ⟨p, m3, 20, n + 6, rfl, by decide, log_ok (by decide), hp4, b3, fun z m4 z0 z1 b4 => ?_⟩
          walk_at "s"
          obtain ⟨d, ed, vd⟩ := spoil_at ok sm hc4 las ok4 ⟨a, ha, bad4⟩ hnz z0 z1
          rw [ed]
          have mp : ∀ xs, M4 p ≠ some (.lst xs) := fun xs h => by
            rw [hp4] at h
            cases h
            obtain ⟨_, _, _, z, _⟩ := b3
            cases z
          exact ⟨_, SubM.refl _, k d _ m4 (vd.keep fun a xs e => (by rw [updM_ne (by rintro rfl; exact mp xs e)]; exact e)) (fun a h1 h2 => by rw [updM_ne h1]; exact hk4 a h1 h2) updM_same (b4.mono (by omega))⟩
end
end RS

set_option maxRecDepth 100000
set_option maxHeartbeats 4000000
namespace RS
open PySem PySem.Spec PyProof.Rows L2 NdefX He PySem.W LamX
variable [Tbls]
section
variable {P : Program} {w : World} {K : PySem.W.Frag} {mg : Str → Option Value} {base : Heap} {C_BadRay C_Curve C_ScaleError : Addr}

/-! ### the law -/
theorem seqOf_ref {M : MS} {c : Addr} {xs : List D} (hc : M c = some (.lst xs)) : seqOf M (.ref c) = some (xs, some c) := by
  show (match M c with | some (.lst xs) => some (xs, some c) | _ => none) = _
  rw [hc]
theorem rayR_okV {M : MS} {x : Ray × Addr} {b : Bool} (o : RayK x.1) (h : M x.2 = some (.lst (x.1.cs.map (cV b)))) : ValOk M (rayR x) (some x.1) :=
  .inl ⟨_, _, _, _, _, rfl, numOk_oN _, numOk_oN _, trivial, coOk_of (.inr (.inr ⟨x.2, rfl, h⟩)) o.ne (by have := o.few; omega) o.szc, szO_oN o.szl, szO_oN o.szh, (rayF_good o).symm⟩
theorem ValsOk.snoc {M : MS} {vs : List D} {os : List (Option Ray)} {v : D} {o : Option Ray} (h : ValsOk M vs os) (h2 : ValOk M v o) : ValsOk M (vs ++ [v]) (os ++ [o]) := by
  induction h with
  | nil => exact .cons h2 .nil
  | cons h _ ih => exact .cons h ih
theorem ValsOk.keep {M M2 : MS} {vs : List D} {os : List (Option Ray)} (k : ∀ a xs, M a = some (.lst xs) → M2 a = some (.lst xs)) (h : ValsOk M vs os) : ValsOk M2 vs os := by
  induction h with
  | nil => exact .nil
  | cons h _ ih => exact .cons (h.keep k) ih
theorem raysV_ok {M : MS} {b : Bool} : ∀ {xs : List (Ray × Addr)}, (∀ r ∈ xs.map (·.1), RayK r) → (∀ x ∈ xs, M x.2 = some (.lst (x.1.cs.map (cV b)))) → ValsOk M (xs.map rayR) ((xs.map (·.1)).map some)
  | [], _, _ => .nil
  | x :: xs, ok, cs => .cons (rayR_okV (ok _ (by simp)) (cs x (by simp))) (raysV_ok (fun r hr => ok r (by simp at hr ⊢; exact .inr hr)) fun y hy => cs y (by simp [hy]))
theorem crvF_go : ∀ (rs kept : List Ray) (b : Ray) (j : Nat), ChainR (b :: rs) → crvF (kept ++ [b]) j (rs.map some) = .ok (kept ++ [b] ++ rs)
  | [], kept, b, j, _ => by simp [crvF]
  | r :: rs, kept, b, j, h => by
    have h1 : abvB r b = true := h.1
    have h2 : ChainR (r :: rs) := h.2
    have e := crvF_go rs (kept ++ [b]) r (j + 1) h2
    rw [List.map_cons, crvF, List.getLast?_concat]
    simp only [h1, if_true]
    rw [e]
    simp
theorem crvF_ok : ∀ {rs : List Ray}, ChainR rs → crvF [] 0 (rs.map some) = .ok rs
  | [], _ => rfl
  | r :: rs, h => by
    show crvF ([] ++ [r]) 1 (rs.map some) = _
    rw [crvF_go rs [] r 1 h]
    rfl
/-- the first one that is none -/
theorem crvF_bad1 : ∀ (rs kept : List Ray) (j : Nat) (os : List (Option Ray)), (∀ b, kept.getLast? = some b → ChainR (b :: rs)) → (kept = [] → ChainR rs) → crvF kept j (rs.map some ++ none :: os) = .error (j + rs.length)
  | [], kept, j, os, _, _ => rfl
  | r :: rs, kept, j, os, h, h0 => by
    have ih : (∀ b, (kept ++ [r]).getLast? = some b → ChainR (b :: rs)) → crvF (kept ++ [r]) (j + 1) (rs.map some ++ none :: os) = .error (j + 1 + rs.length) := fun hh => crvF_bad1 rs (kept ++ [r]) (j + 1) os hh (fun z => by simp at z)
    have e : j + (r :: rs).length = j + 1 + rs.length := by simp; omega
    rw [e, List.map_cons, List.cons_append, crvF]
    cases hk : kept.getLast? with
    | none =>
      have k0 : kept = [] := List.getLast?_eq_none_iff.mp hk
      dsimp only
      refine ih fun b hb => ?_
      rw [List.getLast?_concat] at hb
      cases hb
      exact h0 k0
    | some b =>
      have hc := h b hk
      have h1 : abvB r b = true := hc.1
      have h2 : ChainR (r :: rs) := hc.2
      dsimp only
      rw [if_pos h1]
      refine ih fun b2 hb => ?_
      rw [List.getLast?_concat] at hb
      cases hb
      exact h2
theorem ChainR.take : ∀ {rs : List Ray} (n : Nat), ChainR rs → ChainR (rs.take n)
  | [], n, _ => by rw [List.take_nil]; exact trivial
  | [a], 0, _ => trivial
  | [a], n + 1, _ => by rw [List.take_succ_cons, List.take_nil]; exact trivial
  | a :: b :: r, 0, _ => trivial
  | a :: b :: r, 1, _ => trivial
  | a :: b :: r, n + 2, h => ⟨h.1, (ChainR.take (n + 1) h.2 :)⟩
/-- what stands for the ray k -/
def osF (ws : List Int) (rs : List Ray) (j : Nat) : List (Option Ray) := (List.range j).map fun (k : Nat) => if (k : Int) ∈ ws then none else rs[k]?
theorem osF_succ (ws : List Int) (rs : List Ray) (j : Nat) : osF ws rs (j + 1) = osF ws rs j ++ [if (j : Int) ∈ ws then none else rs[j]?] := by
  unfold osF
  rw [List.range_succ, List.map_append]
  rfl
theorem osF_nil (rs : List Ray) : ∀ j, j ≤ rs.length → osF [] rs j = (rs.take j).map some
  | 0, _ => rfl
  | j + 1, h => by
    rw [osF_succ, osF_nil rs j (by omega), if_neg (by simp), List.take_succ_eq_append_getElem (by omega), List.getElem?_eq_getElem (by omega), List.map_append]
    rfl
theorem osF_pre (ws : List Int) (rs : List Ray) : ∀ (m : Nat), m ≤ rs.length → (∀ w ∈ ws, (m : Int) ≤ w) → osF ws rs m = (rs.take m).map some
  | 0, _, _ => rfl
  | m + 1, h, hw => by
    rw [osF_succ, osF_pre ws rs m (by omega) (fun w hh => by have := hw w hh; omega), if_neg (fun z => by have := hw _ z; omega), List.take_succ_eq_append_getElem (by omega), List.getElem?_eq_getElem (by omega), List.map_append]
    rfl
theorem osF_split (ws : List Int) (rs : List Ray) (m : Nat) : ∀ n, m < n → (m : Int) ∈ ws → ∃ os, osF ws rs n = osF ws rs m ++ none :: os
  | 0, h, _ => absurd h (by omega)
  | n + 1, h, hm => by
    rw [osF_succ]
    by_cases e : m = n
    · subst e
      exact ⟨[], by rw [if_pos hm]⟩
    · obtain ⟨os, e2⟩ := osF_split ws rs m n (by omega) hm
      exact ⟨os ++ [if (n : Int) ∈ ws then none else rs[n]?], by rw [e2]; simp⟩
theorem crvF_spoiled {ws : List Int} {rs : List Ray} (ch : ChainR rs) (hw : ∀ w ∈ ws, 0 ≤ w ∧ w < (rs.length : Int)) {m : Nat} (hm : (m : Int) ∈ ws) (hl : ∀ w ∈ ws, (m : Int) ≤ w) : crvF [] 0 (osF ws rs rs.length) = .error m := by
  have hlt : m < rs.length := by have := (hw _ hm).2; omega
  obtain ⟨os, e⟩ := osF_split ws rs m rs.length hlt hm
  rw [e, osF_pre ws rs m (by omega) hl, crvF_bad1 _ _ _ _ (fun b hb => by cases hb) (fun _ => ch.take m), List.length_take, Nat.min_eq_left (by omega)]
  simp
theorem min_of : ∀ (ws : List Int), ws ≠ [] → (∀ w ∈ ws, 0 ≤ w) → ∃ m : Nat, (m : Int) ∈ ws ∧ ∀ w ∈ ws, (m : Int) ≤ w
  | [], h, _ => absurd rfl h
  | [w], _, h => ⟨w.toNat, by have := h w (by simp); simp; omega, fun x hx => by rw [List.mem_singleton.mp hx]; have := h w (by simp); omega⟩
  | w :: v :: r, _, h => by
    obtain ⟨m, h1, h2⟩ := min_of (v :: r) (by simp) fun x hx => h x (List.mem_cons_of_mem _ hx)
    have h0 := h w (by simp)
    by_cases c : w < (m : Int)
    · refine ⟨w.toNat, by rw [show ((w.toNat : Nat) : Int) = w by omega]; simp, fun x hx => ?_⟩
      rcases List.mem_cons.mp hx with rfl | hx
      · omega
      · have := h2 x hx
        omega
    · refine ⟨m, List.mem_cons_of_mem _ h1, fun x hx => ?_⟩
      rcases List.mem_cons.mp hx with rfl | hx
      · omega
      · exact h2 x hx
theorem ray_lh {r : Ray} (o : RayK r) {l h : Rat} (hl : r.low = some l) (hh : r.high = some h) : l < h := by
  have h1 := o.lo l hl
  have h2 := o.hi h hh
  obtain ⟨_, h3⟩ := ascQ_le o.asc o.ne
  have h4 : (fstC r).2 ≤ (lstC r).2 := h3
  grind
theorem abv_some {r b : Ray} (h : abvB r b = true) : ∃ l hh, r.low = some l ∧ b.high = some hh ∧ hh ≤ l := by
  unfold abvB at h
  split at h
  · rename_i x y e1 e2
    exact ⟨y, x, e2, e1, by simp at h; exact Rat.not_lt.mp h⟩
  · cases h
/-- two neighbours exchanged -/
theorem crvF_swap {rs : List Ray} (ch : ChainR rs) (ok : ∀ r ∈ rs, RayK r) {a : Nat} (ha : a + 1 < rs.length) : crvF [] 0 ((rs.take a ++ rs[a + 1] :: rs[a] :: rs.drop (a + 2)).map some) = .error (a + 1) := by
  have step : ∀ (pre kept : List Ray) (j : Nat) (x y : Ray) (os : List Ray), (∀ b, kept.getLast? = some b → ChainR (b :: (pre ++ [y, x]))) → (kept = [] → ChainR (pre ++ [y, x])) → RayK x → RayK y → crvF kept j ((pre ++ x :: y :: os).map some) = .error (j + pre.length + 1) := by
    intro pre
    induction pre with
    | nil =>
      intro kept j x y os h h0 ox oy
      have bad : abvB x y = true → abvB y x = false := fun h1 => by
        obtain ⟨l, hh, e1, e2, le⟩ := abv_some h1
        cases hb : abvB y x with
        | false => rfl
        | true =>
          obtain ⟨l2, h2, e3, e4, le2⟩ := abv_some hb
          have a1 := ray_lh ox e1 e4
          have a2 := ray_lh oy e3 e2
          grind
      have fin : abvB x y = true → crvF (kept ++ [x]) (j + 1) (some y :: os.map some) = .error (j + 1) := fun h1 => by
        rw [crvF, List.getLast?_concat]
        dsimp only
        rw [bad h1]
        rfl
      show crvF kept j (some x :: some y :: os.map some) = _
      rw [crvF]
      cases hk : kept.getLast? with
      | none =>
        have hc : ChainR [y, x] := h0 (List.getLast?_eq_none_iff.mp hk)
        exact fin hc.1
      | some b =>
        have hc : ChainR [b, y, x] := h b hk
        obtain ⟨l, hh, e1, e2, le⟩ := abv_some hc.1
        obtain ⟨l2, h2, e3, e4, le2⟩ := abv_some hc.2.1
        have : abvB x b = true := by
          unfold abvB
          rw [e2, e3]
          have a2 := ray_lh oy e1 e4
          simp
          grind
        dsimp only
        rw [if_pos this]
        exact fin hc.2.1
    | cons r pre ih =>
      intro kept j x y os h h0 ox oy
      have e : j + (r :: pre).length + 1 = j + 1 + pre.length + 1 := by simp; omega
      have nxt : ChainR (r :: (pre ++ [y, x])) → crvF (kept ++ [r]) (j + 1) ((pre ++ x :: y :: os).map some) = .error (j + 1 + pre.length + 1) := fun hc => by
        refine ih (kept ++ [r]) (j + 1) x y os (fun b hb => ?_) (fun z => by simp at z) ox oy
        rw [List.getLast?_concat] at hb
        cases hb
        exact hc
      rw [e, List.cons_append, List.map_cons, crvF]
      cases hk : kept.getLast? with
      | none => exact nxt (h0 (List.getLast?_eq_none_iff.mp hk))
      | some b =>
        have hc := h b hk
        have h1 : abvB r b = true := hc.1
        dsimp only
        rw [if_pos h1]
        exact nxt hc.2
  have e : rs.take a ++ [rs[a], rs[a + 1]] = rs.take (a + 2) := by
    rw [List.take_succ_eq_append_getElem (i := a + 1) (by omega), List.take_succ_eq_append_getElem (i := a) (by omega), List.append_assoc]
    rfl
  have := step (rs.take a) [] 0 rs[a + 1] rs[a] (rs.drop (a + 2)) (fun b hb => by cases hb) (fun _ => by rw [e]; exact ch.take _) (ok _ (List.getElem_mem _)) (ok _ (List.getElem_mem _))
  rw [this, List.length_take, Nat.min_eq_left (by omega)]
  simp
theorem PD_intsL {n : Nat} (ws : List Int) : ∀ x ∈ ws.map D.int, PD n x := fun x hx => by
  obtain ⟨w, _, rfl⟩ := List.mem_map.mp hx
  cases n <;> trivial
theorem PD_at {M : MS} {q : Addr} (ws : List Int) (hq : M q = some (.lst (ws.map .int))) : PD 64 (vw M (.ref q)) := by
  rw [vw_at hq]
  exact PD_intsL ws
theorem eqNil {M : MS} {q : Addr} {xs : List D} (hq : M q = some (.lst xs)) : (if false = true then !dEqB (vw M (.ref q)) (vw M (.lst [])) else dEqB (vw M (.ref q)) (vw M (.lst []))) = xs.isEmpty := by
  rw [vw_at hq]
  exact dEqB_lnil xs
abbrev s_law : Stmt := top 37
theorem sc_law : FnScope ["_law_script", "_law_pen_here", "_law_rays_here", "_law_wrong", "_law_k", "_law_given", "e", "_law_at", "_law_due", "_law_low", "_law_high", "_law_way", "_law_corners_here", "_law_corner"] ["_law_script"] (defScope s_law) := ⟨rfl, rfl, rfl, by decide +kernel, rfl, by decide +kernel, by decide +kernel⟩
theorem ok_law {f : Addr} {fd : FuncData} (F : FnP K "law" "law" s_law f fd) (T : Fx K mg C_BadRay C_Curve C_ScaleError) (M_BadRay : Exk P w K mg base "BadRay" C_BadRay ["index"]) (M_Curve___init__ : Mkr P w K mg base (L2N.CX P w) 5 "Curve" C_Curve ["self", "rays"] [] (upSp K (sp_Curve___init__ C_BadRay C_Curve))) (M_Curve___init__1 : Mkr P w K mg base (L2N.CX P w) 5 "Curve" C_Curve ["self", "rays"] [.ref a_dflCurve] (upSp K (sp_Curve___init__ C_BadRay C_Curve))) (M_Curve_kinds : Mtd P w K mg base (L2N.CX P w) 1 C_Curve "kinds" ["self"] [] (upSp K (sp_Curve_kinds C_Curve))) (M__law_pen : Cal P w K mg base (L2N.CX P w) 1 "_law_pen" ["_law_script"] [] (upSp K Pn.spPenD)) (M__law_draw : Cal P w K mg base (L2N.CX P w) 1 "_law_draw" ["_law_pen_here", "_law_many"] [] (upSp K Pn.spDrawD)) (M__law_rays : Cal P w K mg base (L2N.CX P w) 4 "_law_rays" ["_law_pen_here", "_law_most"] [] (upSp K sp__law_rays)) (M__law_spoiled : Cal P w K mg base (L2N.CX P w) 3 "_law_spoiled" ["_law_pen_here", "_law_ray"] [] (upSp K sp__law_spoiled)) (M__law_made : Cal P w K mg base (L2N.CX P w) 9 "_law_made" ["_law_rays_here", "_law_due"] [] (upSp K (sp__law_made C_Curve))) (D_Curve___init__1 : Dfl K [.ref a_dflCurve] [.tup []]) :
    FnOk P w K mg base (L2N.CX P w) 10 f fd ["_law_script"] (upSp K spLawD) := by
  refine okDN (k := 9) F sc_law (fun ds M R W h => ?_) (fun cdv A outer s H E hr hx tk => ⟨_, (dss_cons (ds_set 1 sc_law.nd (de_fn M__law_pen Dfl.nil (hr.mono (by decide)) hx (da_cons (de_v 0) da_nil)))
      (dss_cons (ds_set 2 sc_law.nd (de_fn M__law_rays Dfl.nil (hr.mono (by decide)) hx (da_cons (de_v 1) (da_cons de_int da_nil))))
      (dss_cons (ds_set 3 sc_law.nd (de_lstM da_nil))
      (dss_cons (ds_for (passes_of rfl) rfl (di_rng1 T.b_range (da_cons (de_fn M__law_draw Dfl.nil (hr.mono (by decide)) hx (da_cons (de_v 1) (da_cons de_int da_nil))) da_nil)) (dg_name 4 sc_law.nd) (dss_one (ds_if (dt_cmp (op_neW hr.units) ro_neW (de_v 2) (de_lst da_nil) (nomark _)) (dss_cons (ds_set 7 sc_law.nd (de_fn M__law_draw Dfl.nil (hr.mono (by decide)) hx (da_cons (de_v 1) (da_cons (de_bi call_len rc_len T.b_len PySem.boot_len (da_cons (de_v 2) da_nil)) da_nil))))
      (dss_one (ds_expr (de_bm PySem.F.slot_list_append PySem.F.type_list_append mt_append rm_append (de_v 3) (da_cons (de_v 7) da_nil))))) dss_nil)))
      (dss_cut (ds_if (dt_cmp (op_eqA hr.units) ro_eqA (de_fn M__law_draw Dfl.nil (hr.mono (by decide)) hx (da_cons (de_v 1) (da_cons de_int da_nil))) de_int (nomark _)) (dss_one (ds_set 2 sc_law.nd (de_lc (own := [("_law_low", 9), ("_law_high", 10), ("_law_way", 11), ("_law_corners_here", 12)]) (by rfl) sc_law.nd (di_sq (de_v 2)) (blkOk_by (own := [("_law_low", 9), ("_law_high", 10), ("_law_way", 11), ("_law_corners_here", 12)]) (N := ["_law_script", "_law_pen_here", "_law_rays_here", "_law_wrong", "_law_k", "_law_given", "e", "_law_at", "_law_due", "_law_low", "_law_high", "_law_way", "_law_corners_here", "_law_corner"]) (sc := defScope s_law) (by decide +kernel)) (fun _ _ _ _ _ => (dgw_tup (K := K) (n := 4) rfl (by rfl) (dgsw_cons (dgw_name 9 sc_law.nd) (dgsw_cons (dgw_name 10 sc_law.nd) (dgsw_cons (dgw_name 11 sc_law.nd) (dgsw_cons (dgw_name 12 sc_law.nd) dgsw_nil)))))) (fun _ _ _ _ _ => dts_nil) (fun _ _ _ _ _ => (de_tup (da_cons (de_v 9) (da_cons (de_v 10) (da_cons (de_v 11) (da_cons (de_lcCM (own := [("_law_corner", 13)]) (by rfl) sc_law.nd (dic_sq (de_v 12)) (blkOk_by (own := [("_law_corner", 13)]) (N := ["_law_script", "_law_pen_here", "_law_rays_here", "_law_wrong", "_law_k", "_law_given", "e", "_law_at", "_law_due", "_law_low", "_law_high", "_law_way", "_law_corners_here", "_law_corner"]) (by kernel_rfl)) (fun _ _ _ _ _ => (dgw_name 13 sc_law.nd)) (fun _ _ _ _ _ => dts_nil) (fun _ _ _ _ _ => (de_bt call_list_of rc_list T.b_list (by decide +kernel) (da_cons (de_v 13) da_nil)))) da_nil))))))))) dss_nil)
      (dss_cons (ds_setLcM 5 (own := [("_law_k", 4)]) (by rfl) sc_law.nd rfl rfl (sw_true rfl rfl rfl (by decide +kernel)) (di_rng1 T.b_range (da_cons (de_bi call_len rc_len T.b_len PySem.boot_len (da_cons (de_v 2) da_nil)) da_nil)) (blkOk_by (own := [("_law_k", 4)]) (N := ["_law_script", "_law_pen_here", "_law_rays_here", "_law_wrong", "_law_k", "_law_given", "e", "_law_at", "_law_due", "_law_low", "_law_high", "_law_way", "_law_corners_here", "_law_corner"]) (sc := defScope s_law) (by decide +kernel)) (fun _ _ _ _ _ => (dgw_name 4 sc_law.nd)) (fun _ _ _ _ _ => dts_nil) (fun _ _ _ _ _ => (de_ifExp (dt_cmp (op_inA hr.units) (ro_in false) (de_v 4) (de_v 3) rfl) (de_fn M__law_spoiled Dfl.nil (hr.mono (by decide)) passLSN (da_cons (de_v 1) (da_cons (de_ix (de_v 2) (de_v 4) (fun _ _ => rfl)) da_nil))) (de_ix (de_v 2) (de_v 4) (fun _ _ => rfl)))))
      (dss_cut (ds_if (DW.t (dw_and (dt_cmp (op_eqA hr.units) ro_eqA (de_v 3) (de_lst da_nil) (nomark _)) (dw_and (dt_cmp op_gt ro_b0 (de_bi call_len rc_len T.b_len PySem.boot_len (da_cons (de_v 2) da_nil)) de_int (nomark _)) (dw_and1 (dt_cmp (op_eqA hr.units) ro_eqA (de_fn M__law_draw Dfl.nil (hr.mono (by decide)) hx (da_cons (de_v 1) (da_cons de_int da_nil))) de_int (nomark _)))))) (dss_cons (ds_set 7 sc_law.nd (de_fn M__law_draw Dfl.nil (hr.mono (by decide)) hx (da_cons (de_v 1) (da_cons (de_op op_sub ro_i0 (de_bi call_len rc_len T.b_len PySem.boot_len (da_cons (de_v 2) da_nil)) de_int) da_nil))))
      (dss_cons (ds_set 5 sc_law.nd (de_op op_addD ro_add (de_op op_addD ro_add (de_sl (de_v 2) do_none (do_some (de_v 7))) (de_lst (da_cons (de_ix (de_v 2) (de_op op_addD ro_add (de_v 7) de_int) (fun _ _ => rfl)) (da_cons (de_ix (de_v 2) (de_v 7) (fun _ _ => rfl)) da_nil)))) (de_sl (de_v 2) (do_some (de_op op_addD ro_add (de_v 7) de_int)) do_none)))
      (dss_one (ds_set 3 sc_law.nd (de_lstM (da_cons (de_op op_addD ro_add (de_v 7) de_int) da_nil)))))) dss_nil)
      (dss_cons (ds_if (dt_cmp (op_eqA hr.units) ro_eqA (de_v 3) (de_lst da_nil) (nomark _)) (dss_cons (ds_set 8 sc_law.nd (de_lstM da_nil))
      (dss_cons (ds_for (passes_of rfl) rfl (di_sq (de_v 2)) (dg_tup (K := K) (n := 4) rfl (by rfl) (dgs_cons (dg_name 9 sc_law.nd) (dgs_cons (dg_name 10 sc_law.nd) (dgs_cons (dg_name 11 sc_law.nd) (dgs_cons (dg_name 12 sc_law.nd) dgs_nil))))) (dss_one (ds_expr (de_bm PySem.F.slot_list_append PySem.F.type_list_append mt_append rm_append (de_v 8) (da_cons (de_tup (da_cons (de_v 9) (da_cons (de_v 10) (da_cons (de_v 11) (da_cons (de_bt call_tuple_of rc_tuple T.b_tuple (by decide +kernel) (da_cons (de_lcC (own := [("_law_corner", 13)]) (by rfl) sc_law.nd (dic_sq (de_v 12)) (blkOk_by (own := [("_law_corner", 13)]) (N := ["_law_script", "_law_pen_here", "_law_rays_here", "_law_wrong", "_law_k", "_law_given", "e", "_law_at", "_law_due", "_law_low", "_law_high", "_law_way", "_law_corners_here", "_law_corner"]) (sc := defScope s_law) (by decide +kernel)) (fun _ _ _ _ _ => (dgw_name 13 sc_law.nd)) (fun _ _ _ _ _ => dts_nil) (fun _ _ _ _ _ => (de_bt call_tuple_of rc_tuple T.b_tuple (by decide +kernel) (da_cons (de_v 13) da_nil)))) da_nil)) da_nil))))) da_nil)))))
      (dss_one (ds_ret (de_and (de_fn M__law_made Dfl.nil (hr.mono (by decide)) hx (da_cons (de_v 5) (da_cons (de_bt call_tuple_of rc_tuple T.b_tuple (by decide +kernel) (da_cons (de_v 8) da_nil)) da_nil))) (de_and (de_cmp (op_eqA hr.units) ro_eqA (de_fld (K := K) rfl "rays" 0 (de_mk0 M_Curve___init__1 D_Curve___init__1 (hr.mono (by decide)) hx)) (de_tup da_nil) (nomark _)) (de_one (de_cmp (op_eqA hr.units) ro_eqA (de_mt0 T.c_Curve M_Curve_kinds Dfl.nil (hr.mono (by decide)) hx (de_mk0 M_Curve___init__1 D_Curve___init__1 (hr.mono (by decide)) hx)) (de_tup (da_cons de_str da_nil)) (nomark _))))))))) dss_nil)
      (dss_one (dsN_try (K := K) rfl 6 rfl rfl sc_law.nd rfl rfl ⟨rfl, by decide, Or.inl M_BadRay.g⟩ tk (fun W pn xe tk' po' => (dss_cons (ds_expr (de_mk M_Curve___init__ Dfl.nil (hr.mono (by decide)) (fun σ => L2N.passAt tk' σ) (da_cons (de_v 5) da_nil)))
      (dss_one (ds_ret de_bl)))) (fun a oe cls d pn hz hf => (dss_one (ds_ret (de_and (de_cmp (op_eqA hr.units) ro_eqA (de_xf "index" 0 M_BadRay.T.xf T.n_BadRay_index hz.zc hf (de_v 6)) (de_bi (call_minIH hz hf) (rc_minI (K := K)) T.b_min (by decide +kernel) (da_cons (de_v 3) da_nil)) (nomark _)) (de_one (de_bi (call_isX M_BadRay.T.is hz.zc hf) (rc_isX (K := K)) T.b_isinstance (by decide +kernel) (da_cons (de_v 6) (da_cons (de_cls T.g_ScaleError) da_nil)))))))))))))))))), fun ds M R W h => ?_⟩)
  · match ds, h with | [_], _ => rfl
  · match ds, h with
    | [x], h =>
      obtain ⟨ns, e, hl, k⟩ := h
      cases e
      walk_at "s"
      refine ⟨ns, rfl, hl, fun p m hp hb => ?_⟩
      have hb2 : Pn.PenM m 1000 := hb.mono (by decide)
      walk_at "s"
      refine ⟨p, m, 4, 800, rfl, rfl, by decide, updM_same, hb2, fun rcs m1 M2 lrs ok ch cs hp2 b1 => ?_⟩
      walk_at "s"
      refine fun q hq => ?_
      have pq : p ≠ q := by rintro rfl; rw [hp2] at hq; cases hq
      have xp : ∀ x ∈ rcs, x.2 ≠ p := fun x hx => by
        intro z
        have h1 := cs x hx
        rw [z, hp2] at h1
        cases h1
        obtain ⟨_, _, _, h2, _⟩ := b1
        cases h2
      have xq : ∀ x ∈ rcs, x.2 ≠ q := fun x hx => by
        intro z
        have h1 := cs x hx
        rw [z, hq] at h1
        cases h1
      have cs1 : CS (updM M2 q (.lst [])) rcs := cs.upd xq
      have hp3 : updM M2 q (.lst []) p = some m1 := by rw [updM_ne pq]; exact hp2
      have hq3 : updM M2 q (.lst []) q = some (.lst (([] : List Int).map .int)) := updM_same
      generalize updM M2 q (.lst []) = M3 at cs1 hp3 hq3 ⊢
      walk_at "s"
      refine ⟨p, m1, 3, 799, rfl, by decide, log_ok (by decide), hp3, b1, fun z m3 z0 z1 b3 => ?_⟩
      walk_at "s"
      refine ⟨by omega, by omega, ?_⟩
      obtain ⟨nz, rfl⟩ : ∃ n : Nat, z = (n : Int) := ⟨z.toNat, by omega⟩
      have e0 : ((nz : Int)).toNat = nz := by omega
      rw [e0, rangeD_up]
      walk_at "s"
      refine dLoop_ind (fun r τ M' => ∃ (j n2 : Nat) (ws : List Int) (m4 : MO) (v4 v7 : Option D), r = upD j n2 ∧ j + n2 = nz ∧ ws.length ≤ j ∧ (∀ w ∈ ws, 0 ≤ w ∧ w < (rcs.length : Int)) ∧ τ = [some (.scr ns), some (.ref p), some (.lst (rcs.map rayR)), some (.ref q), v4, none, none, v7, none, none, none, none, none, none] ∧ M' p = some m4 ∧ Pn.PenM m4 (700 + n2) ∧ M' q = some (.lst (ws.map .int)) ∧ CS M' rcs) ⟨0, nz, [], m3, _, _, rfl, by omega, Nat.le_refl _, (fun _ h => nomatch h), rfl, updM_same, b3.mono (by omega), by rw [updM_ne (Ne.symm pq)]; exact hq3, cs1.upd xp⟩ ?_ ?_
      · rintro _ r _ M4 ⟨j, n2, ws, m4, v4, v7, e1, e2, lw, hw, rfl, hp4, b4, hq4, cs4⟩ ih
        cases n2 with
        | zero => cases e1
        | succ n2 =>
        cases e1
        cases rcs with
        | nil =>
          walk_at "s"
          refine .inl ?_
          walk_at "s"
          refine ⟨(fun _ h => nomatch h), (fun _ h => nomatch h), ?_⟩
          refine dIte_fe rfl ?_
          walk_at "s"
          exact ih _ _ ⟨j + 1, n2, ws, m4, _, _, rfl, by omega, by omega, hw, rfl, hp4, b4.mono (by omega), hq4, cs4⟩
        | cons r0 rs =>
          have em : (r0 :: rs).map rayR = rayR r0 :: rs.map rayR := rfl
          rw [em]
          walk_at "s"
          refine .inr (.inr (.inl ?_))
          walk_at "s"
          refine ⟨by simp, ?_⟩
          walk_at "s"
          refine ⟨p, m4, ((rayR r0 :: rs.map rayR).length : Int), 700 + n2, rfl, by simp, log_ok (by simp at lrs ⊢; omega), hp4, b4.mono (by omega), fun z m5 z0 z1 b5 => ?_⟩
          have cs5 : CS (updM M4 p m5) (r0 :: rs) := cs4.upd xp
          have hp5 : updM M4 p m5 p = some m5 := updM_same
          have hq5 : updM M4 p m5 q = some (.lst (ws.map .int)) := by rw [updM_ne (Ne.symm pq)]; exact hq4
          generalize updM M4 p m5 = M5 at cs5 hp5 hq5 ⊢
          walk_at "s"
          refine ⟨(by unfold isLst vw; simp only [hq5]; trivial), ?_⟩
          walk_at "s"
          rw [hq5]
          walk_at "s"
          refine ⟨lt_line (by rw [List.length_map]; omega), ?_⟩
          walk_at "s"
          refine ih _ _ ⟨j + 1, n2, ws ++ [z], m5, _, _, rfl, by omega, by simp; omega, fun w hw2 => ?_, rfl, by rw [updM_ne pq]; exact hp5, b5, by rw [updM_same, List.map_append]; rfl, cs5.upd xq⟩
          rcases List.mem_append.mp hw2 with hw2 | hw2
          · exact hw w hw2
          · rw [List.mem_singleton.mp hw2]
            exact ⟨z0, by simpa using z1⟩
      · rintro _ M4 ⟨j, n2, ws, m4, v4, v7, e1, e2, lw, hw, rfl, hp4, b4, hq4, cs4⟩
        cases n2 with
        | succ n2 => cases e1
        | zero =>
        walk_at "s"
        have b4 : Pn.PenM m4 700 := b4.mono (by omega)
        refine ⟨fun τ' M' => ∃ (b : Bool) (rcs' : List (Ray × Addr)) (m5 : MO) (v4 v7 : Option D), rcs'.map (·.1) = rcs.map (·.1) ∧ τ' = [some (.scr ns), some (.ref p), some (.lst (rcs'.map rayR)), some (.ref q), v4, none, none, v7, none, none, none, none, none, none] ∧ M' p = some m5 ∧ Pn.PenM m5 600 ∧ M' q = some (.lst (ws.map .int)) ∧ (∀ x ∈ rcs', M' x.2 = some (.lst (x.1.cs.map (cV b)))), ?_, ?_⟩
        · walk_at "s"
          refine ⟨p, m4, 2, 699, rfl, by decide, log_ok (by decide), hp4, b4, fun z m5 z0 z1 b5 => ?_⟩
          have cs5 : CS (updM M4 p m5) rcs := cs4.upd xp
          have hp5 : updM M4 p m5 p = some m5 := updM_same
          have hq5 : updM M4 p m5 q = some (.lst (ws.map .int)) := by rw [updM_ne (Ne.symm pq)]; exact hq4
          generalize updM M4 p m5 = M5 at cs5 hp5 hq5 ⊢
          walk_at "s"
          refine dIte_d (c := z = 0) (fun h => ?_) (fun h => ?_)
          · walk_at "s"
            refine dLcL_ind (fun r acc M' => ∃ (done rest rcs' : List (Ray × Addr)), r = rest.map rayR ∧ rcs = done ++ rest ∧ acc = rcs'.map rayR ∧ rcs'.map (·.1) = done.map (·.1) ∧ M' p = some m5 ∧ M' q = some (.lst (ws.map .int)) ∧ CS M' rest ∧ ∀ x ∈ rcs', M' x.2 = some (.lst (x.1.cs.map (cV true)))) ⟨[], rcs, [], rfl, rfl, rfl, rfl, hp5, hq5, cs5, (fun _ h => nomatch h)⟩ ?_ ?_
            · rintro d r _ M6 ⟨done, rest, rcs', e1, e2, rfl, e3, hp6, hq6, csr, cs6⟩ ih
              cases rest with
              | nil => cases e1
              | cons x rest =>
              cases e1
              have hx := csr x (by simp)
              have okx := (ok x.1 (by rw [e2]; simp)).2
              walk_at "s"
              rw [seqOf_ref hx]
              walk_at "s"
              refine dLcLC_ind (fun r acc M' => ∃ (c1 c2 : List (Rat × Rat)), r = c2.map cD ∧ x.1.cs = c1 ++ c2 ∧ acc = c1.map (cV true) ∧ M6 = M') ⟨[], x.1.cs, rfl, rfl, rfl, rfl⟩ ?_ ?_
              · rintro d2 r2 _ _ ⟨c1, c2, f1, f2, rfl, rfl⟩ ih2
                cases c2 with
                | nil => cases f1
                | cons y c2 =>
                cases f1
                walk_at "s"
                refine ⟨lt_line (by have h1 := okx.few; rw [f2] at h1; simp at h1 ⊢; omega), hx, ?_⟩
                exact ih2 _ _ ⟨c1 ++ [y], c2, rfl, by rw [f2]; simp, by rw [List.map_append]; rfl, rfl⟩
              · rintro _ _ ⟨c1, c2, f1, f2, rfl, rfl⟩
                cases c2 with
                | cons y c2 => cases f1
                | nil =>
                rw [List.append_nil] at f2
                walk_at "s"
                refine fun c0 hc0 => ?_
                have kk : ∀ a, _ → a ≠ c0 := fun a (h : M6 a ≠ none) => by rintro rfl; exact h hc0
                walk_at "s"
                refine ⟨lt_line (by have h1 := congrArg List.length e3; have h2 := congrArg List.length e2; simp at h1 h2 ⊢; omega), ?_⟩
                refine ih _ _ ⟨done ++ [x], rest, rcs' ++ [(x.1, c0)], rfl, by rw [e2]; simp, by rw [List.map_append]; rfl, by rw [List.map_append, List.map_append, e3]; rfl, by rw [updM_ne (kk p (by rw [hp6]; nofun))]; exact hp6, by rw [updM_ne (kk q (by rw [hq6]; nofun))]; exact hq6, fun y hy => ?_, fun y hy => ?_⟩
                · have h1 := csr y (List.mem_cons_of_mem _ hy)
                  rw [updM_ne (kk _ (by rw [h1]; nofun))]
                  exact h1
                · rcases List.mem_append.mp hy with hy | hy
                  · have h1 := cs6 y hy
                    rw [updM_ne (kk _ (by rw [h1]; nofun))]
                    exact h1
                  · rw [List.mem_singleton.mp hy]
                    show updM M6 c0 _ c0 = some (.lst (x.1.cs.map (cV true)))
                    rw [updM_same, f2]
            · rintro _ M6 ⟨done, rest, rcs', e1, e2, rfl, e3, hp6, hq6, csr, cs6⟩
              cases rest with
              | cons x rest => cases e1
              | nil =>
              rw [List.append_nil] at e2
              walk_at "s"
              exact ⟨true, rcs', m5, _, _, by rw [e3, e2], rfl, hp6, b5.mono (by omega), hq6, cs6⟩
          · walk_at "s"
            exact ⟨false, rcs, m5, _, _, rfl, rfl, hp5, b5.mono (by omega), hq5, cs5⟩
        · rintro _ M6 ⟨b, rcs', m6, v4, v7, er, rfl, hp6, b6, hq6, cs6⟩
          have ok' : ∀ r ∈ rcs'.map (·.1), RayK r ∧ RayS r := by rw [er]; exact ok
          have ch' : ChainR (rcs'.map (·.1)) := by rw [er]; exact ch
          have ll : rcs'.length = rcs.length := by have := congrArg List.length er; simpa using this
          have lrs' : rcs'.length ≤ 4 := by omega
          have hw' : ∀ w ∈ ws, 0 ≤ w ∧ w < ((rcs'.map (·.1)).length : Int) := by rw [List.length_map, ll]; exact hw
          clear er ll hw lrs cs4 hq4 hp4 b4 cs1 hp3 hq3 b3 hp2 b1 xp xq cs ok ch
          walk_at "s"
          rw [List.length_map]
          refine ⟨by omega, by omega, ?_⟩
          have e0 : ((rcs'.length : Nat) : Int).toNat = rcs'.length := by omega
          rw [e0, rangeD_up]
          walk_at "s"
          refine dLcL_ind (fun r acc M' => ∃ (j n2 : Nat) (m7 : MO), r = upD j n2 ∧ j + n2 = rcs'.length ∧ acc.length = j ∧ M' p = some m7 ∧ Pn.PenM m7 (500 + 20 * n2) ∧ M' q = some (.lst (ws.map .int)) ∧ (∀ x ∈ rcs', M' x.2 = some (.lst (x.1.cs.map (cV b)))) ∧ ValsOk M' acc (osF ws (rcs'.map (·.1)) j) ∧ (ws = [] → acc = (rcs'.map rayR).take j)) ⟨0, rcs'.length, m6, rfl, by omega, rfl, hp6, b6.mono (by omega), hq6, cs6, .nil, fun _ => rfl⟩ ?_ ?_
          · rintro d r acc M7 ⟨j, n2, m7, e1, e2, la, hp7, b7, hq7, cs7, vo, hn⟩ ih
            cases n2 with
            | zero => cases e1
            | succ n2 =>
            cases e1
            have hj : j < rcs'.length := by omega
            have hx : rcs'[j]? = some rcs'[j] := List.getElem?_eq_getElem hj
            have hr : (rcs'.map (·.1))[j]? = some rcs'[j].1 := by rw [List.getElem?_map, hx]; rfl
            have okx := ok' rcs'[j].1 (List.mem_map.mpr ⟨_, List.getElem_mem hj, rfl⟩)
            have csx := cs7 rcs'[j] (List.getElem_mem hj)
            have os1 := osF_succ ws (rcs'.map (·.1)) j
            walk_at "s"
            rw [vw_at hq7]
            walk_at "s"
            refine ⟨fun d hd => (by obtain ⟨w, _, rfl⟩ := List.mem_map.mp hd; trivial), ?_⟩
            have ib : inB (.int (j : Int)) (ws.map .int) = decide ((j : Int) ∈ ws) := inB_d (j : Int) ws
            rw [ib]
            refine dIte_d (c := (j : Int) ∈ ws) (fun h => ?_) (fun h => ?_)
            · walk_at "s"
              rw [atD_some (f := rayR) hx rfl]
              walk_at "s"
              refine ⟨p, m7, rcs'[j].1, rcs'[j].2, b, 500 + 20 * n2, rfl, rfl, okx.1, okx.2, csx, hp7, b7.mono (by omega), fun d M8 m8 vd k8 hp8 b8 => ?_⟩
              have pl : ∀ xs, M7 p ≠ some (.lst xs) := fun xs h => by
                rw [hp7] at h
                cases h
                obtain ⟨_, _, _, z, _⟩ := b7
                cases z
              have keep : ∀ a xs, M7 a = some (.lst xs) → M8 a = some (.lst xs) := fun a xs h => by
                rw [k8 a (by rintro rfl; exact pl _ h) (by rw [h]; nofun)]
                exact h
              walk_at "s"
              refine ⟨lt_line (by omega), ?_⟩
              refine ih _ _ ⟨j + 1, n2, m8, rfl, by omega, by simp [la], hp8, b8, keep _ _ hq7, fun x hx => keep _ _ (cs7 x hx), ?_, fun hz => absurd h (by rw [hz]; simp)⟩
              rw [os1, if_pos h]
              exact (vo.keep keep).snoc vd
            · walk_at "s"
              rw [atD_some (f := rayR) hx rfl]
              walk_at "s"
              refine ⟨lt_line (by omega), ?_⟩
              refine ih _ _ ⟨j + 1, n2, m7, rfl, by omega, by simp [la], hp7, b7.mono (by omega), hq7, cs7, ?_, fun hz => ?_⟩
              · rw [os1, if_neg h, hr]
                exact vo.snoc (rayR_okV okx.1 csx)
              · rw [hn hz, List.take_succ_eq_append_getElem (by rw [List.length_map]; exact hj), List.getElem_map]
          · rintro acc M7 ⟨j, n2, m7, e1, e2, la, hp7, b7, hq7, cs7, vo, hn⟩
            cases n2 with
            | succ n2 => cases e1
            | zero =>
            have ej : j = rcs'.length := by omega
            subst ej
            walk_at "s"
            refine fun g hg => ?_
            have kg : ∀ a, M7 a ≠ none → a ≠ g := fun a h => by rintro rfl; exact h hg
            have keep7 : ∀ a xs, M7 a = some (.lst xs) → updM M7 g (.lst acc) a = some (.lst xs) := fun a xs h => by rw [updM_ne (kg a (by rw [h]; nofun))]; exact h
            have hp8 : updM M7 g (.lst acc) p = some m7 := by rw [updM_ne (kg p (by rw [hp7]; nofun))]; exact hp7
            have hq8 := keep7 q _ hq7
            have hg8 : updM M7 g (.lst acc) g = some (.lst acc) := updM_same
            have cs8 : ∀ x ∈ rcs', updM M7 g (.lst acc) x.2 = some (.lst (x.1.cs.map (cV b))) := fun x hx => keep7 _ _ (cs7 x hx)
            have vo8 := vo.keep keep7
            generalize updM M7 g (.lst acc) = M8 at hp8 hq8 hg8 cs8 vo8 ⊢
            clear keep7 kg hg vo cs7 hq7 hp7
            have b7 : Pn.PenM m7 500 := b7.mono (by omega)
            have okk : ∀ r ∈ rcs'.map (·.1), RayK r := fun r hr => (ok' r hr).1
            walk_at "s"
            refine ⟨fun τ' M' => ∃ (ws' : List Int) (q' : Addr) (gd : D) (v4 v7 : Option D), τ' = [some (.scr ns), some (.ref p), some (.lst (rcs'.map rayR)), some (.ref q'), v4, some gd, none, v7, none, none, none, none, none, none] ∧ M' q' = some (.lst (ws'.map .int)) ∧ (∀ x ∈ rcs', M' x.2 = some (.lst (x.1.cs.map (cV b)))) ∧
              ((ws' = [] ∧ ∃ g, gd = .ref g ∧ M' g = some (.lst (rcs'.map rayR))) ∨ (ws' ≠ [] ∧ ∃ vs os, LV M' gd vs ∧ ValsOk M' vs os ∧ (∀ r, some r ∈ os → RayK r) ∧ vs.length ≤ 100 ∧ ∃ mn : Nat, crvF [] 0 os = .error mn ∧ (mn : Int) ∈ ws' ∧ ∀ w ∈ ws', (mn : Int) ≤ w)), ?_, ?_⟩
            · walk_at "s"
              rw [vw_at hq8]
              walk_at "s"
              refine ⟨PD_at ws hq8, (fun _ h => nomatch h), ?_⟩
              cases ws with
              | cons w0 ws =>
                refine dIte_fe ((eqNil hq8).trans rfl) ?_
                walk_at "s"
                obtain ⟨mn, h1, h2⟩ := min_of (w0 :: ws) (by simp) fun w h => (hw' w h).1
                refine ⟨w0 :: ws, q, .ref g, _, _, rfl, hq8, cs8, .inr ⟨by simp, acc, _, .inr (.inr ⟨g, rfl, hg8⟩), vo8, fun r hr => ?_, by omega, mn, ?_, h1, h2⟩⟩
                · unfold osF at hr
                  obtain ⟨k, _, e⟩ := List.mem_map.mp hr
                  split at e
                  · cases e
                  · exact okk r (List.mem_of_getElem? e)
                · have := crvF_spoiled (rs := rcs'.map (·.1)) ch' hw' h1 h2
                  rw [List.length_map] at this
                  exact this
              | nil =>
                have ea : acc = rcs'.map rayR := by rw [hn rfl, ← List.length_map (f := rayR), List.take_length]
                subst ea
                have eo : osF [] (rcs'.map (·.1)) rcs'.length = (rcs'.map (·.1)).map some := by rw [osF_nil _ _ (by simp), ← List.length_map (f := (·.1)), List.take_length]
                rw [eo] at vo8
                have fin : ∀ (M9 : MS) (v4 v7 : Option D), M9 q = some (.lst (([] : List Int).map .int)) → (∀ x ∈ rcs', M9 x.2 = some (.lst (x.1.cs.map (cV b)))) → M9 g = some (.lst (rcs'.map rayR)) → _ := fun M9 v4 v7 h1 h2 h3 => (⟨[], q, .ref g, v4, v7, rfl, h1, h2, .inl ⟨rfl, g, rfl, h3⟩⟩ : ∃ (ws' : List Int) (q' : Addr) (gd : D) (v4' v7' : Option D), [some (.scr ns), some (.ref p), some (.lst (rcs'.map rayR)), some (.ref q), v4, some (D.ref g), none, v7, none, none, none, none, none, none] = [some (.scr ns), some (.ref p), some (.lst (rcs'.map rayR)), some (.ref q'), v4', some gd, none, v7', none, none, none, none, none, none] ∧ M9 q' = some (.lst (ws'.map .int)) ∧ (∀ x ∈ rcs', M9 x.2 = some (.lst (x.1.cs.map (cV b)))) ∧
              ((ws' = [] ∧ ∃ g, gd = .ref g ∧ M9 g = some (.lst (rcs'.map rayR))) ∨ (ws' ≠ [] ∧ ∃ vs os, LV M9 gd vs ∧ ValsOk M9 vs os ∧ (∀ r, some r ∈ os → RayK r) ∧ vs.length ≤ 100 ∧ ∃ mn : Nat, crvF [] 0 os = .error mn ∧ (mn : Int) ∈ ws' ∧ ∀ w ∈ ws', (mn : Int) ≤ w)))
                refine dIte_te ((eqNil hq8).trans rfl) ?_
                walk_at "s"
                rw [List.length_map]
                refine dIte_d (c := (1 : Int) < (rcs'.length : Int)) (fun h1 => ?_) (fun h1 => ?_)
                · walk_at "s"
                  refine ⟨p, m7, 3, 499, rfl, by decide, log_ok (by decide), hp8, b7, fun z m9 z0 z1 b9 => ?_⟩
                  have pl : ∀ xs, M8 p ≠ some (.lst xs) := fun xs h => by
                    rw [hp8] at h
                    cases h
                    obtain ⟨_, _, _, z, _⟩ := b7
                    cases z
                  have keep9 : ∀ m9 a xs, M8 a = some (.lst xs) → updM M8 p m9 a = some (.lst xs) := fun m9 a xs h => by
                    rw [updM_ne (by rintro rfl; exact pl _ h)]
                    exact h
                  walk_at "s"
                  refine dIte_d (c := z = 0) (fun h2 => ?_) (fun h2 => ?_)
                  · walk_at "s"
                    rw [List.length_map]
                    refine ⟨p, m9, (rcs'.length : Int) - 1, 498, rfl, by omega, log_ok (by omega), updM_same, b9, fun z2 m10 z20 z21 b10 => ?_⟩
                    rw [updM_updM]
                    obtain ⟨a, rfl⟩ : ∃ a : Nat, z2 = (a : Int) := ⟨z2.toNat, by omega⟩
                    have ha : a + 1 < rcs'.length := by omega
                    have hx1 : rcs'[a + 1]? = some rcs'[a + 1] := List.getElem?_eq_getElem ha
                    have hx0 : rcs'[a]? = some rcs'[a] := List.getElem?_eq_getElem (by omega)
                    walk_at "s"
                    rw [atD_some (f := rayR) (z := (a : Int) + 1) hx1 (by omega)]
                    walk_at "s"
                    rw [atD_some (f := rayR) hx0 rfl]
                    walk_at "s"
                    rw [cut_to (i := a) rfl]
                    refine ⟨le_line2 (by simp; omega), ?_⟩
                    walk_at "s"
                    rw [cut_from (z := (a : Int) + 2) (i := a + 2) (by omega)]
                    refine ⟨le_line2 (by simp; omega), ?_⟩
                    walk_at "s"
                    refine fun q2 hq2 => ?_
                    have evs : (List.take a (rcs'.map rayR) ++ [rayR rcs'[a + 1], rayR rcs'[a]]) ++ List.drop (a + 2) (rcs'.map rayR) = (rcs'.take a ++ rcs'[a + 1] :: rcs'[a] :: rcs'.drop (a + 2)).map rayR := by
                      rw [← List.map_take, ← List.map_drop]
                      simp
                    rw [evs]
                    walk_at "s"
                    have hlen : (rcs'.map (·.1)).length = rcs'.length := List.length_map _
                    have eos : ((rcs'.take a ++ rcs'[a + 1] :: rcs'[a] :: rcs'.drop (a + 2)).map (·.1)) = (rcs'.map (·.1)).take a ++ (rcs'.map (·.1))[a + 1]'(by omega) :: (rcs'.map (·.1))[a]'(by omega) :: (rcs'.map (·.1)).drop (a + 2) := by
                      rw [List.map_append, List.map_take, List.map_cons, List.map_cons, List.map_drop, List.getElem_map, List.getElem_map]
                    have mem : ∀ x ∈ (rcs'.take a ++ rcs'[a + 1] :: rcs'[a] :: rcs'.drop (a + 2)), x ∈ rcs' := fun x hx => by
                      rcases List.mem_append.mp hx with hx | hx
                      · exact List.mem_of_mem_take hx
                      · rcases List.mem_cons.mp hx with rfl | hx
                        · exact List.getElem_mem _
                        · rcases List.mem_cons.mp hx with rfl | hx
                          · exact List.getElem_mem _
                          · exact List.mem_of_mem_drop hx
                    have kq : ∀ a', updM M8 p m10 a' ≠ none → a' ≠ q2 := fun a' h => by rintro rfl; exact h hq2
                    have keep10 : ∀ xx a' xs, M8 a' = some (.lst xs) → updM (updM M8 p m10) q2 xx a' = some (.lst xs) := fun xx a' xs h => by
                      have h1 := keep9 m10 a' xs h
                      rw [updM_ne (kq a' (by rw [h1]; nofun))]
                      exact h1
                    refine ⟨[(a : Int) + 1], q2, _, _, _, rfl, updM_same, fun x hx => keep10 _ _ _ (cs8 x hx), .inr ⟨by simp, _, _, .inl rfl, raysV_ok (b := b) (fun r hr => ?_) (fun x hx => keep10 _ _ _ (cs8 x (mem x hx))), fun r hr => ?_, by simp; omega, a + 1, ?_, by simp, by simp⟩⟩
                    · obtain ⟨x, hx, rfl⟩ := List.mem_map.mp hr
                      exact okk _ (List.mem_map.mpr ⟨x, mem x hx, rfl⟩)
                    · obtain ⟨r2, hr2, e⟩ := List.mem_map.mp hr
                      cases e
                      obtain ⟨x, hx, rfl⟩ := List.mem_map.mp hr2
                      exact okk _ (List.mem_map.mpr ⟨x, mem x hx, rfl⟩)
                    · rw [eos]
                      exact crvF_swap ch' okk (by omega)
                  · walk_at "s"
                    exact fin _ _ _ (keep9 _ _ _ hq8) (fun x hx => keep9 _ _ _ (cs8 x hx)) (keep9 _ _ _ hg8)
                · walk_at "s"
                  exact fin _ _ _ hq8 cs8 hg8
            · rintro _ M9 ⟨ws', q', gd, v4', v7', rfl, hq9, cs9, hAB⟩
              walk_at "s"
              rw [vw_at hq9]
              walk_at "s"
              refine ⟨PD_at ws' hq9, (fun _ h => nomatch h), ?_⟩
              rcases hAB with ⟨rfl, g9, rfl, hg9⟩ | ⟨ne, vs, os, lv, vo, okr, few, mn, ec, m1, m2⟩
              · refine dIte_te ((eqNil hq9).trans rfl) ?_
                walk_at "s"
                refine fun du hdu => ?_
                have kd : ∀ a xs, M9 a = some (.lst xs) → updM M9 du (.lst []) a = some (.lst xs) := fun a xs h => by rw [updM_ne (by rintro rfl; rw [h] at hdu; cases hdu)]; exact h
                walk_at "s"
                refine dLoop_ind (fun r τ M' => ∃ (done rest : List (Ray × Addr)) (v9 v10 v11 v12 : Option D), r = rest.map rayR ∧ rcs' = done ++ rest ∧ τ = [some (.scr ns), some (.ref p), some (.lst (rcs'.map rayR)), some (.ref q'), v4', some (.ref g9), none, v7', some (.ref du), v9, v10, v11, v12, none] ∧ M' = updM M9 du (.lst (done.map fun x => rayD x.1))) ⟨[], rcs', _, _, _, _, rfl, rfl, rfl, rfl⟩ ?_ ?_
                · rintro d r _ _ ⟨done, rest, v9, v10, v11, v12, e1, e2, rfl, rfl⟩ ih
                  cases rest with
                  | nil => cases e1
                  | cons x rest =>
                  cases e1
                  have hxm : x ∈ rcs' := by rw [e2]; simp
                  have hx : updM M9 du (.lst (done.map fun x => rayD x.1)) x.2 = some (.lst (x.1.cs.map (cV b))) := by
                    have h := cs9 x hxm
                    rw [updM_ne (by intro z; rw [z, hdu] at h; cases h)]
                    exact h
                  have okx := (ok' x.1 (List.mem_map.mpr ⟨x, hxm, rfl⟩)).2
                  obtain ⟨Md, hMd⟩ : ∃ Md, Md = updM M9 du (.lst (done.map fun x => rayD x.1)) := ⟨_, rfl⟩
                  rw [← hMd] at hx ⊢
                  have hdu2 : Md du = some (.lst (done.map fun x => rayD x.1)) := by rw [hMd, updM_same]
                  walk_at "s"
                  refine ⟨(by unfold isLst vw; simp only [hdu2]; trivial), ?_⟩
                  walk_at "s"
                  rw [seqOf_ref hx]
                  walk_at "s"
                  refine dLcLC_ind (fun r acc M' => ∃ (c1 c2 : List (Rat × Rat)), r = c2.map (cV b) ∧ x.1.cs = c1 ++ c2 ∧ acc = c1.map cD ∧ Md = M') ⟨[], x.1.cs, rfl, rfl, rfl, rfl⟩ ?_ ?_
                  · rintro d2 r2 _ _ ⟨c1, c2, f1, f2, rfl, rfl⟩ ih2
                    cases c2 with
                    | nil => cases f1
                    | cons y c2 =>
                    cases f1
                    cases b
                    all_goals
                      walk_at "s"
                      refine ⟨lt_line (by have h1 := okx.few; rw [f2] at h1; simp at h1 ⊢; omega), hx, ?_⟩
                      exact ih2 _ _ ⟨c1 ++ [y], c2, rfl, by rw [f2]; simp, by rw [List.map_append]; rfl, rfl⟩
                  · rintro _ _ ⟨c1, c2, f1, f2, rfl, rfl⟩
                    cases c2 with
                    | cons y c2 => cases f1
                    | nil =>
                    rw [List.append_nil] at f2
                    walk_at "s"
                    rw [hdu2]
                    walk_at "s"
                    refine ⟨lt_line (by have h2 := congrArg List.length e2; simp at h2 ⊢; omega), ?_⟩
                    walk_at "s"
                    refine ih _ _ ⟨done ++ [x], rest, _, _, _, _, rfl, by rw [e2]; simp, rfl, ?_⟩
                    rw [hMd, updM_updM, List.map_append, ← f2]
                    rfl
                · rintro _ _ ⟨done, rest, v9, v10, v11, v12, e1, e2, rfl, rfl⟩
                  cases rest with
                  | cons x rest => cases e1
                  | nil =>
                  rw [List.append_nil] at e2
                  subst e2
                  have hge := kd _ _ hg9
                  have hge : updM M9 du (.lst (rcs'.map fun x => rayD x.1)) g9 = some (.lst (rcs'.map rayR)) := by rw [updM_ne (by rintro rfl; rw [hg9] at hdu; cases hdu)]; exact hg9
                  have cse : ∀ x ∈ rcs', updM M9 du (.lst (rcs'.map fun x => rayD x.1)) x.2 = some (.lst (x.1.cs.map (cV b))) := fun x hx => by
                    have h := cs9 x hx
                    rw [updM_ne (by intro z; rw [z, hdu] at h; cases h)]
                    exact h
                  have hde : updM M9 du (.lst (rcs'.map fun x => rayD x.1)) du = some (.lst (rcs'.map fun x => rayD x.1)) := updM_same
                  generalize updM M9 du (.lst (rcs'.map fun x => rayD x.1)) = Me at hge cse hde ⊢
                  walk_at "s"
                  rw [vw_at hde]
                  walk_at "s"
                  refine ⟨g9, rcs'.map rayR, rcs'.map (·.1), rfl, by rw [List.map_map]; rfl, hge, raysV_ok okk cse, okk, by simp; omega, crvF_ok ch', fun v hv => ?_, fun M2 => ?_⟩
                  · obtain ⟨x, hx, rfl⟩ := List.mem_map.mp hv
                    refine ⟨_, _, _, x.2, _, rfl, cse x hx, fun z => ?_⟩
                    have h1 := cse x hx
                    rw [z, hge] at h1
                    have nex := (okk x.1 (List.mem_map.mpr ⟨x, hx, rfl⟩)).ne
                    cases hcs : x.1.cs with
                    | nil => exact nex hcs
                    | cons c0 cr =>
                      rw [hcs] at h1
                      cases rcs' with
                      | nil => cases hx
                      | cons y ys =>
                        have h2 := congrArg (fun m : Option MO => match m with
                          | some (MO.lst (D.tup xs :: _)) => xs.length
                          | _ => 9) h1
                        cases b
                        · exact absurd (show (4 : Nat) = 2 from h2) (by decide)
                        · exact absurd (show (4 : Nat) = 9 from h2) (by decide)
                  walk_at "s"
                  refine fun p1 hp1 => ⟨p1, [], [], rfl, updM_same, .inr (.inl rfl), .nil, (fun _ h => nomatch h), by simp, ?_⟩
                  walk_at "s"
                  have at1 := T.at_Curve_rays
                  refine ⟨at1, rfl, ?_⟩
                  walk_at "s"
                  rw [updM_updM, delM_updM hp1]
                  refine ⟨(fun _ h => nomatch h), (fun _ h => nomatch h), ?_⟩
                  refine dIte_te (show dEqB (D.tup []) (D.tup []) = true from rfl) ?_
                  walk_at "s"
                  refine fun p2 hp2 => ⟨p2, [], [], rfl, updM_same, .inr (.inl rfl), .nil, (fun _ h => nomatch h), by simp, ?_⟩
                  walk_at "s"
                  rw [updM_updM, delM_updM hp2]
                  refine ⟨[], rfl, (fun _ h => nomatch h), by simp, ?_⟩
                  walk_at "s"
                  refine ⟨fun d hd => ?_, fun d hd => ?_, ?_⟩
                  · simp [kndQ] at hd
                    subst hd
                    trivial
                  · simp at hd
                    subst hd
                    trivial
                  exact Rt.of (k _)
              · obtain ⟨w0, ws', rfl⟩ : ∃ a b, ws' = a :: b := by
                  cases ws' with
                  | nil => exact absurd rfl ne
                  | cons a b => exact ⟨a, b, rfl⟩
                refine dIte_fe ((eqNil hq9).trans rfl) ?_
                walk_at "s"
                refine fun p1 hp1 => ⟨p1, vs, os, rfl, updM_same, lv.new hp1, vo.new hp1, okr, few, ?_⟩
                rw [ec]
                refine ⟨true, T.ex_BadRay_BadRay, fun _ aa dd hdd => ?_, fun z => nomatch z⟩
                have hdd2 := hdd (by simp)
                walk_at "s"
                refine ⟨by simp, ?_⟩
                walk_at "s"
                have hkk := T.kk_BadRay_ScaleError
                rw [delM_updM hp1, vw_at hq9]
                refine ⟨w0 :: ws', mn, rfl, m1, m2, ?_⟩
                walk_at "s"
                refine dIte_te (show dEqB (D.int (mn : Int)) (D.int (mn : Int)) = true by rw [dEqB_int]; simp) ?_
                walk_at "s"
                refine ⟨true, hkk, ?_⟩
                exact Rt.of (k _)
end
end RS

set_option maxRecDepth 100000
set_option maxHeartbeats 4000000
namespace RS.Pn
open PySem PySem.Spec PyProof.Rows L2 NdefX He
section
variable {P : Program} {w : World} {K : PySem.W.Frag} {mg : Str → Option Value} {base : Heap}
structure TPen (mg : Str → Option Value) : Prop where
  b_int : mg "int" = none
  b_len : mg "len" = none
abbrev s__law_pen : Stmt := top 27
theorem sc__law_pen : FnScope ["_law_script", "_law_cell"] ["_law_script"] (defScope s__law_pen) := ⟨rfl, rfl, rfl, by decide +kernel, rfl, by decide +kernel, by decide +kernel⟩
theorem ok_pen {f : Addr} {fd : FuncData} (F : FnP K "_law_pen" "_law_pen" s__law_pen f fd) (T : TPen mg) : FnOk P w K mg base CX0 1 f fd ["_law_script"] (spPen K) := by
  refine F.ok sc__law_pen (fun vs H Q E h => ?_) (fun cdv A outer s H vs Q E hr h => ?_)
  · obtain ⟨a, ns, rfl, _⟩ := h
    rfl
  · obtain ⟨a, ns, rfl, hS, k⟩ := h
    refine ⟨_, PSs.nox (pss_one (ps_ret (pe_disp (pps_cons pe_str (pe_lc (own := [("_law_cell", 1)]) (by rfl) sc__law_pen.nd (pi_list (pe_slice sl_list (pv 0) po_none (po_some pe_int))) (blkOk_by (own := [("_law_cell", 1)]) (N := ["_law_script", "_law_cell"]) (sc := defScope s__law_pen) (by decide +kernel)) (fun _ _ _ _ _ => (pg_name (i := 1) sc__law_pen.nd rfl (by first | exact Or.inl rfl | exact Or.inr rfl))) (fun _ _ _ _ _ => pts_nil) (fun _ _ _ _ _ => (pe_callTy call_int1 (by rfl) T.b_int (by decide +kernel) (pa_cons (pv 1) pa_nil)))) (pps_cons pe_str pe_int (pps_cons pe_str pe_int pps_nil))) (by rfl) (by rfl) (fun z => by cases z) (by decide)))), ?_⟩
    intro p hp
    have hS1 : SqL K (upd H p (.dK [])) a (ns.map V.int) := (Same.new hp).seq hS
    refine ⟨_, rfl, _, rfl, a, _, rfl, hS1, fun q hq => ?_⟩
    have hq1 : (upd (upd H p (.dK [])) q (.lst (cutV (ns.map V.int) none (some 63)))) q = some (.lst (cutV (ns.map V.int) none (some 63))) := upd_same
    obtain ⟨cs, hcs, hlen⟩ := cut63 ns
    rw [hcs] at hq1 ⊢
    refine ⟨_, rfl, ⟨_, SqL.of hq1⟩, fun D hD => lc_list (K := K) (a := q) (xs := cs.map V.int) (fun i H' => H' D = some (.lst ((cs.take i).map V.int)) ∧ Same (upd (upd H p (.dK [])) q (.lst (cs.map V.int))) H') ⟨upd_same, Same.new hD⟩ (fun i H' _ ⟨_, s⟩ => SqL.of (s _ _ hq1)) ?_ ?_⟩
    · rintro i x H' hi ⟨e1, e2⟩
      obtain ⟨z, hz, rfl⟩ := ints_at hi
      refine ⟨rfl, ?_⟩
      refine ⟨_, rfl, .inl ⟨_, rfl, _, e1, (by rw [List.length_map, List.length_take, sizeLine_eq]; omega), ?_, ?_⟩⟩
      · rw [take_int hz]; exact upd_same
      · exact RS.Same.mut e2 hD
    · rintro H' ⟨e1, e2⟩
      rw [List.length_map, List.take_length] at e1
      have hpp := e2 _ _ (upd_old hq (upd_same (H := H) (a := p) (o := .dK [])))
      refine ⟨hpp, [(.inr "cells", .ref D), (.inr "at", .int 0), (.inr "rest", .int 0)], rfl, by show 3 ≤ 15; decide, ?_⟩
      have npD : p ≠ D := fun z => by rw [z] at hpp; rw [hpp] at e1; cases e1
      refine k _ D _ (fun b o e => ?_) hp (free2 hp hq hD) ⟨cs, 0, 0, ?_, by rw [upd_ne npD.symm]; exact e1, hlen, by decide, by decide⟩
      · rw [upd_ne (ne_of_none e hp)]
        exact e2 _ _ (upd_old hq (upd_old hp e))
      · rw [upd_same, merge_pen]
abbrev s__law_draw : Stmt := top 28
theorem sc__law_draw : FnScope ["_law_pen_here", "_law_many", "_law_at", "_law_cell", "_law_mixed", "_law_digit"] ["_law_pen_here", "_law_many"] (defScope s__law_draw) := ⟨rfl, rfl, rfl, by decide +kernel, rfl, by decide +kernel, by decide +kernel⟩
theorem ok_draw {f : Addr} {fd : FuncData} (F : FnP K "_law_draw" "_law_draw" s__law_draw f fd) (T : TPen mg) : FnOk P w K mg base CX0 1 f fd ["_law_pen_here", "_law_many"] spDraw := by
  refine F.ok sc__law_draw (fun vs H Q E h => ?_) (fun cdv A outer s H vs Q E hr h => ?_)
  · obtain ⟨a, c, ns, b, rfl, _⟩ := h
    rfl
  · obtain ⟨p, c, m, b, rfl, hm, hm2, P, k⟩ := h
    obtain ⟨cs, a, r, hp, hc, hl, h0, h1⟩ := P.ex
    have hu := hu_of hr
    refine ⟨_, PSs.nox (pss_cons (ps_if (pt_cmpR op_gt (pe_dget hu (pv 0) pe_str (fun _ _ => rfl)) pe_int (nomark _)) (pss_cons (ps_set (i := 5) sc__law_draw.nd rfl (by first | exact Or.inl rfl | exact Or.inr rfl) (pe_op op_mod (pe_callTy call_int1 (by rfl) T.b_int (by decide +kernel) (pa_cons (pe_dget hu (pv 0) pe_str (fun _ _ => rfl)) pa_nil)) (pv 1)))
      (pss_cons (ps_dput hu (pv 0) pe_str (pe_op op_fdivW (pe_dget hu (pv 0) pe_str (fun _ _ => rfl)) (pv 1)) rfl)
      (pss_one (ps_ret (pv 5))))) pss_nil)
      (pss_cons (ps_set (i := 2) sc__law_draw.nd rfl (by first | exact Or.inl rfl | exact Or.inr rfl) (pe_dget hu (pv 0) pe_str (fun _ _ => rfl)))
      (pss_cons (ps_dput hu (pv 0) pe_str (pe_op op_add (pv 2) pe_int) rfl)
      (pss_cons (ps_set (i := 3) sc__law_draw.nd rfl (by first | exact Or.inl rfl | exact Or.inr rfl) (pe_op op_add (pe_op op_mul pe_int (pv 2)) pe_int))
      (Evl.pss_cut (ps_if (pt_cmpR (op_neD hr.units) (pe_dget hu (pv 0) pe_str (fun _ _ => rfl)) (pe_lst pa_nil) (nomark _)) (pss_one (ps_set (i := 3) sc__law_draw.nd rfl (by first | exact Or.inl rfl | exact Or.inr rfl) (pe_ix ix_list (pe_dget hu (pv 0) pe_str (fun _ _ => rfl)) (pe_op op_mod (pe_callTy call_int1 (by rfl) T.b_int (by decide +kernel) (pa_cons (pv 2) pa_nil)) (pe_callB call_len (by rfl) T.b_len PySem.boot_len (pa_cons (pe_dget hu (pv 0) pe_str (fun _ _ => rfl)) pa_nil))) (fun _ _ => rfl)))) pss_nil)
      (Evl.pss_cut (ps_if (PW.pt (pw_and (pt_cmpR op_lt (pv 2) (pe_callB call_len (by rfl) T.b_len PySem.boot_len (pa_cons (pe_dget hu (pv 0) pe_str (fun _ _ => rfl)) pa_nil)) (nomark _)) (pw_and1 (pt_cmpR op_ge (pv 3) (pe_op op_pow pe_int pe_int) (nomark _))))) (pss_cons (ps_dput hu (pv 0) pe_str (pe_op op_fdivW (pe_op op_sub (pv 3) (pe_op op_pow pe_int pe_int)) (pv 1)) rfl)
      (pss_one (ps_ret (pe_op op_mod (pe_callTy call_int1 (by rfl) T.b_int (by decide +kernel) (pa_cons (pe_op op_sub (pv 3) (pe_op op_pow pe_int pe_int)) pa_nil)) (pv 1))))) pss_nil)
      (pss_cons (ps_set (i := 4) sc__law_draw.nd rfl (by first | exact Or.inl rfl | exact Or.inr rfl) (pe_op op_add (pe_op op_add (pe_op op_add (pe_op op_mul (pe_op op_mod (pe_callTy call_int1 (by rfl) T.b_int (by decide +kernel) (pa_cons (pv 3) pa_nil)) pe_int) pe_int) (pe_op op_mul (pe_op op_mul pe_int (pv 2)) (pv 2))) (pe_op op_mul pe_int (pv 2))) pe_int))
      (pss_cons (ps_set (i := 4) sc__law_draw.nd rfl (by first | exact Or.inl rfl | exact Or.inr rfl) (pe_op op_mod (pe_callTy call_int1 (by rfl) T.b_int (by decide +kernel) (pa_cons (pv 4) pa_nil)) pe_int))
      (pss_cons (ps_set (i := 4) sc__law_draw.nd rfl (by first | exact Or.inl rfl | exact Or.inr rfl) (pe_op op_mod (pe_callTy call_int1 (by rfl) T.b_int (by decide +kernel) (pa_cons (pe_op op_mul (pv 4) (pe_op op_add (pv 4) pe_int)) pa_nil)) pe_int))
      (pss_one (ps_ret (pe_op op_mod (pe_callTy call_int1 (by rfl) T.b_int (by decide +kernel) (pa_cons (pe_op op_fdivW (pe_op op_mod (pe_callTy call_int1 (by rfl) T.b_int (by decide +kernel) (pa_cons (pe_op op_mul (pv 4) (pv 4)) pa_nil)) pe_int) pe_int) pa_nil)) (pv 1))))))))))))), ?_⟩
    -- if pen["rest"] > 0
    refine ⟨_, rfl, p, _, rfl, dg_rest hp, _, _, rfl, rfl, _, rfl, ?_⟩
    refine ite2 (fun hr0 => ?_) (fun _ => ?_)
    · refine ⟨_, rfl, p, _, rfl, dg_rest hp, .inl ⟨_, rfl, _, rfl, _, _, rfl, rfl, hm, ?_⟩⟩
      refine ⟨_, rfl, p, _, rfl, dg_rest hp, _, rfl, _, _, rfl, rfl, ⟨hm, hm2⟩, _, rfl, p, _, rfl, dp_rest hp, ?_⟩
      exact ⟨_, rfl, k _ _ (mod_in hm).1 (mod_in hm).2 ⟨cs, a, _, upd_same, by rw [upd_ne (ne_of hc hp (by intro z; cases z))]; exact hc, hl, h0, by omega⟩ Sav.own⟩
    · refine ⟨_, rfl, p, _, rfl, dg_at hp, _, rfl, _, _, rfl, rfl, _, rfl, p, _, rfl, dp_at hp, _, rfl, _, _, rfl, rfl, .inl ⟨by decide, by decide⟩, _, _, rfl, rfl, ?_⟩
      have hc1 : (upd H p (.dK (penD c (a + 1) r))) c = some (.lst (cs.map V.int)) := by rw [upd_ne (ne_of hc hp (by intro z; cases z))]; exact hc
      -- cell
      refine ⟨fun σ' H' => ∃ z : Int, σ' = [some (.ref p), some (.int m), some (.int a), some (.int z), none, none] ∧ Same (upd H p (.dK (penD c (a + 1) r))) H', ?_, ?_⟩
      · refine ⟨_, rfl, p, _, rfl, dg_cells upd_same, by decide, fun l hl2 => ?_⟩
        have S1 := Same.new (o := .lst []) hl2
        have hp2 := S1 _ _ (upd_same (H := H) (a := p) (o := .dK (penD c (a + 1) r)))
        have hc2 := S1 _ _ hc1
        refine ⟨.list (cs.map PyData.int), .list [], .lst (SqL.of hc2) (dp_ints cs), .lst (SqL.of upd_same) .nil, shaped_ints cs, by decide, _, rfl, ?_⟩
        rw [eqv_nil]
        refine ite2 (fun hn => ?_) (fun hn => ?_)
        · have hpos : 0 < cs.length := by cases cs with | nil => cases hn | cons _ _ => exact Nat.succ_pos _
          obtain ⟨z, hz⟩ := at_mod (a := a) hpos
          refine ⟨_, rfl, p, _, rfl, dg_cells hp2, _, rfl, .inl ⟨_, rfl, _, rfl, p, _, rfl, dg_cells hp2, _, _, rfl, .inl ⟨_, SqL.of hc2, rfl⟩, _, _, rfl, rfl, by rw [List.length_map]; omega, _, _, _, _, rfl, rfl, SqL.of hc2, hz, ?_⟩⟩
          exact ⟨z, rfl, S1⟩
        · exact ⟨_, rfl, S1⟩
      · rintro σ' H' ⟨z, rfl, S⟩
        have hp' := S _ _ (upd_same (H := H) (a := p) (o := .dK (penD c (a + 1) r)))
        have hc' := S _ _ hc1
        have Sv : Sav p H H' := Sav.own.trans (Same.sav S)
        refine ⟨fun σ' H'' => σ' = [some (.ref p), some (.int m), some (.int a), some (.int z), none, none] ∧ H'' = H', ?_, ?_⟩
        · refine ⟨_, rfl, _, rfl, p, _, rfl, dg_cells hp', _, _, rfl, .inl ⟨_, SqL.of hc', rfl⟩, _, _, rfl, rfl, _, rfl, ?_⟩
          refine ite2 (fun _ => ?_) (fun _ => iteF ⟨rfl, rfl⟩)
          refine ⟨_, rfl, _, _, rfl, rfl, ⟨by decide, by decide, by decide⟩, _, _, rfl, rfl, _, rfl, ?_⟩
          refine ite2 (fun _ => ?_) (fun _ => ⟨rfl, rfl⟩)
          refine ⟨_, rfl, _, _, rfl, rfl, ⟨by decide, by decide, by decide⟩, _, _, rfl, rfl, _, rfl, _, _, rfl, rfl, ⟨hm, hm2⟩, _, rfl, p, _, rfl, dp_rest hp', ?_⟩
          refine ⟨_, rfl, _, _, rfl, rfl, ⟨by decide, by decide, by decide⟩, _, _, rfl, rfl, .inl ⟨_, rfl, _, rfl, _, _, rfl, rfl, hm, ?_⟩⟩
          exact k _ _ (mod_in hm).1 (mod_in hm).2 ⟨cs, a + 1, _, upd_same, by rw [upd_ne (ne_of hc' hp' (by intro z; cases z))]; exact hc', hl, by omega, by omega⟩ (Sv.trans Sav.own)
        · rintro σ' H'' ⟨rfl, rfl⟩
          refine ⟨_, rfl, .inl ⟨_, rfl, _, _, rfl, rfl, (by show (0 : Int) < _; decide), _, _, rfl, rfl, .inr ⟨by decide, by decide⟩, _, rfl, _, _, rfl, rfl, .inl ⟨by decide, by decide⟩, _, rfl, _, _, rfl, rfl, .inr ⟨by omega, by omega⟩, _, _, rfl, rfl, _, rfl, _, _, rfl, rfl, .inl ⟨by decide, by decide⟩, _, _, rfl, rfl, _, _, rfl, rfl, ?_⟩⟩
          refine ⟨_, rfl, .inl ⟨_, rfl, _, _, rfl, rfl, (by show (0 : Int) < _; decide), ?_⟩⟩
          refine ⟨_, rfl, _, rfl, _, _, rfl, rfl, _, _, rfl, rfl, mul_mod (by decide) (by decide), .inl ⟨_, rfl, _, _, rfl, rfl, (by show (0 : Int) < _; decide), ?_⟩⟩
          refine ⟨_, rfl, _, rfl, _, _, rfl, rfl, mul_mod (by decide) (by decide), .inl ⟨_, rfl, _, _, rfl, rfl, (by show (0 : Int) < _; decide), _, _, rfl, rfl, ⟨by decide, by decide⟩, .inl ⟨_, rfl, _, rfl, _, _, rfl, rfl, hm, ?_⟩⟩⟩
          exact k _ _ (mod_in hm).1 (mod_in hm).2 ⟨cs, a + 1, r, hp', hc', hl, by omega, by omega⟩ Sv
end
end RS.Pn

set_option maxRecDepth 100000
set_option maxHeartbeats 4000000
namespace RS
open PySem PySem.Spec PyProof.Rows L2 NdefX He
abbrev s_BadRay___init__ : Stmt := inClass (top 3) 0
theorem sc_BadRay___init__ : NScope ["self", "index", "__class__"] ["self", "index"] ["__class__"] (defScope s_BadRay___init__) := nscope_by (by decide +kernel)
theorem ok_BadRay___init__ {P : Program} {w : World} {K : PySem.W.Frag} {mg : Str → Option Value} {base : Heap} {C f : Addr} {fd : FuncData} (F : FunX K P "__init__" "BadRay.__init__" (defArgs s_BadRay___init__) (defBody s_BadRay___init__) (defScope s_BadRay___init__) C f fd) (T : ExcT K C) (n0 : NoAttr K C "index") (hmg : mg "super" = none) (htop : (P.main.scope.names.lookup ("super" : Str)).isSome = false) :
    FnOk P w K mg base CX0 1 f fd ["self", "index"] (spEx C ["index"]) := by
  refine fnx_of (k := 0) F sc_BadRay___init__ T.sup rfl rfl rfl hmg htop (fun _ _ _ => ⟨_, rfl⟩) (fun _ _ _ => rfl) (fun vs H Q E h => ?_) (fun cda cc A outer s H vs Q E hr h => ?_)
  · obtain ⟨a, ws, rfl, hl, _⟩ := h
    simpa using hl
  · obtain ⟨a, ws, rfl, hl, ha, k0, k⟩ := h
    match ws, hl with
    | [v0], _ =>
      refine ⟨a, [v0], _, rfl, ha, (pss_one (ps_ost (pv 0) (pv 1))), ?_⟩
      refine ⟨_, rfl, _, rfl, a, C, rfl, T.sup.ox, n0, .inl ⟨ha, fun dx hd hne => ?_⟩⟩
      exact k (by simp) dx _ hd hne upd_same (by rw [upd_ne hne, upd_same]; rfl) (fun b h1 h2 => by rw [upd_ne h1, upd_ne h2])
end RS

set_option maxRecDepth 100000
set_option maxHeartbeats 0
namespace RS
open PySem PySem.Spec PyProof.Rows L2 He
open NdefX
namespace Hd
def top (i : Nat) : Stmt := PySem.Challenge.pw_risingscales_k26_curves_made_and_refused.main.body.getD i (.Pass ⟨0, 0, 0, 0⟩)
def dx (adr : Frg → Addr) (n q : Str) (st : Stmt) (dfl : List Dv) (clo : List Str) : DefR := ⟨adr, n, q, defArgs st, defBody st, defScope st, dfl, clo⟩
def fn : List DefR := [
  dx (fun K => inA K "BadRay") "__init__" "BadRay.__init__" (inClass (top 3) 0) [] ["__class__"],
  dx (fun K => ga K "is_whole") "is_whole" "is_whole" (top 5) [] [],
  dx (fun K => ga K "common") "common" "common" (top 7) [] [],
  dx (fun K => ga K "is_number") "is_number" "is_number" (top 8) [] [],
  dx (fun K => ga K "number") "number" "number" (top 9) [.int 1] [],
  dx (fun K => ga K "plus") "plus" "plus" (top 10) [] [],
  dx (fun K => ga K "minus") "minus" "minus" (top 11) [] [],
  dx (fun K => ga K "compared") "compared" "compared" (top 14) [] [],
  dx (fun K => ga K "is_below") "is_below" "is_below" (top 15) [] [],
  dx (fun K => ga K "corners_of") "corners_of" "corners_of" (top 18) [] [],
  dx (fun K => ga K "ascend") "ascend" "ascend" (top 19) [] [],
  dx (fun K => ga K "lies_above") "lies_above" "lies_above" (top 21) [] [],
  dx (fun K => ga K "ray_of") "ray_of" "ray_of" (top 20) [] [],
  dx (fun K => ma K (ga K "Curve") "__init__") "__init__" "Curve.__init__" (inClass (top 25) 0) [.adr (dflAt ("Curve", some "__init__") 0)] [],
  dx (fun K => ma K (ga K "Curve") "kinds") "kinds" "Curve.kinds" (inClass (top 25) 4) [] [],
  dx (fun K => ga K "_law_pen") "_law_pen" "_law_pen" (top 27) [] [],
  dx (fun K => ga K "_law_draw") "_law_draw" "_law_draw" (top 28) [] [],
  dx (fun K => ga K "_law_pick") "_law_pick" "_law_pick" (top 29) [] [],
  dx (fun K => ga K "_law_number") "_law_number" "_law_number" (top 30) [] [],
  dx (fun K => ga K "_law_plus") "_law_plus" "_law_plus" (top 31) [] [],
  dx (fun K => ga K "_law_corners") "_law_corners" "_law_corners" (top 32) [] [],
  dx (fun K => ga K "_law_rays") "_law_rays" "_law_rays" (top 33) [] [],
  dx (fun K => ga K "_law_spoiled") "_law_spoiled" "_law_spoiled" (top 34) [] [],
  dx (fun K => ga K "_law_kinds") "_law_kinds" "_law_kinds" (top 35) [] [],
  dx (fun K => ga K "_law_made") "_law_made" "_law_made" (top 36) [] [],
  dx (fun K => ga K "law") "law" "law" (top 37) [] []]
def exl : List (Frg → Bool) := [
  fun K => clsB K "Curve",
  fun K => noatB K "Curve" "rays",
  fun K => freeB K "abs",
  fun K => freeB K "bool",
  fun K => freeB K "enumerate",
  fun K => freeB K "int",
  fun K => freeB K "isinstance",
  fun K => freeB K "len",
  fun K => freeB K "list",
  fun K => freeB K "min",
  fun K => freeB K "range",
  fun K => freeB K "tuple",
  fun K => freeB K "zip",
  fun K => decide (PySem.W.exmOne K (.ref (ga K "BadRay")) (.ref (ga K "BadRay")) = some true),
  fun K => gloB K "ScaleError",
  fun K => decide (PySem.W.kitOne K (.ref (ga K "BadRay")) (.ref (ga K "ScaleError")) = some true),
  fun K => noatB K "BadRay" "index",
  fun K => tupAB K (dflAt ("Curve", some "__init__") 0 K) [],
  fun K => excB K "BadRay",
  fun K => clxB K "BadRay" "/claim/cut.py",
  fun K => gloB K "BadRay",
  fun K => gloB K "is_whole",
  fun K => gloB K "common",
  fun K => gloB K "is_number",
  fun K => gloB K "number",
  fun K => gloB K "plus",
  fun K => gloB K "minus",
  fun K => gloB K "compared",
  fun K => gloB K "is_below",
  fun K => gloB K "corners_of",
  fun K => gloB K "ascend",
  fun K => gloB K "lies_above",
  fun K => gloB K "ray_of",
  fun K => mkrB K "Curve",
  fun K => gloB K "Curve",
  fun K => methB K "Curve" "kinds",
  fun K => gloB K "_law_pen",
  fun K => gloB K "_law_draw",
  fun K => gloB K "_law_pick",
  fun K => gloB K "_law_number",
  fun K => gloB K "_law_plus",
  fun K => gloB K "_law_corners",
  fun K => gloB K "_law_rays",
  fun K => gloB K "_law_spoiled",
  fun K => gloB K "_law_kinds",
  fun K => gloB K "_law_made",
  fun K => freeB K "super",
  fun K => gloB K "law"]
def ex (K : Frg) : Bool := exl.all fun b => b K
abbrev R : PySem.W.OpenRow := PySem.W.OpenLaw.row PySem.Challenge.rw_risingscales_k26_curves_made_and_refused
abbrev hk : PySem.W.Hook := hookR 6 ex fn
def ob (s : PySem.W.SharedT) : AlR := obsRG 6 ex fn (HandSHeadRun.getT s)
theorem ob_eq (s : PySem.W.SharedT) : ob s = hk.obs s.abs := obsRG_eq (HandSHeadRun.getT_eq s)
def loose : List Str := (["ScaleError", "BadNumber", "BadRay", "is_whole", "common", "is_number", "number", "plus", "minus", "times", "over", "compared", "is_below", "ONE", "corners_of", "ascend", "ray_of", "lies_above", "lies_on", "place_at"] : List Str) ++ (["clock_at", "Curve", "_law_pen", "_law_draw", "_law_pick", "_law_number", "_law_plus", "_law_corners", "_law_rays", "_law_spoiled", "_law_kinds", "_law_made"] : List Str)
theorem run (w : World) : HandSHeadRun.RunEq R (PySem.W.view R.prog [37]) hk ob 20000 loose w := by
  intro os
  kernel_rfl
end Hd
theorem _root_.RS.SaysR.fact {K : Frg} (c : SaysR Hd.ex Hd.fn K) (i : Nat) {b : Frg → Bool} (h : Hd.exl[i]? = some b := by rfl) : b K = true := List.all_eq_true.mp c.more b (List.mem_of_getElem? h)
end RS

set_option maxRecDepth 100000
set_option maxHeartbeats 4000000
namespace RS
open PySem PySem.Spec PyProof.Rows L2 He LamX
theorem facts {P : Program} {w : World} {K : Frg} {h : Heap} {mg : Str → Option Value} {f : Addr} (X : K.In h) (G : h.Ns mainGlobals mg) (hfa : mg ("law" : Str) = some (.ref f)) (c : SaysR Hd.ex Hd.fn K) (hfile : P.main.file = "/claim/cut.py") (htop : (P.main.scope.names.lookup ("super" : Str)).isSome = false) :
    ∃ fd : FuncData, (∀ (s : Shared) (v : Value), BindsTo s fd ⟨[v], []⟩ [("_law_script", v)]) ∧ ∀ base : Heap, K.In base → base.Ns mainGlobals mg → FnOk P w K mg base CX0 10 f fd ["_law_script"] (spLawP K) := by
  letI : Tbls := ⟨[]⟩
  obtain ⟨fd1, F1⟩ := c.def_ 1
  obtain ⟨fd2, F2⟩ := c.def_ 2
  obtain ⟨fd3, F3⟩ := c.def_ 3
  obtain ⟨fd4, F4⟩ := c.def_ 4
  obtain ⟨fd5, F5⟩ := c.def_ 5
  obtain ⟨fd6, F6⟩ := c.def_ 6
  obtain ⟨fd7, F7⟩ := c.def_ 7
  obtain ⟨fd8, F8⟩ := c.def_ 8
  obtain ⟨fd9, F9⟩ := c.def_ 9
  obtain ⟨fd10, F10⟩ := c.def_ 10
  obtain ⟨fd11, F11⟩ := c.def_ 11
  obtain ⟨fd12, F12⟩ := c.def_ 12
  obtain ⟨fd13, F13⟩ := c.def_ 13
  obtain ⟨fd14, F14⟩ := c.def_ 14
  obtain ⟨fd15, F15⟩ := c.def_ 15
  obtain ⟨fd16, F16⟩ := c.def_ 16
  obtain ⟨fd17, F17⟩ := c.def_ 17
  obtain ⟨fd18, F18⟩ := c.def_ 18
  obtain ⟨fd19, F19⟩ := c.def_ 19
  obtain ⟨fd20, F20⟩ := c.def_ 20
  obtain ⟨fd21, F21⟩ := c.def_ 21
  obtain ⟨fd22, F22⟩ := c.def_ 22
  obtain ⟨fd23, F23⟩ := c.def_ 23
  obtain ⟨fd24, F24⟩ := c.def_ 24
  obtain ⟨fd25, F25⟩ := c.def_ 25
  have e := hfa.symm.trans (glo_ok X G (c.fact 47))
  cases e
  have hsup : mg "super" = none := free_ok X G (c.fact 46)
  have T : Fx K mg (ga K "BadRay") (ga K "Curve") (ga K "ScaleError") := ⟨⟨(cls_ok (c.fact 0)), (noat_ok (c.fact 1))⟩, (free_ok X G (c.fact 2)), (free_ok X G (c.fact 3)), (free_ok X G (c.fact 4)), (free_ok X G (c.fact 5)), (free_ok X G (c.fact 6)), (free_ok X G (c.fact 7)), (free_ok X G (c.fact 8)), (free_ok X G (c.fact 9)), (free_ok X G (c.fact 10)), (free_ok X G (c.fact 11)), (free_ok X G (c.fact 12)), (cls_ok (c.fact 0)), (show PySem.W.exmOne K (.ref (ga K "BadRay")) (.ref (ga K "BadRay")) = some true from (of_decide_eq_true (c.fact 13))), (glo_ok X G (c.fact 14)), (show PySem.W.kitOne K (.ref (ga K "BadRay")) (.ref (ga K "ScaleError")) = some true from (of_decide_eq_true (c.fact 15))), (noat_ok (c.fact 16))⟩
  have TPn : Pn.TPen mg := ⟨(free_ok X G (c.fact 5)), (free_ok X G (c.fact 7))⟩
  have D_Curve___init__1 : Dfl K [.ref (dflAt ("Curve", some "__init__") 0 K)] [.tup []] := Dfl.one (tupad_ok (vs := []) (c.fact 17) rfl)
  obtain ⟨fd0, F0, i0, t0⟩ := clxB_ok (P := P) (c.fact 19) rfl (c.val_ 0) rfl hfile
  have b := FunD.bindsA (ps := ["_law_script"]) F25 fun _ _ _ _ _ _ us hl => match us, hl with | [_], _ => rfl
  refine ⟨fd25, fun s v => b s [v] rfl, fun base _ _ => ?_⟩
  have M_BadRay : Exk P w K mg base "BadRay" (ga K "BadRay") ["index"] := ⟨⟨inA K "BadRay", fd0, ["self", "index"], ok_BadRay___init__ F0 (excB_ok (c.fact 18)) (noat_ok (c.fact 16)) hsup htop, FunX.bindsN F0 (fun _ _ _ _ _ _ us hl => match us, hl with | [_, _], _ => rfl), i0, t0⟩, glo_ok X G (c.fact 20), excB_ok (c.fact 18)⟩
  have M_is_whole : Cal P w K mg base (L2N.CX P w) 1 "is_whole" ["value"] [] (upSp K sp_is_whole) := ⟨_, _, _, ok_is_whole F1 T , glo_ok X G (c.fact 21), F1.kp, .nil, (FunD.bindsN (ps := ["value"]) F1 fun _ _ _ _ _ _ us hl => match us, hl with | [_], _ => rfl)⟩
  have M_common : Cal P w K mg base (L2N.CX P w) 1 "common" ["one", "two"] [] (upSp K sp_common) := ⟨_, _, _, ok_common F2 T , glo_ok X G (c.fact 22), F2.kp, .nil, (FunD.bindsN (ps := ["one", "two"]) F2 fun _ _ _ _ _ _ us hl => match us, hl with | [_, _], _ => rfl)⟩
  have M_is_number : Cal P w K mg base (L2N.CX P w) 2 "is_number" ["value"] [] (upSp K sp_is_number) := ⟨_, _, _, ok_is_number F3 T M_is_whole M_common, glo_ok X G (c.fact 23), F3.kp, .nil, (FunD.bindsN (ps := ["value"]) F3 fun _ _ _ _ _ _ us hl => match us, hl with | [_], _ => rfl)⟩
  have M_number : Cal P w K mg base (L2N.CX P w) 2 "number" ["top", "low"] [] (upSp K sp_number) := by
    obtain ⟨ds, vd, b⟩ := FunD.binds1 (ps := ["top", "low"]) F4 2 1 (fun z => by cases z) rfl fun _ _ _ _ _ _ _ us its h1 h2 => match us, its, h1, h2 with | [_, _], [_], _, _ => ⟨_, rfl, rfl⟩
    exact ⟨_, _, ds, ok_number F4 T M_common, glo_ok X G (c.fact 24), F4.kp, vd, b⟩
  have M_plus : Cal P w K mg base (L2N.CX P w) 3 "plus" ["a", "b"] [] (upSp K sp_plus) := ⟨_, _, _, ok_plus F5 T M_number, glo_ok X G (c.fact 25), F5.kp, .nil, (FunD.bindsN (ps := ["a", "b"]) F5 fun _ _ _ _ _ _ us hl => match us, hl with | [_, _], _ => rfl)⟩
  have M_minus : Cal P w K mg base (L2N.CX P w) 3 "minus" ["a", "b"] [] (upSp K sp_minus) := ⟨_, _, _, ok_minus F6 T M_number, glo_ok X G (c.fact 26), F6.kp, .nil, (FunD.bindsN (ps := ["a", "b"]) F6 fun _ _ _ _ _ _ us hl => match us, hl with | [_, _], _ => rfl)⟩
  have M_compared : Cal P w K mg base (L2N.CX P w) 1 "compared" ["a", "b"] [] (upSp K sp_compared) := ⟨_, _, _, ok_compared F7 T , glo_ok X G (c.fact 27), F7.kp, .nil, (FunD.bindsN (ps := ["a", "b"]) F7 fun _ _ _ _ _ _ us hl => match us, hl with | [_, _], _ => rfl)⟩
  have M_is_below : Cal P w K mg base (L2N.CX P w) 2 "is_below" ["a", "b"] [] (upSp K sp_is_below) := ⟨_, _, _, ok_is_below F8 T M_compared, glo_ok X G (c.fact 28), F8.kp, .nil, (FunD.bindsN (ps := ["a", "b"]) F8 fun _ _ _ _ _ _ us hl => match us, hl with | [_, _], _ => rfl)⟩
  have M_corners_of : Cal P w K mg base (L2N.CX P w) 3 "corners_of" ["value"] [] (upSp K sp_corners_of) := ⟨_, _, _, ok_corners_of F9 T M_is_number, glo_ok X G (c.fact 29), F9.kp, .nil, (FunD.bindsN (ps := ["value"]) F9 fun _ _ _ _ _ _ us hl => match us, hl with | [_], _ => rfl)⟩
  have M_ascend : Cal P w K mg base (L2N.CX P w) 3 "ascend" ["corners"] [] (upSp K sp_ascend) := ⟨_, _, _, ok_ascend F10 T M_is_below, glo_ok X G (c.fact 30), F10.kp, .nil, (FunD.bindsN (ps := ["corners"]) F10 fun _ _ _ _ _ _ us hl => match us, hl with | [_], _ => rfl)⟩
  have M_lies_above : Cal P w K mg base (L2N.CX P w) 3 "lies_above" ["ray", "before"] [] (upSp K sp_lies_above) := ⟨_, _, _, ok_lies_above F11 T M_is_below, glo_ok X G (c.fact 31), F11.kp, .nil, (FunD.bindsN (ps := ["ray", "before"]) F11 fun _ _ _ _ _ _ us hl => match us, hl with | [_, _], _ => rfl)⟩
  have M_ray_of : Cal P w K mg base (L2N.CX P w) 4 "ray_of" ["value"] [] (upSp K sp_ray_of) := ⟨_, _, _, ok_ray_of F12 T M_is_whole M_is_number M_is_below M_corners_of M_ascend, glo_ok X G (c.fact 32), F12.kp, .nil, (FunD.bindsN (ps := ["value"]) F12 fun _ _ _ _ _ _ us hl => match us, hl with | [_], _ => rfl)⟩
  have M_Curve___init__ : Mkr P w K mg base (L2N.CX P w) 5 "Curve" (ga K "Curve") ["self", "rays"] [] (upSp K (sp_Curve___init__ (ga K "BadRay") (ga K "Curve"))) := by
    obtain ⟨ds, vd, b⟩ := FunD.binds1 (ps := ["self", "rays"]) F13 2 1 (fun z => by cases z) rfl fun _ _ _ _ _ _ _ us its h1 h2 => match us, its, h1, h2 with | [_, _], [_], _, _ => ⟨_, rfl, rfl⟩
    exact ⟨_, _, ds, ok_Curve___init__ F13 T M_BadRay M_lies_above M_ray_of, mkr_ok (c.fact 33), glo_ok X G (c.fact 34), vd, b⟩
  have M_Curve___init__1 : Mkr P w K mg base (L2N.CX P w) 5 "Curve" (ga K "Curve") ["self", "rays"] [.ref (dflAt ("Curve", some "__init__") 0 K)] (upSp K (sp_Curve___init__ (ga K "BadRay") (ga K "Curve"))) := by
    obtain ⟨ds, vd, b⟩ := FunD.binds1 (ps := ["self", "rays"]) F13 1 0 (fun z => by cases z) rfl fun _ _ _ _ _ _ _ us its h1 h2 => match us, its, h1, h2 with | [_], [_], _, _ => ⟨_, rfl, rfl⟩
    exact ⟨_, _, ds, ok_Curve___init__ F13 T M_BadRay M_lies_above M_ray_of, mkr_ok (c.fact 33), glo_ok X G (c.fact 34), vd, b⟩
  have M_Curve_kinds : Mtd P w K mg base (L2N.CX P w) 1 (ga K "Curve") "kinds" ["self"] [] (upSp K (sp_Curve_kinds (ga K "Curve"))) := ⟨_, _, _, ok_Curve_kinds F14 T , meth_ok (c.fact 35), .nil, (FunD.bindsN (ps := ["self"]) F14 fun _ _ _ _ _ _ us hl => match us, hl with | [_], _ => rfl)⟩
  have M__law_pen : Cal P w K mg base (L2N.CX P w) 1 "_law_pen" ["_law_script"] [] (upSp K Pn.spPenD) := ⟨_, _, _, (FnOk.ofCX0 ((Pn.ok_pen F15 TPn).imp Pn.pen_up)), glo_ok X G (c.fact 36), F15.kp, .nil, (FunD.bindsN (ps := ["_law_script"]) F15 fun _ _ _ _ _ _ us hl => match us, hl with | [_], _ => rfl)⟩
  have M__law_draw : Cal P w K mg base (L2N.CX P w) 1 "_law_draw" ["_law_pen_here", "_law_many"] [] (upSp K Pn.spDrawD) := ⟨_, _, _, (FnOk.ofCX0 ((Pn.ok_draw F16 TPn).imp Pn.draw_up)), glo_ok X G (c.fact 37), F16.kp, .nil, (FunD.bindsN (ps := ["_law_pen_here", "_law_many"]) F16 fun _ _ _ _ _ _ us hl => match us, hl with | [_, _], _ => rfl)⟩
  have M__law_pick : Cal P w K mg base (L2N.CX P w) 2 "_law_pick" ["_law_pen_here", "_law_items"] [] (upSp K sp__law_pick) := ⟨_, _, _, ok__law_pick F17 T M__law_draw, glo_ok X G (c.fact 38), F17.kp, .nil, (FunD.bindsN (ps := ["_law_pen_here", "_law_items"]) F17 fun _ _ _ _ _ _ us hl => match us, hl with | [_, _], _ => rfl)⟩
  have M__law_number : Cal P w K mg base (L2N.CX P w) 1 "_law_number" ["_law_top", "_law_low"] [] (upSp K sp__law_number) := ⟨_, _, _, ok__law_number F18 T , glo_ok X G (c.fact 39), F18.kp, .nil, (FunD.bindsN (ps := ["_law_top", "_law_low"]) F18 fun _ _ _ _ _ _ us hl => match us, hl with | [_, _], _ => rfl)⟩
  have M__law_plus : Cal P w K mg base (L2N.CX P w) 2 "_law_plus" ["_law_a", "_law_b", "_law_sign"] [] (upSp K sp__law_plus) := ⟨_, _, _, ok__law_plus F19 T M__law_number, glo_ok X G (c.fact 40), F19.kp, .nil, (FunD.bindsN (ps := ["_law_a", "_law_b", "_law_sign"]) F19 fun _ _ _ _ _ _ us hl => match us, hl with | [_, _, _], _ => rfl)⟩
  have M__law_corners : Cal P w K mg base (L2N.CX P w) 3 "_law_corners" ["_law_pen_here", "_law_start", "_law_most"] [] (upSp K sp__law_corners) := ⟨_, _, _, ok__law_corners F20 T M__law_draw M__law_number M__law_plus, glo_ok X G (c.fact 41), F20.kp, .nil, (FunD.bindsN (ps := ["_law_pen_here", "_law_start", "_law_most"]) F20 fun _ _ _ _ _ _ us hl => match us, hl with | [_, _, _], _ => rfl)⟩
  have M__law_rays : Cal P w K mg base (L2N.CX P w) 4 "_law_rays" ["_law_pen_here", "_law_most"] [] (upSp K sp__law_rays) := ⟨_, _, _, ok__law_rays F21 T M__law_draw M__law_number M__law_plus M__law_corners, glo_ok X G (c.fact 42), F21.kp, .nil, (FunD.bindsN (ps := ["_law_pen_here", "_law_most"]) F21 fun _ _ _ _ _ _ us hl => match us, hl with | [_, _], _ => rfl)⟩
  have M__law_spoiled : Cal P w K mg base (L2N.CX P w) 3 "_law_spoiled" ["_law_pen_here", "_law_ray"] [] (upSp K sp__law_spoiled) := ⟨_, _, _, ok__law_spoiled F22 T M__law_draw M__law_pick M__law_plus, glo_ok X G (c.fact 43), F22.kp, .nil, (FunD.bindsN (ps := ["_law_pen_here", "_law_ray"]) F22 fun _ _ _ _ _ _ us hl => match us, hl with | [_, _], _ => rfl)⟩
  have M__law_kinds : Cal P w K mg base (L2N.CX P w) 1 "_law_kinds" ["_law_rays_here"] [] (upSp K sp__law_kinds) := ⟨_, _, _, ok__law_kinds F23 T , glo_ok X G (c.fact 44), F23.kp, .nil, (FunD.bindsN (ps := ["_law_rays_here"]) F23 fun _ _ _ _ _ _ us hl => match us, hl with | [_], _ => rfl)⟩
  have M__law_made : Cal P w K mg base (L2N.CX P w) 9 "_law_made" ["_law_rays_here", "_law_due"] [] (upSp K (sp__law_made (ga K "Curve"))) := ⟨_, _, _, ok__law_made F24 T M_Curve___init__ M_Curve_kinds M__law_kinds, glo_ok X G (c.fact 45), F24.kp, .nil, (FunD.bindsN (ps := ["_law_rays_here", "_law_due"]) F24 fun _ _ _ _ _ _ us hl => match us, hl with | [_, _], _ => rfl)⟩
  exact (FnOk.imp (FnOk.toCX0N (ok_law F25 T M_BadRay M_Curve___init__ M_Curve___init__1 M_Curve_kinds M__law_pen M__law_draw M__law_rays M__law_spoiled M__law_made D_Curve___init__1)) fun vs H Q E h => law_up vs H Q E0 h)
end RS
open PySem PySem.W PySem.Calls PyProof.Rows
theorem PySem.Challenge.cw_risingscales_k26_curves_made_and_refused_holds : PySem.Challenge.rw_risingscales_k26_curves_made_and_refused.Holds := by
  w_on; o_law
  refine HandSHeadRun.head_any (r := OpenLaw.row PySem.Challenge.rw_risingscales_k26_curves_made_and_refused) (q := view (OpenLaw.row PySem.Challenge.rw_risingscales_k26_curves_made_and_refused).prog [37]) (H := RS.Hd.hk) (ob := RS.Hd.ob) (M := 20000) (loose := RS.Hd.loose) (d := HandSHeadRun.topDef (OpenLaw.row PySem.Challenge.rw_risingscales_k26_curves_made_and_refused).prog 37) (kwd := []) RS.Hd.ob_eq
    (by kernel_rfl) (fun s => by kernel_rfl) RS.Hd.run (by kernel_rfl) (by kernel_rfl) (by kernel_rfl) (by rfl) (by first | assumption | decide +kernel) (by decide +kernel) ⟨rfl, rfl, rfl, rfl, rfl, by decide +kernel⟩ ?hw ?hc
  case hw => w_witness2
  case hc =>
    refine L2.walk_ofE (l := PySem.Challenge.rw_risingscales_k26_curves_made_and_refused) (n := 63) (k := 10) (x := "_law_script") (CX := L2.CX0) rfl (by decide) (by kernel_rfl) ⟨rfl, by decide, by decide⟩ ?F (fun _ _ _ _ z => z)
    intro w mg fa h Y G hmg0
    obtain ⟨K, KX, c⟩ := Y
    have hmg : mg ("law" : PySem.Str) = some (.ref fa) := by
      have e : (HandSHeadRun.topDef (OpenLaw.row PySem.Challenge.rw_risingscales_k26_curves_made_and_refused).prog 37).name = ("law" : PySem.Str) := by kernel_rfl
      rw [← e]
      exact hmg0
    obtain ⟨fd, hb, hF⟩ := RS.facts (P := (PySem.Challenge.rw_risingscales_k26_curves_made_and_refused).prog) (w := w) KX G hmg c (by kernel_rfl) (by kernel_rfl)
    exact ⟨K, fd, RS.spLawP K, KX, hb, fun H a ns hl _ hS => ⟨a, ns, rfl, hS, hl, fun _ => rfl⟩, hF⟩
