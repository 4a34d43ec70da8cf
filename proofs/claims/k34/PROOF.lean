import PyProof.Rows.All
import Wide.All
import OpenK.AllK
import Wide.FinOn
import PyProof.InstNe
import KE.KFromBytes
import KE.KExcSuper
import KE.KOpsOwn
import KE.KIsNot
import KE.KIsAll
import HandS.ForMost
import HandS.Exc
import HandS.Wide
import HandS.Flow
import HandS.Defaults
import HandS.Property
import HandS.ClsMeth
import HandS.Slots
import HandS.SlotsOwn
import HandS.IsInst
import HandS.Evl
import HandS.Head0
import HandS.Head1
import HandS.Head2
import HandS.HeadEnd
import HandS.HeadHook1
import HandS.HeadHook2
import PySem.Challenge.RW_risingscales_k34_spans_as_sets
set_option Elab.async false
set_option linter.all false
set_option maxRecDepth 100000
set_option maxHeartbeats 4000000
namespace RS
open PySem PySem.Spec PyProof.Rows L2

/-! ### defs, methods, classes by name, all that a call of them wants in one word -/
section
variable (P : Program) (w : World) (K : PySem.W.Frag) (mg : Str → Option Value) (base : Heap) (CX : CXT)
/-- the global def x keeps the promise sp; dvs fill its last parameters -/
structure Cal (lv : Nat) (x : Str) (ps : List Str) (dvs : List V) (sp : Sp) : Prop where
  ex : ∃ (f : Addr) (fd : FuncData) (ds : List Value), FnOk P w K mg base CX lv f fd ps sp ∧ mg x = some (.ref f) ∧ PySem.W.keepIn K (.ref f) = true ∧ Vals dvs ds ∧ Binds K fd ps ds
/-- the method m of the class at C -/
structure Mtd (lv : Nat) (C : Addr) (m : Str) (ps : List Str) (dvs : List V) (sp : Sp) : Prop where
  ex : ∃ (f : Addr) (fd : FuncData) (ds : List Value), FnOk P w K mg base CX lv f fd ps sp ∧ Meth K C m f ∧ Vals dvs ds ∧ Binds K fd ps ds
/-- the class x, at C, made by its __init__ -/
structure Mkr (lv : Nat) (x : Str) (C : Addr) (ps : List Str) (dvs : List V) (sp : Sp) : Prop where
  ex : ∃ (f : Addr) (fd : FuncData) (ds : List Value), FnOk P w K mg base CX lv f fd ps sp ∧ Mk K C f ∧ mg x = some (.ref C) ∧ Vals dvs ds ∧ Binds K fd ps ds
/-- the property m of the class at C -/
structure Prp (lv : Nat) (C : Addr) (m : Str) (ps : List Str) (dvs : List V) (sp : Sp) : Prop where
  ex : ∃ (p f : Addr) (fd : FuncData) (ds : List Value), FnOk P w K mg base CX lv f fd ps sp ∧ PropOf K C m p f ∧ Vals dvs ds ∧ Binds K fd ps ds
/-- the static method m of the class at C -/
structure Stc (lv : Nat) (C : Addr) (m : Str) (ps : List Str) (dvs : List V) (sp : Sp) : Prop where
  ex : ∃ (p f : Addr) (mc : Value) (fd : FuncData) (ds : List Value), FnOk P w K mg base CX lv f fd ps sp ∧ ClX.CRead K C mc ∧
    PySem.W.findCls K (.ref C) mc m = some (.get (.builtin "staticmethod.__get__") (.ref p) .none (.ref C)) ∧ (∃ rest, PySem.W.recIn K p "staticmethod" = some (.ref f :: rest)) ∧
    PySem.W.keepIn K (.ref f) = true ∧ Vals dvs ds ∧ Binds K fd ps ds
end
section
variable {X : Cx} {CX : CXT} {lv : Nat} {x m : Str} {C : Addr} {ps : List Str} {dvs : List V} {sp : Sp} {E : XK} {p pos apos : Pos} {e o : Expr} {es : List Expr} {ta : TE} {t : TA}
theorem pe_fn (F : Cal X.prog X.w X.K X.mg X.base CX lv x ps dvs sp) (hr : Room lv X.A) (hx : Passes CX X E) (ha : PA X (e :: es) t) (hg : Gl X x := by rfl) (hdb : (x == ("__debug__" : Str)) = false := by decide)
    (he : starEach (e :: es) X.env = (false, eval e X.env) :: starEach es X.env := by rfl) (hpl : (backTo pos (starEach es X.env)).any (·.1) = false := by rfl) : PE X (.Call (.Name x p) (e :: es) [] pos) (tCall sp dvs E t) := by
  obtain ⟨f, fd, ds, G, m, k, v, b⟩ := F.ex
  exact pe_call G hr hg m k b v hx ha hdb he hpl
theorem pe_fn0 (F : Cal X.prog X.w X.K X.mg X.base CX lv x ps dvs sp) (hr : Room lv X.A) (hx : Passes CX X E) (hg : Gl X x := by rfl) (hdb : (x == ("__debug__" : Str)) = false := by decide) : PE X (.Call (.Name x p) [] [] pos) (tCall sp dvs E tNil) := by
  obtain ⟨f, fd, ds, G, m, k, v, b⟩ := F.ex
  exact pe_call0 G hr hg m k b v hx hdb
theorem pe_mt {pl : Sem Bool} (c : Cls X.K C) (F : Mtd X.prog X.w X.K X.mg X.base CX lv C m ps dvs sp) (hr : Room lv X.A) (hx : Passes CX X E) (he : PE X o ta) (ha : PA X (e :: es) t)
    (hst : starEach (e :: es) X.env = (false, eval e X.env) :: starEach es X.env := by rfl) (hpl : (backTo pos (starEach es X.env)).any (·.1) = false := by rfl)
    (ht : eval (.Call (.Attribute o m apos) (e :: es) [] pos) X.env = (do
      let ov ← eval o X.env
      standAt apos.atName
      let (f, first) ← holding [ov] (getMethod ov m pl)
      callWith pos f first (backTo pos (starEach (e :: es) X.env)) (backToKw pos (keywordEach [] X.env))) := by rfl) :
    PE X (.Call (.Attribute o m apos) (e :: es) [] pos) (tMeth C m sp dvs E ta t) := by
  obtain ⟨f, fd, ds, G, k, v, b⟩ := F.ex
  exact pe_meth he c k G hr b v hx ha hst hpl ht
theorem pe_mt0 {pl : Sem Bool} (c : Cls X.K C) (F : Mtd X.prog X.w X.K X.mg X.base CX lv C m ps dvs sp) (hr : Room lv X.A) (hx : Passes CX X E) (he : PE X o ta)
    (ht : eval (.Call (.Attribute o m apos) [] [] pos) X.env = (do
      let ov ← eval o X.env
      standAt apos.atName
      let (f, first) ← holding [ov] (getMethod ov m pl)
      callWith pos f first (backTo pos (starEach [] X.env)) (backToKw pos (keywordEach [] X.env))) := by rfl) :
    PE X (.Call (.Attribute o m apos) [] [] pos) (tMeth C m sp dvs E ta tNil) := by
  obtain ⟨f, fd, ds, G, k, v, b⟩ := F.ex
  exact pe_meth0 he c k G hr b v hx ht
theorem pe_mk (F : Mkr X.prog X.w X.K X.mg X.base CX lv x C ps dvs sp) (hr : Room (lv + 1) X.A) (hx : Passes CX X E) (ha : PA X (e :: es) t) (hg : Gl X x := by rfl) (hdb : (x == ("__debug__" : Str)) = false := by decide)
    (he : starEach (e :: es) X.env = (false, eval e X.env) :: starEach es X.env := by rfl) (hpl : (backTo pos (starEach es X.env)).any (·.1) = false := by rfl) : PE X (.Call (.Name x p) (e :: es) [] pos) (tMake C sp dvs E t) := by
  obtain ⟨f, fd, ds, G, k, m, v, b⟩ := F.ex
  exact pe_make k G hr hg m b v hx ha hdb he hpl
theorem pe_pr (c : Cls X.K C) (F : Prp X.prog X.w X.K X.mg X.base CX lv C m ps dvs sp) (hr : Room (lv + 1) X.A) (hx : Passes CX X.nox E) (he : PE X e ta) (hab : attributeBase e m X.env (eval e X.env) = eval e X.env := by rfl) :
    PE X (.Attribute e m pos) (tProp C sp dvs E ta) := by
  obtain ⟨q, f, fd, ds, G, k, v, b⟩ := F.ex
  exact pe_prop he c k G hr b v hx hab
/-- C.m() of a static method -/
theorem pe_st0 {pl : Sem Bool} (F : Stc X.prog X.w X.K X.mg X.base CX lv C m ps dvs sp) (hr : Room lv X.A) (hx : Passes CX X E) (he : PE X o ta)
    (ht : eval (.Call (.Attribute o m apos) [] [] pos) X.env = (do
      let ov ← eval o X.env
      standAt apos.atName
      let (f, first) ← holding [ov] (getMethod ov m pl)
      callWith pos f first (backTo pos (starEach [] X.env)) (backToKw pos (keywordEach [] X.env))) := by rfl) :
    PE X (.Call (.Attribute o m apos) [] [] pos) (fun σ H Q => ta σ H fun z H1 => z = .ref C ∧ sp dvs H1 Q E) := by
  obtain ⟨q, f, mc, fd, ds, G, r, hf, ⟨rest, hrec⟩, kp, v, b⟩ := F.ex
  refine ⟨fun pins s σ H Q I h => ?_⟩
  refine PySem.W.methodCall_KW (pl := pl) (thn (he.run pins s σ H _ I h) fun u s1 ⟨z, H1, I1, rx, ez, q⟩ => ?_) ht
  subst ez
  obtain rfl : u = Value.ref C := rx
  refine PySem.W.method_cls I1.kIn r.ga ?_
  refine PySem.W.cls_bind I1.kIn r.rd hf ?_
  have I2 := I1.tok (s1.toks + 1)
  refine wpAny_call (PySem.W.sm_get (s := { s1 with toks := s1.toks + 1 }) I1.kIn hrec (PySem.W.handed_on rfl ?_))
  exact PySem.W.callWith_K0 (first := []) I2.kIn kp (run_fn (us := []) (vs := []) G hr b v hx I2 .nil (by simpa using q))
end

/-! ### own operators of instances -/
section
variable {X : Cx} {CX : CXT} {lv : Nat} {m : Str} {C : Addr} {ps : List Str} {sp : Sp} {E : XK}
theorem inst_at {pins : List (Addr × Obj)} {σ : L2.St} {H : Hp} {s : Shared} {a C dx : Addr} {fs : List (Str × V)} (I : Inv X pins σ H s) (ea : H a = some (.ins C dx fs)) : ∃ od, PySem.W.InstAt s.heap a (PySem.W.instObj C dx) C (some od) := by
  obtain ⟨mA, O, _, _, _, _⟩ := ins_get I.hok ea
  obtain ⟨od, J, _⟩ := O.look
  exact ⟨od, J⟩
/-- the truth of an instance by its __bool__ (or another def at that name, see hb) -/
def rTruOwn (C : Addr) (sp : Sp) (E : XK) : V → Hp → (Bool → Hp → Prop) → Prop := fun x H Q => ∃ a dx fs, x = .ref a ∧ H a = some (.ins C dx fs) ∧ sp [.ref a] H (fun v H' => ∃ b, v = .bl b ∧ Q b H') E
theorem tru_own (F : Mtd X.prog X.w X.K X.mg X.base CX lv C "__bool__" ps [] sp) (hr : Room lv X.A) (hx : Passes CX X E) : TruR X (rTruOwn C sp E) := by
  intro pins s σ H x v Q I rx h
  obtain ⟨a, dx, fs, rfl, ea, q⟩ := h
  obtain ⟨f, fd, ds, G, k, vd, b⟩ := F.ex
  cases (show v = Value.ref a from rx)
  obtain ⟨od, J⟩ := inst_at I ea
  obtain ⟨mm, hF⟩ := I.fr
  refine PySem.W.truthy_K hF I.ok.mod.kin J k.at_ k.fn ?_
  refine thn (run_fn (us := [.ref a]) (vs := [.ref a]) G hr b vd hx I (.cons rfl .nil) q) fun u s' ⟨z, H', I', rz, bb, ez, qz⟩ => ?_
  subst ez
  cases (show u = Value.bool bb from rz)
  exact ⟨H', I', qz⟩
/-- a name, a call, a field as a test, by its own __bool__ -/
theorem pt_own {a : Expr} {ta : TE} {r : V → Hp → (Bool → Hp → Prop) → Prop} (ht : TruR X r) (ha : PE X a ta) (he : ∀ whole, isTrue a X.env whole = (do let v ← whole; standAt a.pos; holding [v] (truthy v)) := by intro _; rfl) :
    PT X a (fun σ H Q => ta σ H fun x H' => r x H' Q) :=
  ⟨fun pins s σ H Q I h => isTrue_plain (thn (ha.run pins s σ H _ I h) fun v s1 ⟨x, H1, I1, r1, q1⟩ => ht pins s1 σ H1 x v Q I1 r1 q1) (he _)⟩
/-- not a as a value, by a's truth -/
theorem pe_notOwn {a : Expr} {pos : Pos} {ta : TE} {r : V → Hp → (Bool → Hp → Prop) → Prop} (ht : TruR X r) (ha : PE X a ta) : PE X (.UnaryOp .Not a pos) (fun σ H Q => ta σ H fun x H' => r x H' fun b H2 => Q (.bl (!b)) H2) := by
  refine ⟨fun pins s σ H Q I h => ?_⟩
  refine UnaryOp_ (thn (ha.run pins s σ H _ I h) fun v s1 ⟨x, H1, I1, r1, q1⟩ => ?_)
  exact not_of (thn (ht pins s1 σ H1 x v _ I1 r1 q1) fun b s2 ⟨H2, I2, q2⟩ => ⟨.bl (!b), H2, I2, rfl, q2⟩)
/-- x in y, y an instance with its own __contains__ that answers a bool -/
def rInOwn (neg : Bool) (C : Addr) (sp : Sp) (E : XK) : R2 := fun x y H Q => ∃ a dx fs, y = .ref a ∧ H a = some (.ins C dx fs) ∧ sp [.ref a, x] H (fun v H' => ∃ b, v = .bl b ∧ Q (.bl (if neg then !b else b)) H') E
theorem op_inOwn (F : Mtd X.prog X.w X.K X.mg X.base CX lv C "__contains__" ps [] sp) (hr : Room lv X.A) (hx : Passes CX X E) : OpR X (compareOp .In) (rInOwn false C sp E) := by
  intro pins s σ H x y v u Q I rx ry h
  obtain ⟨a, dx, fs, rfl, ea, q⟩ := h
  obtain ⟨f, fd, ds, G, k, vd, b⟩ := F.ex
  cases (show u = Value.ref a from ry)
  obtain ⟨od, J⟩ := inst_at I ea
  obtain ⟨mm, hF⟩ := I.fr
  refine PySem.W.in_K hF I.ok.mod.kin J k.at_ k.fn ?_
  refine thn (run_fn (us := [.ref a, v]) (vs := [.ref a, x]) G hr b vd hx I (.cons rfl (.cons rx .nil)) q) fun u s' ⟨z, H', I', rz, bb, ez, qz⟩ => ?_
  subst ez
  cases (show u = Value.bool bb from rz)
  exact wpAny_truthy_bool ⟨.bl bb, H', I', rfl, qz⟩
theorem op_notInOwn (F : Mtd X.prog X.w X.K X.mg X.base CX lv C "__contains__" ps [] sp) (hr : Room lv X.A) (hx : Passes CX X E) : OpR X (compareOp .NotIn) (rInOwn true C sp E) := by
  intro pins s σ H x y v u Q I rx ry h
  obtain ⟨a, dx, fs, rfl, ea, q⟩ := h
  obtain ⟨f, fd, ds, G, k, vd, b⟩ := F.ex
  cases (show u = Value.ref a from ry)
  obtain ⟨od, J⟩ := inst_at I ea
  obtain ⟨mm, hF⟩ := I.fr
  refine PySem.W.notIn_K hF I.ok.mod.kin J k.at_ k.fn ?_
  refine thn (run_fn (us := [.ref a, v]) (vs := [.ref a, x]) G hr b vd hx I (.cons rfl (.cons rx .nil)) q) fun u s' ⟨z, H', I', rz, bb, ez, qz⟩ => ?_
  subst ez
  cases (show u = Value.bool bb from rz)
  exact wpAny_truthy_bool ⟨.bl (!bb), H', I', rfl, qz⟩
/-- x op y, both instances of the class at C, by C's own def -/
def rBinOwn (C : Addr) (sp : Sp) (E : XK) : R2 := fun x y H Q => ∃ a dx fs b dy gs, x = .ref a ∧ y = .ref b ∧ H a = some (.ins C dx fs) ∧ H b = some (.ins C dy gs) ∧ sp [.ref a, .ref b] H Q E
theorem op_binOwn {op : Operator} (F : Mtd X.prog X.w X.K X.mg X.base CX lv C (PySem.dunder op.info.2) ps [] sp) (hr : Room lv X.A) (hx : Passes CX X E) (hc : PySem.W.selfFirst X.K C = true) : OpR X (binaryOp op) (rBinOwn C sp E) := by
  intro pins s σ H x y v u Q I rx ry h
  obtain ⟨a, dx, fs, b, dy, gs, rfl, rfl, ea, eb, q⟩ := h
  obtain ⟨f, fd, ds, G, k, vd, bb⟩ := F.ex
  cases (show v = Value.ref a from rx)
  cases (show u = Value.ref b from ry)
  obtain ⟨od, J⟩ := inst_at I ea
  obtain ⟨od', J'⟩ := inst_at I eb
  obtain ⟨mm, hF⟩ := I.fr
  refine PySem.W.binop_K hF I.ok.mod.kin J J'.type hc k.at_ k.fn ?_
  exact thn (run_fn (us := [.ref a, .ref b]) (vs := [.ref a, .ref b]) G hr bb vd hx I (.cons rfl (.cons rfl .nil)) q) fun w s' ⟨z, H', I', rz, qz⟩ => SlX.cmpback rz ⟨z, H', I', rz, qz⟩
/-- x == y, x an instance of the class at C with its own __eq__, y anything that is not of a class below C -/
def rEqOwn (K : PySem.W.Frag) (C : Addr) (sp : Sp) (E : XK) : R2 := fun x y H Q => ∃ a dx fs tb, x = .ref a ∧ H a = some (.ins C dx fs) ∧ TyX K H y tb ∧ PySem.W.notFirst K C tb = true ∧ sp [.ref a, y] H Q E
theorem op_eqOwn (F : Mtd X.prog X.w X.K X.mg X.base CX lv C "__eq__" ps [] sp) (hr : Room lv X.A) (hx : Passes CX X E) : OpR X (compareOp .Eq) (rEqOwn X.K C sp E) := by
  intro pins s σ H x y v u Q I rx ry h
  obtain ⟨a, dx, fs, tb, rfl, ea, ty, hn, q⟩ := h
  obtain ⟨f, fd, ds, G, k, vd, bb⟩ := F.ex
  cases (show v = Value.ref a from rx)
  obtain ⟨od, J⟩ := inst_at I ea
  obtain ⟨mm, hF⟩ := I.fr
  obtain ⟨P, Z, p, _⟩ := kit_of I ry ty
  show wpAny _ _ (richCompare .Eq (.ref a) u) _ _ _
  refine PySem.W.cmp_K (op := .Eq) (tb := tb) hr.units0 hF I.ok.mod.kin J (Z.ty _ _ I.kIn p) hn k.at_ k.fn ?_
  exact thn (run_fn (us := [.ref a, u]) (vs := [.ref a, y]) G hr bb vd hx I (.cons rfl (.cons ry .nil)) q) fun w s' ⟨z, H', I', rz, qz⟩ => SlX.cmpback rz ⟨z, H', I', rz, qz⟩
/-- ~x by its own __invert__ -/
def rInvOwn (C : Addr) (sp : Sp) (E : XK) : V → Hp → VK → Prop := fun x H Q => ∃ a dx fs, x = .ref a ∧ H a = some (.ins C dx fs) ∧ sp [.ref a] H Q E
theorem un_invOwn (F : Mtd X.prog X.w X.K X.mg X.base CX lv C "__invert__" ps [] sp) (hr : Room lv X.A) (hx : Passes CX X E) : UnR X (unaryOp .Invert) (rInvOwn C sp E) := by
  intro pins s σ H x v Q I rx h
  obtain ⟨a, dx, fs, rfl, ea, q⟩ := h
  obtain ⟨f, fd, ds, G, k, vd, b⟩ := F.ex
  cases (show v = Value.ref a from rx)
  obtain ⟨od, J⟩ := inst_at I ea
  obtain ⟨mm, hF⟩ := I.fr
  refine PySem.W.ksp_inv hF I.ok.mod.kin J k.at_ k.fn ?_
  exact run_fn (us := [.ref a]) (vs := [.ref a]) G hr b vd hx I (.cons rfl .nil) q
end
end RS

set_option maxRecDepth 100000
set_option maxHeartbeats 4000000
namespace RS
open PySem PySem.Spec PyProof.Rows L2
/-! ### x != y where the class has __eq__ but no __ne__ -/
section
open PySem.W Builtin
variable {prog : Program} {w : World} {A : Around} {E : Value → Shared → Prop} {s : Shared} {K : Frag} {x C f : Addr} {ox : Obj} {od : Option Obj} {b tb : Value}
theorem objNe_K {Q : Fin → Shared → Prop} (hu : A.units < cLine) (X : K.In s.heap) (I : InstAt s.heap x ox C od) (he : findIn K (.ref C) "__eq__" = some (some (.ref f))) (hf : isFn K (.ref f) = true)
    (h : wpAny (model prog w) A (call (.ref f) [.ref x, b]) (fun v s' => ∃ k, v = .bool k ∧ Q (.done (.ret (.bool (!k)))) s') E s) :
    wpAny (model prog w) A (Builtin.«object.__ne__» ⟨[.ref x, b], []⟩) Q E s := by
  unfold Builtin.«object.__ne__»
  repeat (first
    | with_reducible refine wpAny_cRoomFor hu ?_
    | (refine wpAny_bind (m := callSpecialIfBound? (.ref x) (Str.ofString "__eq__") [b])
        (ifBound_K X I he hf (wpAny_mono h (fun r s' hr => by
          obtain ⟨k, rfl, hq⟩ := hr
          repeat (first | exact hq | exact wpAny_pure hq | exact wpAny_truthy_bool hq | (refine wpAny_bind (m := truthy (.bool _)) (wpAny_truthy_bool ?_)) | wp_step)) fun _ _ e => e)))
    | wp_step)
theorem ne_K {Q : Value → Shared → Prop} (hu : A.units + 1 < cLine) (X : K.In s.heap) (I : InstAt s.heap x ox C od) (hb : Looks (model prog w) s.heap (typeOf b) tb) (hn : notFirst K C tb = true)
    (hs : findIn K (.ref C) "__ne__" = some (some (.builtin "object.__ne__"))) (he : findIn K (.ref C) "__eq__" = some (some (.ref f))) (hf : isFn K (.ref f) = true) (hm : mroIn K C (.type "object") = some true)
    (h : wpAny (model prog w) A.in1 (call (.ref f) [.ref x, b]) (fun v s' => ∃ k, v = .bool k ∧ Q (.bool (!k)) s') E s) : wpAny (model prog w) A (richCompare .NotEq (.ref x) b) Q E s := by
  have sub : Looks (model prog w) s.heap (isInstance (.ref x) (.type "object")) true := I.type.andThen (looks_mroIn X hm)
  have one : wpAny (model prog w) A (tryCompare (.ref x) "__ne__" b) (fun r s' => ∃ v, r = some v ∧ Q v s') E s := by
    unfold tryCompare
    refine wpAny_bind (m := callSpecialIfBound? (.ref x) (Str.ofString "__ne__") [b]) ?_
    simp only [callSpecialIfBound?, bindSpecialIfBound?]
    refine wpAny_holding (wpAny_bind (wpAny_bind (wpAny_bind (I.type.here ((looks_findIn X hs).here ?_)))))
    have cal : ∀ (Q' : Option Value → Shared → Prop), (∀ k s', Q (.bool (!k)) s' → Q' (some (.bool (!k))) s') → wpAny (model prog w) A (call (.builtin "object.__ne__") ([.ref x] ++ [b]) >>= fun v => pure (some v)) Q' E s := fun Q' hQ => by
      refine wpAny_bind (wpAny_call (codeAny_call_builtin F.cmp_object.ne.plain F.cmpEntry_ne
        (@check_slot (model prog w) _ _ s "object.__ne__" "object" "__ne__" (.ref x) [b] [] _ F.cmpKind_ne F.cmpSplit_ne sub (F.cmpArgs_ne _ _) (objNe_K (A := A.in1) hu X I he hf (wpAny_mono h (fun v s' hv => ?_) fun _ _ e => e)))))
      obtain ⟨k, rfl, hq⟩ := hv
      exact ⟨k, rfl, wpAny_pure (hQ _ _ hq)⟩
    refine wpAny_bind (wpAny_askSetting (wpAny_ite ?_))
    split
    · exact wpAny_bind (wpAny_of_eq (F.cmp_object.ne.bind _) (wpAny_pure (by exact cal _ fun k s' hq => wpAny_pure ⟨_, rfl, hq⟩)))
    · exact wpAny_tryCatch (wpAny_bind (wpAny_of_eq (F.cmp_object.ne.bind _) (wpAny_pure (by exact cal _ fun k s' hq => wpAny_pure ⟨_, rfl, hq⟩))))
  unfold richCompare
  simp only [oneThing_ref]
  refine wpAny_holding (wpAny_bind (wpAny_cRoomFor (Nat.lt_of_succ_lt hu) ?_))
  refine wpAny_bind (I.type.here (wpAny_bind (hb.here ?_)))
  rw [cmpInfo_NotEq]
  dsimp only
  split
  · rename_i q
    have e : subIn K tb (.ref C) = some false := by
      rcases Bool.or_eq_true_iff.mp hn with e | e
      · rw [beq_iff_eq.mp e] at q; simp at q
      · exact beq_iff_eq.mp e
    refine wpAny_bind ((looks_subIn X e).here ?_)
    simp only [Bool.false_eq_true, if_false]
    refine wpAny_bind (wpAny_mono one (fun r s' z => ?_) fun _ _ e => e)
    obtain ⟨v, rfl, hq⟩ := z
    exact wpAny_pure hq
  · refine wpAny_bind (wpAny_pure ?_)
    simp only [Bool.false_eq_true, if_false]
    refine wpAny_bind (wpAny_mono one (fun r s' z => ?_) fun _ _ e => e)
    obtain ⟨v, rfl, hq⟩ := z
    exact wpAny_pure hq
end
/-- no __ne__ of its own -/
structure NoNe (K : PySem.W.Frag) (C : Addr) : Prop where
  ne : PySem.W.findIn K (.ref C) "__ne__" = some (some (.builtin "object.__ne__"))
  ob : PySem.W.mroIn K C (.type "object") = some true
section
variable {X : Cx} {CX : CXT} {lv : Nat} {m : Str} {C : Addr} {ps : List Str} {sp : Sp} {E : XK}
/-- x != y, x an instance whose class has __eq__ (answering a bool) and no __ne__ -/
def rNeOwn (K : PySem.W.Frag) (C : Addr) (sp : Sp) (E : XK) : R2 := fun x y H Q => ∃ a dx fs tb, x = .ref a ∧ H a = some (.ins C dx fs) ∧ TyX K H y tb ∧ PySem.W.notFirst K C tb = true ∧ sp [.ref a, y] H (fun v H' => ∃ k, v = .bl k ∧ Q (.bl (!k)) H') E
theorem run_in1 {pins : List (Addr × Obj)} {σ : L2.St} {H : Hp} {s : Shared} {Q : VK} {f : Addr} {fd : FuncData} {us : List Value} {vs : List V} (F : FnOk X.prog X.w X.K X.mg X.base CX lv f fd ps sp) (hr : Room (lv + 1) X.A) (hb : Binds X.K fd ps []) (hx : Passes CX X E)
    (I : Inv X pins σ H s) (r : Vals vs us) (h : sp vs H Q E) : wpAny (model X.prog X.w) X.A.in1 (call (.ref f) us) (EP X pins σ Q) X.xe s := by
  have hl : (us ++ []).length = ps.length := by rw [List.append_nil, ← r.length]; exact F.len _ _ _ _ h
  have hb2 := hb s us I.kIn hl
  rw [List.append_nil] at hb2
  refine wpAny_call (codeAny_mono (F.run X.A.in1 X.stack s H ⟨us, []⟩ us vs Q E hr.in1 I.env0.in1 hb2 r h) fun r s' hq => ?_)
  cases r with
  | error e => exact hx pins σ H s e s' I hq
  | ok fl =>
    cases fl with
    | ret u => exact I.after hq
    | next => exact False.elim hq
    | brk => exact False.elim hq
    | cont => exact False.elim hq
theorem op_neOwn (n : NoNe X.K C) (F : Mtd X.prog X.w X.K X.mg X.base CX lv C "__eq__" ps [] sp) (hr : Room (lv + 1) X.A) (hx : Passes CX X E) : OpR X (compareOp .NotEq) (rNeOwn X.K C sp E) := by
  intro pins s σ H x y v u Q I rx ry h
  obtain ⟨a, dx, fs, tb, rfl, ea, ty, hn, q⟩ := h
  obtain ⟨f, fd, ds, G, k, vd, bb⟩ := F.ex
  cases vd
  cases (show v = Value.ref a from rx)
  obtain ⟨od, J⟩ := inst_at I ea
  obtain ⟨P, Z, p, _⟩ := kit_of I ry ty
  show wpAny _ _ (richCompare .NotEq (.ref a) u) _ _ _
  refine ne_K (by have := hr.units; omega) I.kIn J (Z.ty _ _ I.kIn p) hn n.ne k.at_ k.fn n.ob ?_
  refine thn (run_in1 (us := [.ref a, u]) (vs := [.ref a, y]) G hr bb hx I (.cons rfl (.cons ry .nil)) q) fun w s' ⟨z, H', I', rz, kk, ez, qz⟩ => ?_
  subst ez
  exact ⟨kk, rz, .bl (!kk), H', I', rfl, qz⟩
end
/-! ### bool(x) by x's own __bool__ -/
theorem bool_own {prog : Program} {w : World} {A : Around} {E : Value → Shared → Prop} {s : Shared} {x : Addr} {Q : Value → Shared → Prop}
    (ht : wpAny (model prog w) A.in1.in1 (truthy (.ref x)) (fun b s' => Q (.bool b) s') E s) : wpAny (model prog w) A (call (.type "bool") [.ref x]) Q E s := by
  refine callType_codes (T := "bool") (Bi := Builtin.«object.__init__») (Q₁ := fun r s₁ => ∃ k, r = Value.bool k ∧ Q r s₁) PySem.F.called_bool (PySem.F.typeCall_bool_1 _) PySem.F.entry_object_init ?_ ?_
  · refine codeAny_of_tree ?_
    show wpAny _ A.in1.in1 (do checkBuiltinCall "bool.__new__" ⟨[.type "bool", .ref x], []⟩; again (.builtin "bool.__new__" ⟨[.type "bool", .ref x], []⟩)) _ _ s
    refine wpAny_bind (wpAny_of_eq (PySem.F.newCall_bool_1 _) (wpAny_pure ⟨plainId_quiet (by decide +kernel) _, codeAny_builtin PySem.F.entry_bool_new ?_⟩))
    rw [Around.under_plainId (by decide +kernel) _]
    have f1 := PySem.F.conv_sub_bool
    unfold Builtin.«bool.__new__»
    repeat (first | (with_reducible refine wpAny_mono ht (fun b s' hb => ?_) (fun _ _ z => z)) | wp_step)
    exact ⟨b, rfl, hb⟩
  · rintro obj s₁ ⟨k, rfl, hq⟩
    exact ⟨PySem.typeIs_bool _ _, PySem.F.args_object_init_2 _ _, object_init_meets PySem.F.called_bool.init.lookup PySem.F.called_bool.made (by decide) prog w A.in1 _ s₁ ⟨PySem.typeIs_bool _ _, rfl, hq⟩⟩
section
variable {X : Cx} {CX : CXT} {lv : Nat} {m : Str} {C : Addr} {ps : List Str} {sp : Sp} {E : XK}
theorem call_boolOwn (F : Mtd X.prog X.w X.K X.mg X.base CX lv C "__bool__" ps [] sp) (hr : Room (lv + 2) X.A) (hx : Passes CX X E) : CallR X (.type "bool") (fun xs H Q => ∃ x, xs = [x] ∧ rTruOwn C sp E x H fun b H' => Q (.bl b) H') := by
  intro pins s σ H xs us Q I r h
  obtain ⟨x, rfl, a, dx, fs, rfl, ea, q⟩ := h
  obtain ⟨f, fd, ds, G, k, vd, bb⟩ := F.ex
  cases vd
  obtain ⟨u, rfl, ru⟩ := vals1 r
  cases (show u = Value.ref a from ru)
  obtain ⟨od, J⟩ := inst_at I ea
  obtain ⟨mm, hF⟩ := I.fr
  refine bool_own (PySem.W.truthy_K hF I.ok.mod.kin J k.at_ k.fn ?_)
  have hl : (([.ref a] : List Value) ++ []).length = ps.length := (G.len _ _ _ _ q)
  have hb2 := bb s [.ref a] I.kIn hl
  rw [List.append_nil] at hb2
  have hr2 : Room lv X.A.in1.in1 := (show Room (lv + 1) X.A.in1 from Room.in1 hr).in1
  refine wpAny_call (codeAny_mono (G.run X.A.in1.in1 X.stack s H ⟨[.ref a], []⟩ [.ref a] [.ref a] _ E hr2 I.env0.in1.in1 hb2 (.cons rfl .nil) q) fun r s' hq => ?_)
  cases r with
  | error e => exact hx pins σ H s e s' I hq
  | ok fl =>
    cases fl with
    | ret u =>
      obtain ⟨z, H', I', rz, b, ez, qz⟩ := I.after hq
      subst ez
      cases (show u = Value.bool b from rz)
      exact ⟨.bl b, H', I', rfl, qz⟩
    | next => exact False.elim hq
    | brk => exact False.elim hq
    | cont => exact False.elim hq
end
end RS

set_option maxRecDepth 100000
set_option maxHeartbeats 4000000
namespace RS
open PySem PySem.Spec PyProof.Rows L2
/-! ### the second family's source of draws: what its dict holds, and the draw's promise -/
/-- all that was tracked is as it was, but for the object at a -/
def Sav (a : Addr) (H H' : Hp) : Prop := ∀ b o, b ≠ a → H b = some o → H' b = some o
theorem Sav.refl (a : Addr) (H : Hp) : Sav a H H := fun _ _ _ h => h
theorem Sav.trans {a : Addr} {H H1 H2 : Hp} (x : Sav a H H1) (y : Sav a H1 H2) : Sav a H H2 := fun b o n h => y b o n (x b o n h)
theorem Sav.at {a b : Addr} {H H' : Hp} {o : HO} (x : Sav a H H') (n : b ≠ a) (h : H b = some o) : H' b = some o := x b o n h
theorem Sav.new {a p : Addr} {H : Hp} {o : HO} (h : H p = none) : Sav a H (upd H p o) := fun b u _ e => by rw [upd_ne (ne_of_none e h)]; exact e
theorem Sav.own {a : Addr} {H : Hp} {o : HO} : Sav a H (upd H a o) := fun b u n e => by rw [upd_ne n]; exact e
theorem Sav.free {a b : Addr} {H H' : Hp} (x : Sav a H H') (n : b ≠ a) (h : H' b = none) : H b = none := by
  cases q : H b with
  | none => rfl
  | some o => rw [x b o n q] at h; cases h
theorem Same.sav {a : Addr} {H H' : Hp} (x : Same H H') : Sav a H H' := fun b o _ h => x b o h
theorem upd_old {H : Hp} {p q : Addr} {o u : HO} (hp : H p = none) (hq : H q = some o) : upd H p u q = some o := by rw [upd_ne (ne_of_none hq hp)]; exact hq

def penD (c : Addr) (at_ rest : Int) : List (Key × V) := [(.inr "cells", .ref c), (.inr "at", .int at_), (.inr "rest", .int rest)]
theorem ne_ca : ¬ (("cells" : Str) = "at") := by decide +kernel
theorem ne_cr : ¬ (("cells" : Str) = "rest") := by decide +kernel
theorem ne_ar : ¬ (("at" : Str) = "rest") := by decide +kernel
theorem ne_ra : ¬ (("rest" : Str) = "at") := by decide +kernel
theorem pen_cells (c : Addr) (a r : Int) : valV (penD c a r) (Sum.inr "cells") = some (.ref c) := by simp [valV, penD]
theorem pen_at (c : Addr) (a r : Int) : valV (penD c a r) (Sum.inr "at") = some (.int a) := by simp [valV, penD, ne_ca]
theorem pen_rest (c : Addr) (a r : Int) : valV (penD c a r) (Sum.inr "rest") = some (.int r) := by simp [valV, penD, ne_cr, ne_ar]
theorem put_at (c : Addr) (a r z : Int) : putK (penD c a r) (Sum.inr "at") (.int z) = penD c z r := by simp [putK, penD, ne_ca, ne_ra]
theorem put_rest (c : Addr) (a r z : Int) : putK (penD c a r) (Sum.inr "rest") (.int z) = penD c a z := by simp [putK, penD, ne_cr, ne_ar]
section
variable {H : Hp} {p c : Addr} {a r z : Int}
theorem dg_cells (h : H p = some (.dK (penD c a r))) : DGet H p (.str "cells") (some (.ref c)) := by rw [← pen_cells c a r]; exact DGet.k (k := Sum.inr "cells") h
theorem dg_at (h : H p = some (.dK (penD c a r))) : DGet H p (.str "at") (some (.int a)) := by rw [← pen_at c a r]; exact DGet.k (k := Sum.inr "at") h
theorem dg_rest (h : H p = some (.dK (penD c a r))) : DGet H p (.str "rest") (some (.int r)) := by rw [← pen_rest c a r]; exact DGet.k (k := Sum.inr "rest") h
theorem dp_at (h : H p = some (.dK (penD c a r))) : DPut H p (.str "at") (.int z) (upd H p (.dK (penD c z r))) := by
  rw [← put_at c a r z]; exact DPut.k (k := Sum.inr "at") h (by show 3 < sizeLine; rw [sizeLine_eq]; decide)
theorem dp_rest (h : H p = some (.dK (penD c a r))) : DPut H p (.str "rest") (.int z) (upd H p (.dK (penD c a z))) := by
  rw [← put_rest c a r z]; exact DPut.k (k := Sum.inr "rest") h (by show 3 < sizeLine; rw [sizeLine_eq]; decide)
end
/-- a pen stands at p, good for b more draws -/
structure Pen (H : Hp) (p c : Addr) (b : Nat) : Prop where
  ex : ∃ (cs : List Int) (a r : Int), H p = some (.dK (penD c a r)) ∧ H c = some (.lst (cs.map V.int)) ∧ cs.length ≤ 63 ∧ 0 ≤ a ∧ a + b ≤ 2 ^ 60
theorem Pen.mono {H : Hp} {p c : Addr} {b b' : Nat} (x : Pen H p c b) (h : b' ≤ b) : Pen H p c b' := by
  obtain ⟨cs, a, r, h1, h2, h3, h4, h5⟩ := x.ex
  exact ⟨cs, a, r, h1, h2, h3, h4, by omega⟩
theorem Pen.dk {H : Hp} {p c : Addr} {b : Nat} (x : Pen H p c b) : ∃ kvs, H p = some (.dK kvs) := let ⟨_, _, _, h, _⟩ := x.ex; ⟨_, h⟩
/-- what stands at q is not the pen -/
theorem Pen.ne {H : Hp} {p c q : Addr} {b : Nat} {o : HO} (x : Pen H p c b) (h : H q = some o) (d : ∀ kvs, o ≠ .dK kvs) : q ≠ p := by
  obtain ⟨kvs, e⟩ := x.dk
  exact ne_of h e (d kvs)
theorem Pen.fresh_ne {H : Hp} {p c q : Addr} {b : Nat} (x : Pen H p c b) (h : H q = none) : q ≠ p := by
  obtain ⟨kvs, e⟩ := x.dk
  exact (ne_of_none e h).symm
/-- a new object beside it -/
theorem Pen.fresh_ne2 {H : Hp} {p c q : Addr} {b : Nat} (x : Pen H p c b) (h : H q = none) : q ≠ c := by
  obtain ⟨cs, a, r, h1, h2, h3, h4, h5⟩ := x.ex
  exact (ne_of_none h2 h).symm
/-- an object that is neither the pen nor its list is written -/
theorem Pen.mut {H : Hp} {p c q : Addr} {b : Nat} {o : HO} (x : Pen H p c b) (h1 : q ≠ p) (h2 : q ≠ c) : Pen (upd H q o) p c b := by
  obtain ⟨cs, a, r, e1, e2, h3, h4, h5⟩ := x.ex
  exact ⟨cs, a, r, by rw [upd_ne h1.symm]; exact e1, by rw [upd_ne h2.symm]; exact e2, h3, h4, h5⟩
theorem Pen.old {H H' : Hp} {p c : Addr} {b : Nat} (x : Pen H p c b) (k : Same H H') : Pen H' p c b := by
  obtain ⟨cs, a, r, h1, h2, h3, h4, h5⟩ := x.ex
  exact ⟨cs, a, r, k _ _ h1, k _ _ h2, h3, h4, h5⟩
theorem Same.new {H : Hp} {p : Addr} {o : HO} (h : H p = none) : Same H (upd H p o) := fun b u e => by rw [upd_ne (ne_of_none e h)]; exact e
theorem Pen.new {H : Hp} {p c q : Addr} {b : Nat} {o : HO} (x : Pen H p c b) (h : H q = none) : Pen (upd H q o) p c b := x.old (Same.new h)
def spPen (K : PySem.W.Frag) : Sp := fun vs H Q _ => ∃ (a : Addr) (ns : List Int), vs = [.ref a] ∧ SqL K H a (ns.map V.int) ∧ ∀ p c H', Same H H' → H p = none → H c = none → Pen H' p c (2 ^ 59) → Q (.ref p) H'
def spDraw : Sp := fun vs H Q _ => ∃ (p c : Addr) (m : Int) (b : Nat), vs = [.ref p, .int m] ∧ 0 < m ∧ m.natAbs.log2 < 9000 ∧ Pen H p c (b + 1) ∧
  ∀ d H', 0 ≤ d → d < m → Pen H' p c b → Sav p H H' → Q (.int d) H'
theorem dp_ints {K : PySem.W.Frag} {H : Hp} : ∀ cs : List Int, DpAll K H (cs.map V.int) (cs.map PyData.int)
  | [] => .nil
  | c :: cs => .cons (.int c) (dp_ints cs)
theorem shaped_ints (cs : List Int) : SeqAt.shaped (.list (cs.map PyData.int)) = true := PySem.W.shaped_ints cs
theorem eqv_nil (cs : List Int) : (!PyData.eqv (.list (cs.map PyData.int)) (.list [])) = !cs.isEmpty := by cases cs <;> rfl
theorem at_mod {cs : List Int} {a : Int} (h : 0 < cs.length) : ∃ z, atI (cs.map V.int) (a % (((cs.map V.int).length : Nat) : Int)) = some (.int z) := by
  rw [List.length_map]
  have h1 : 0 ≤ a % (cs.length : Int) := Int.emod_nonneg a (by omega)
  have h2 : a % (cs.length : Int) < cs.length := Int.emod_lt_of_pos a (by omega)
  generalize a % (cs.length : Int) = j at *
  obtain ⟨n, rfl⟩ : ∃ n : Nat, j = (n : Int) := ⟨j.toNat, by omega⟩
  have hn : n < cs.length := by omega
  exact ⟨cs[n], atI_nat (by rw [List.getElem?_map, List.getElem?_eq_getElem hn]; rfl)⟩
theorem mul_mod {x y m : Int} (h : 0 < m) (h2 : m < 2 ^ 64) : CMul (x % m) y := .inl ⟨by have := Int.emod_nonneg x (show m ≠ 0 by omega); omega, by have := Int.emod_lt_of_pos x h; omega⟩
theorem Same.mut {H H' : Hp} {p : Addr} {o : HO} (e : Same H H') (h : H p = none) : Same H (upd H' p o) := fun a u ha => by
  rw [upd_ne (ne_of_none ha h)]
  exact e a u ha
theorem cut63 (ns : List Int) : ∃ cs : List Int, cutV (ns.map V.int) none (some 63) = cs.map V.int ∧ cs.length ≤ 63 := by
  refine ⟨ns.take (min 63 ns.length), ?_, by rw [List.length_take]; omega⟩
  show ((ns.map V.int).drop 0).take (HT.sIx (ns.map V.int).length (ns.map V.int).length (some ((63 : Nat) : Int)) - 0) = _
  rw [HT.sIx_nat, List.drop_zero, Nat.sub_zero, List.length_map, List.map_take]
theorem ints_at {cs : List Int} {i : Nat} {x : V} (h : (cs.map V.int)[i]? = some x) : ∃ z, cs[i]? = some z ∧ x = .int z := by
  rw [List.getElem?_map] at h
  cases e : cs[i]? with
  | none => rw [e] at h; cases h
  | some z => rw [e] at h; exact ⟨z, rfl, (Option.some.inj h).symm⟩
theorem take_int {cs : List Int} {i : Nat} {z : Int} (h : cs[i]? = some z) : (cs.take (i + 1)).map V.int = (cs.take i).map V.int ++ [V.int z] := by
  rw [List.take_succ, h, List.map_append]
  rfl
theorem merge_pen (D : Addr) : mergeK [] [(Sum.inr ("cells" : Str), V.ref D), (Sum.inr "at", .int 0), (Sum.inr "rest", .int 0)] = penD D 0 0 := by
  simp [mergeK, putK, penD, ne_ca, ne_cr, ne_ar]
theorem free2 {H : Hp} {p q D : Addr} {o u : HO} (hp : H p = none) (hq : (upd H p o) q = none) (hD : (upd (upd H p o) q u) D = none) : H D = none := by
  have n1 : D ≠ q := fun z => by rw [z, upd_same] at hD; cases hD
  rw [upd_ne n1] at hD
  have n2 : D ≠ p := fun z => by rw [z, upd_same] at hD; cases hD
  rw [upd_ne n2] at hD
  exact hD
theorem mod_in {x m : Int} (h : 0 < m) : 0 ≤ x % m ∧ x % m < m := ⟨Int.emod_nonneg x (by omega), Int.emod_lt_of_pos x h⟩
end RS

set_option maxRecDepth 100000
set_option maxHeartbeats 4000000
namespace RS
open PySem PySem.Spec PyProof.Rows L2 He
/-! ### the head's facts: defs at any path, and any Bool of the fragment -/
abbrev Frg := PySem.W.Frag
/-- a property's getter; a static method's def -/
def prA (K : Frg) (C : Addr) (m : Str) : Addr := match PySem.W.recIn K (ma K C m) "property" with
  | some (.ref g :: _) => g
  | _ => 0
def smA (K : Frg) (C : Addr) (m : Str) : Addr := match PySem.W.recIn K (ma K C m) "staticmethod" with
  | some (.ref g :: _) => g
  | _ => 0
structure DefR where
  adr : Frg → Addr
  name : Str
  qual : Str
  params : Arguments
  body : List Stmt
  scope : Scope
  dfl : List Dv := []
def fnA (K : Frg) (a : Addr) : FnW := match K.lookup a with
  | some ⟨_, _, .func fd, _⟩ => some (fd.name, fd.qualname, fd.params, fd.body, fd.scope, fd.globals, fd.closure, fd.builtins)
  | _ => none
def DefR.val (d : DefR) : FnW := some (d.name, d.qual, d.params, .stmts d.body, d.scope, mainGlobals, [], builtinsNs)
def DefR.dvs (K : Frg) (d : DefR) : List V := d.dfl.map (Dv.v K)
def DefR.ok (K : Frg) (d : DefR) : Bool := PySem.W.keepIn K (.ref (d.adr K)) && (match K.lookup (d.adr K) with
  | some ⟨_, _, .func fd, _⟩ => PySem.W.codeIn K fd.code d.qual && dflB K fd.defaults (d.dvs K)
  | _ => false)
theorem DefR.funD {K : Frg} {d : DefR} (e : fnA K (d.adr K) = d.val) (c : d.ok K = true) : ∃ fd, FunD K d.name d.qual d.params d.body d.scope (d.dvs K) [] (d.adr K) fd := by
  obtain ⟨kp, c2⟩ := ba c
  unfold fnA at e
  cases q : K.lookup (d.adr K) with
  | none =>
    rw [q] at c2
    cases c2
  | some o =>
    obtain ⟨oc, od, dt, osl⟩ := o
    rw [q] at c2 e
    cases dt with
    | func fd =>
      obtain ⟨n1, n2, n3, n4, n5, n6, n7, n8, n9, n10, n11, n12, n13, n14, n15⟩ := fd
      have e2 : (some (n1, n2, n3, n4, n5, n6, n7, n15) : FnW) = some (d.name, d.qual, d.params, .stmts d.body, d.scope, mainGlobals, [], builtinsNs) := e
      simp only [Option.some.injEq, Prod.mk.injEq] at e2
      obtain ⟨h1, h2, h3, h4, h5, h6, h7, h8⟩ := e2
      subst h1 h2 h3 h4 h5 h6 h7 h8
      have c3 : (PySem.W.codeIn K n13 d.qual && dflB K n8 (d.dvs K)) = true := c2
      obtain ⟨k1, k2⟩ := ba c3
      exact ⟨_, ⟨oc, od, n8, n9, n10, n11, n12, n13, n14, osl, rfl, q, k1, dflB_ok k2, .inl rfl⟩, kp⟩
    | _ => cases c2
def asR (g : Addr → Option Obj) : Nat → List Addr
  | 0 => [mainGlobals, cStatics]
  | n + 1 => growD g (asR g n)
abbrev AlR : Type := Bool × List FnW
def obsR (ex : Frg → Bool) (fn : List DefR) (K : Frg) : AlR := (ex K && fn.all fun d => d.ok K, fn.map fun d => fnA K (d.adr K))
def valR (fn : List DefR) : AlR := (true, fn.map DefR.val)
def SaysR (ex : Frg → Bool) (fn : List DefR) (K : Frg) : Prop := obsR ex fn K = valR fn
def obsRG (n : Nat) (ex : Frg → Bool) (fn : List DefR) (g : Addr → Option Obj) : AlR := obsR ex fn (frG g (asR g n))
def hookR (n : Nat) (ex : Frg → Bool) (fn : List DefR) : PySem.W.Hook where
  α := AlR
  obs := fun s => obsRG n ex fn s.heap.get?
  val := fun _ => valR fn
  says := fun _ h => ∃ K : Frg, K.In h ∧ SaysR ex fn K
  of := fun _ _ e => ⟨_, frG_in, e⟩
  keeps := fun _ _ _ ⟨K, hK, c⟩ k => ⟨K, PySem.W.Frag.In.keeps hK k, c⟩
theorem obsRG_eq {n : Nat} {ex : Frg → Bool} {fn : List DefR} {g : Addr → Option Obj} {s : Shared} (h : ∀ a, g a = s.heap.get? a) : obsRG n ex fn g = (hookR n ex fn).obs s := by
  have e : g = s.heap.get? := funext h
  rw [e] <;> rfl
section
variable {ex : Frg → Bool} {fn : List DefR} {K : Frg}
theorem SaysR.more (c : SaysR ex fn K) : ex K = true := (ba (show (ex K && fn.all fun d => d.ok K) = true from congrArg (fun z : AlR => z.1) c)).1
theorem SaysR.def_ (c : SaysR ex fn K) (i : Nat) {d : DefR} (h : fn[i]? = some d := by rfl) : ∃ fd, FunD K d.name d.qual d.params d.body d.scope (d.dvs K) [] (d.adr K) fd := by
  have c2 := (ba (show (ex K && fn.all fun d => d.ok K) = true from congrArg (fun z : AlR => z.1) c)).2
  have e : fn.map (fun d => fnA K (d.adr K)) = fn.map DefR.val := congrArg (fun z : AlR => z.2) c
  have e2 : (fn.map fun d => fnA K (d.adr K))[i]? = (fn.map DefR.val)[i]? := by rw [e]
  rw [List.getElem?_map, List.getElem?_map, h] at e2
  exact DefR.funD (Option.some.inj e2) (List.all_eq_true.mp c2 d (List.mem_of_getElem? h))
end
/-! ### facts as Bools -/
def freeB (K : Frg) (x : Str) : Bool := (Fa.free x).ok K
def gloB (K : Frg) (x : Str) : Bool := (Fa.glo x).ok K
def clsB (K : Frg) (x : Str) : Bool := (Fa.cls x).ok K
def noatB (K : Frg) (x f : Str) : Bool := (Fa.noat x f).ok K
def methB (K : Frg) (x f : Str) : Bool := (Fa.meth x f).ok K
def mkrB (K : Frg) (x : Str) : Bool := (Fa.mkr x).ok K
def prpB (K : Frg) (x m : Str) : Bool := eqO (PySem.W.findIn K (.ref (ga K x)) m) (some (some (.ref (ma K (ga K x) m)))) &&
  (eqO (PySem.W.specialIn K (.ref (ma K (ga K x) m)) "__get__") (some (some (.builtin "property.__get__"))) && (decide (PySem.W.takesIn K (.ref (ma K (ga K x) m)) = some true) &&
  (match PySem.W.recIn K (ma K (ga K x) m) "property" with
  | some (.ref g :: _) => decide (g = prA K (ga K x) m)
  | _ => false)))
theorem prpB_ok {K : Frg} {x m : Str} (h : prpB K x m = true) : PropOf K (ga K x) m (ma K (ga K x) m) (prA K (ga K x) m) := by
  obtain ⟨h1, h⟩ := ba h
  obtain ⟨h2, h⟩ := ba h
  obtain ⟨h3, h4⟩ := ba h
  refine ⟨eqO_ok h1, eqO_ok h2, of_decide_eq_true h3, ?_⟩
  split at h4
  · rename_i g rest e
    exact ⟨rest, by rw [e, of_decide_eq_true h4]⟩
  · cases h4
/-- attributes of the class x are read in the plain way -/
def crdB (K : Frg) (x : Str) : Bool := PySem.W.readsIn K (ga K x) (.type "type") && eqO (PySem.W.specialIn K (.ref (ga K x)) "__getattribute__") (some (some (.builtin "type.__getattribute__")))
theorem crdB_ok {K : Frg} {x : Str} (h : crdB K x = true) : ClX.CRead K (ga K x) (.type "type") := by
  obtain ⟨h1, h2⟩ := ba h
  exact ⟨h1, eqO_ok h2⟩
def stcB (K : Frg) (x m : Str) : Bool := (match PySem.W.findCls K (.ref (ga K x)) (.type "type") m with
  | some (.get (.builtin i) (.ref p) .none (.ref C)) => decide (i = "staticmethod.__get__") && (decide (p = ma K (ga K x) m) && decide (C = ga K x))
  | _ => false) && (match PySem.W.recIn K (ma K (ga K x) m) "staticmethod" with
  | some (.ref g :: _) => decide (g = smA K (ga K x) m)
  | _ => false)
theorem stcB_ok {K : Frg} {x m : Str} (h : stcB K x m = true) : PySem.W.findCls K (.ref (ga K x)) (.type "type") m = some (.get (.builtin "staticmethod.__get__") (.ref (ma K (ga K x) m)) .none (.ref (ga K x))) ∧
    ∃ rest, PySem.W.recIn K (ma K (ga K x) m) "staticmethod" = some (.ref (smA K (ga K x) m) :: rest) := by
  obtain ⟨h1, h2⟩ := ba h
  constructor
  · split at h1
    · rename_i i p C e
      obtain ⟨a, b⟩ := ba h1
      obtain ⟨b, c⟩ := ba b
      rw [e, of_decide_eq_true a, of_decide_eq_true b, of_decide_eq_true c]
    · cases h1
  · split at h2
    · rename_i g rest e
      exact ⟨rest, by rw [e, of_decide_eq_true h2]⟩
    · cases h2
/-- what isinstance asks of an instance of the class x -/
structure IsiC (K : Frg) (C : Addr) : Prop where
  cl : Cls K C
  ca : PySem.W.findIn K (.ref C) "__class__" = some (some (.builtin "object.__class__"))
  cn : PySem.W.specialIn K (.builtin "object.__class__") "__get__" = some (some (.builtin "getset_descriptor.__get__"))
  ct : PySem.W.takesIn K (.builtin "object.__class__") = some true
  cm : PySem.W.mroIn K C (.type "object") = some true
def isiB (K : Frg) (x : Str) : Bool := clsB K x && (eqO (PySem.W.findIn K (.ref (ga K x)) "__class__") (some (some (.builtin "object.__class__"))) &&
  (eqO (PySem.W.specialIn K (.builtin "object.__class__") "__get__") (some (some (.builtin "getset_descriptor.__get__"))) && (decide (PySem.W.takesIn K (.builtin "object.__class__") = some true) && decide (PySem.W.mroIn K (ga K x) (.type "object") = some true))))
theorem isiB_ok {K : Frg} {x : Str} (h : isiB K x = true) : IsiC K (ga K x) := by
  obtain ⟨h0, h⟩ := ba h
  obtain ⟨h1, h⟩ := ba h
  obtain ⟨h2, h⟩ := ba h
  obtain ⟨h3, h4⟩ := ba h
  exact ⟨cls_ok h0, eqO_ok h1, eqO_ok h2, of_decide_eq_true h3, of_decide_eq_true h4⟩
theorem IsiC.ty {K : Frg} {C : Addr} (c : IsiC K C) {H : Hp} {a dx : Addr} {fs : List (Str × V)} (e : H a = some (.ins C dx fs)) : TyX K H (.ref a) (.ref C) := .base (.ins e c.cl c.ca c.cn c.ct c.cm)
def neB (K : Frg) (x : Str) : Bool := eqO (PySem.W.findIn K (.ref (ga K x)) "__ne__") (some (some (.builtin "object.__ne__"))) && decide (PySem.W.mroIn K (ga K x) (.type "object") = some true)
theorem neB_ok {K : Frg} {x : Str} (h : neB K x = true) : NoNe K (ga K x) := by
  obtain ⟨h1, h2⟩ := ba h
  exact ⟨eqO_ok h1, of_decide_eq_true h2⟩
def kitB1 (K : Frg) (t c : Value) (b : Bool) : Bool := decide (PySem.W.kitOne K t c = some b)
end RS

set_option maxRecDepth 100000
set_option maxHeartbeats 4000000
namespace RS
open PySem PySem.Spec PyProof.Rows L2
/-! ### spans: the data, the mathematics, the promises -/
def oV : Option Int → V
  | none => .non
  | some i => .int i
def oD : Option Int → PyData
  | none => .none
  | some i => .int i
def spSome : Option Int → Option Int → Bool
  | some a, some b => decide (a ≤ b)
  | _, _ => true
def spLow (lo hi : Option Int) : Option Int := if spSome lo hi = true then lo else none
def spHigh (lo hi : Option Int) : Option Int := if spSome lo hi = true then hi else none
def hasO (lo hi : Option Int) (n : Int) : Bool := (match lo with | none => true | some a => decide (a ≤ n)) && (match hi with | none => true | some b => decide (n ≤ b))
theorem kSE : ¬ (("some" : Str) = "ends") := by decide +kernel
def flS (s : Bool) (t : Addr) : List (Str × V) := putF "ends" (.ref t) (putF "some" (.bl s) [])
theorem flS_some (s : Bool) (t : Addr) : (flS s t).lookup ("some" : Str) = some (.bl s) := by unfold flS; rw [lookup_putF, if_neg kSE, lookup_putF, if_pos rfl]
theorem flS_ends (s : Bool) (t : Addr) : (flS s t).lookup ("ends" : Str) = some (.ref t) := by unfold flS; rw [lookup_putF, if_pos rfl]
/-- a span made from two ends stands at p -/
structure SpanAt (C : Addr) (H : Hp) (p : Addr) (lo hi : Option Int) : Prop where
  ex : ∃ dx t, H p = some (.ins C dx (flS (spSome lo hi) t)) ∧ H t = some (.tup [oV (spLow lo hi), oV (spHigh lo hi)])
theorem SpanAt.old {C : Addr} {H H' : Hp} {p : Addr} {lo hi : Option Int} (x : SpanAt C H p lo hi) (k : Same H H') : SpanAt C H' p lo hi := by
  obtain ⟨dx, t, h1, h2⟩ := x.ex
  exact ⟨dx, t, k _ _ h1, k _ _ h2⟩
theorem SpanAt.sav {C : Addr} {H H' : Hp} {p q c : Addr} {b : Nat} {lo hi : Option Int} (x : SpanAt C H p lo hi) (P : Pen H q c b) (k : Sav q H H') : SpanAt C H' p lo hi := by
  obtain ⟨dx, t, h1, h2⟩ := x.ex
  exact ⟨dx, t, k.at (P.ne h1 (fun _ z => by cases z)) h1, k.at (P.ne h2 (fun _ z => by cases z)) h2⟩
/-- what is_whole says of a value -/
structure WhV (K : Frg) (H : Hp) (v : V) (b : Bool) : Prop where
  ex : ∃ (n : String) (b1 b2 : Bool), TyX K H v (.type n) ∧ kitB n "int" = some b1 ∧ kitB n "bool" = some b2 ∧ b = (b1 && !b2)
theorem WhV.int {K : Frg} {H : Hp} (i : Int) : WhV K H (.int i) true := ⟨"int", true, false, .base (.int i), by decide +kernel, by decide +kernel, rfl⟩
theorem WhV.bl {K : Frg} {H : Hp} (i : Bool) : WhV K H (.bl i) false := ⟨"bool", true, true, .base (.bl i), by decide +kernel, by decide +kernel, rfl⟩
theorem WhV.non {K : Frg} {H : Hp} : WhV K H .non false := ⟨"NoneType", false, false, .base .non, by decide +kernel, by decide +kernel, rfl⟩
theorem WhV.str {K : Frg} {H : Hp} (i : Str) : WhV K H (.str i) false := ⟨"str", false, false, .base (.str i), by decide +kernel, by decide +kernel, rfl⟩
theorem WhV.lst {K : Frg} {H : Hp} {a : Addr} {xs : List V} (e : H a = some (.lst xs)) : WhV K H (.ref a) false := ⟨"list", false, false, .base (.lst e), by decide +kernel, by decide +kernel, rfl⟩
theorem WhV.tup {K : Frg} {H : Hp} {a : Addr} {xs : List V} (e : H a = some (.tup xs)) : WhV K H (.ref a) false := ⟨"tuple", false, false, .base (.tup e), by decide +kernel, by decide +kernel, rfl⟩
def spWhole (K : Frg) : Sp := fun vs H Q _ => ∃ v b, vs = [v] ∧ WhV K H v b ∧ Q (.bl b) H
def spSInit (C : Addr) : Sp := fun vs H Q _ => ∃ (p dx : Addr) (lo hi : Option Int), vs = [.ref p, oV lo, oV hi] ∧ H p = some (.ins C dx []) ∧
  ∀ H', (∀ b o, H b = some o → b ≠ p → H' b = some o) → SpanAt C H' p lo hi → Q .non H'
/-- Span(lo, hi) -/
theorem mkSpan {C : Addr} {H : Hp} {Q : VK} {E : XK} (lo hi : Option Int) (k : ∀ x H', Same H H' → H x = none → SpanAt C H' x lo hi → Q (.ref x) H') :
    ∀ x dx, H x = none → H dx = none → dx ≠ x → spSInit C (.ref x :: ([oV lo, oV hi] ++ [])) (upd (upd H dx (.own x)) x (.ins C dx [])) (fun v H2 => v = .non ∧ Q (.ref x) H2) E := fun x dx nx nd ne =>
  ⟨x, dx, lo, hi, rfl, upd_same, fun H' s S => ⟨rfl, k x H' (Same.made nx nd s) nx S⟩⟩
def spSBool (C : Addr) : Sp := fun vs H Q _ => ∃ (p : Addr) (lo hi : Option Int), vs = [.ref p] ∧ SpanAt C H p lo hi ∧ Q (.bl (spSome lo hi)) H
def spSLow (C : Addr) : Sp := fun vs H Q _ => ∃ (p : Addr) (lo hi : Option Int), vs = [.ref p] ∧ SpanAt C H p lo hi ∧ Q (oV (spLow lo hi)) H
def spSHigh (C : Addr) : Sp := fun vs H Q _ => ∃ (p : Addr) (lo hi : Option Int), vs = [.ref p] ∧ SpanAt C H p lo hi ∧ Q (oV (spHigh lo hi)) H
def spSHas (K : Frg) (C : Addr) : Sp := fun vs H Q _ => ∃ (p : Addr) (v : V) (lo hi : Option Int), vs = [.ref p, v] ∧ SpanAt C H p lo hi ∧
  ((∃ n, v = .int n ∧ Q (.bl (spSome lo hi && hasO lo hi n)) H) ∨ (WhV K H v false ∧ Q (.bl false) H))
def spEqB (lo hi lo2 hi2 : Option Int) : Bool := (spSome lo hi == spSome lo2 hi2) && (decide (spLow lo hi = spLow lo2 hi2) && decide (spHigh lo hi = spHigh lo2 hi2))
def spSEq (K : Frg) (C : Addr) : Sp := fun vs H Q _ => ∃ (p : Addr) (v : V) (lo hi : Option Int), vs = [.ref p, v] ∧ SpanAt C H p lo hi ∧
  ((∃ q lo2 hi2, v = .ref q ∧ SpanAt C H q lo2 hi2 ∧ Q (.bl (spEqB lo hi lo2 hi2)) H) ∨ (∃ t, TyX K H v t ∧ PySem.W.kitOne K t (.ref C) = some false ∧ Q (.bl false) H))
def upO (a b : Option Int) : Option Int := match a, b with
  | none, b => b
  | some a, some b => if a < b then some b else some a
  | some a, none => some a
def dnO (a b : Option Int) : Option Int := match a, b with
  | none, b => b
  | some a, some b => if b < a then some b else some a
  | some a, none => some a
def andLo (lo hi lo2 hi2 : Option Int) : Option Int := if spSome lo hi = true ∧ spSome lo2 hi2 = true then upO lo lo2 else some 1
def andHi (lo hi lo2 hi2 : Option Int) : Option Int := if spSome lo hi = true ∧ spSome lo2 hi2 = true then dnO hi hi2 else some 0
def spSAnd (C : Addr) : Sp := fun vs H Q _ => ∃ (p q : Addr) (lo hi lo2 hi2 : Option Int), vs = [.ref p, .ref q] ∧ SpanAt C H p lo hi ∧ SpanAt C H q lo2 hi2 ∧
  ∀ x H', Same H H' → H x = none → SpanAt C H' x (andLo lo hi lo2 hi2) (andHi lo hi lo2 hi2) → Q (.ref x) H'
def spSNew (C : Addr) (lo hi : Option Int) : Sp := fun vs H Q _ => vs = [] ∧ ∀ x H', Same H H' → H x = none → SpanAt C H' x lo hi → Q (.ref x) H'
theorem eqv_oD (a b c d : Option Int) : PyData.eqv (.tuple [oD a, oD b]) (.tuple [oD c, oD d]) = (decide (a = c) && decide (b = d)) := by
  rw [Bool.eq_iff_iff]
  cases a <;> cases b <;> cases c <;> cases d <;> simp [oD, PyData.eqv, PyData.eqvAll]
theorem dp_oV {K : Frg} {H : Hp} (a : Option Int) : Dp K H (oV a) (oD a) := by cases a <;> constructor
theorem shaped_oD (a b : Option Int) : SeqAt.shaped (.tuple [oD a, oD b]) = true := by cases a <;> cases b <;> rfl
end RS

set_option maxRecDepth 100000
set_option maxHeartbeats 4000000
namespace RS
open PySem PySem.Spec PyProof.Rows L2
def top (i : Nat) : Stmt := PySem.Challenge.pw_risingscales_k34_spans_as_sets.main.body.getD i (.Pass ⟨0, 0, 0, 0⟩)
abbrev FnP (K : PySem.W.Frag) (x qual : Str) (st : Stmt) (f : Addr) (fd : FuncData) : Prop := FunD K x qual (defArgs st) (defBody st) (defScope st) [] [] f fd
section
variable {P : Program} {w : World} {K : PySem.W.Frag} {mg : Str → Option Value} {base : Heap}
structure TPen (mg : Str → Option Value) : Prop where
  b_int : mg "int" = none
  b_len : mg "len" = none
abbrev s__law_pen : Stmt := top 5
theorem sc__law_pen : FnScope ["_law_script", "_law_cell"] ["_law_script"] (defScope s__law_pen) := ⟨rfl, rfl, rfl, by decide +kernel, rfl, by decide +kernel, by decide +kernel⟩
theorem ok_pen {f : Addr} {fd : FuncData} (F : FnP K "_law_pen" "_law_pen" s__law_pen f fd) (T : TPen mg) : FnOk P w K mg base CX0 1 f fd ["_law_script"] (spPen K) := by
  refine F.ok sc__law_pen (fun vs H Q E h => ?_) (fun cdv A outer s H vs Q E hr h => ?_)
  · obtain ⟨a, ns, rfl, _⟩ := h
    rfl
  · obtain ⟨a, ns, rfl, hS, k⟩ := h
    refine ⟨_, PSs.nox (pss_one (ps_ret (pe_disp (pps_cons pe_str (pe_lc (own := [("_law_cell", 1)]) (by rfl) sc__law_pen.nd (pi_list (pe_slice sl_list (pv 0) po_none (po_some pe_int))) (blkOk_by (own := [("_law_cell", 1)]) (N := ["_law_script", "_law_cell"]) (sc := defScope s__law_pen) (by decide +kernel)) (fun _ _ _ _ _ => (pg_name (i := 1) sc__law_pen.nd rfl (by first | exact Or.inl rfl | exact Or.inr rfl))) (fun _ _ _ _ _ => pts_nil) (fun _ _ _ _ _ => (pe_callTy call_int1 (by rfl) T.b_int (by decide +kernel) (pa_cons (pv 1) pa_nil)))) (pps_cons pe_str pe_int (pps_cons pe_str pe_int pps_nil))) (by rfl) (by rfl) (fun z => by cases z) (by decide)))), ?_⟩
    intro p hp
    have hS1 : SqL K (upd H p (.dK [])) a (ns.map V.int) := (Same.new hp).seq hS
    refine ⟨_, rfl, _, rfl, a, _, rfl, hS1, fun q hq => ?_⟩
    have hq1 : (upd (upd H p (.dK [])) q (.lst (cutV (ns.map V.int) none (some 63)))) q = some (.lst (cutV (ns.map V.int) none (some 63))) := upd_same
    obtain ⟨cs, hcs, hlen⟩ := cut63 ns
    rw [hcs] at hq1 ⊢
    refine ⟨_, rfl, ⟨_, SqL.of hq1⟩, fun D hD => lc_list (K := K) (a := q) (xs := cs.map V.int) (fun i H' => H' D = some (.lst ((cs.take i).map V.int)) ∧ Same (upd (upd H p (.dK [])) q (.lst (cs.map V.int))) H') ⟨upd_same, Same.new hD⟩ (fun i H' _ ⟨_, s⟩ => SqL.of (s _ _ hq1)) ?_ ?_⟩
    · rintro i x H' hi ⟨e1, e2⟩
      obtain ⟨z, hz, rfl⟩ := ints_at hi
      refine ⟨rfl, ?_⟩
      refine ⟨_, rfl, .inl ⟨_, rfl, _, e1, (by rw [List.length_map, List.length_take, sizeLine_eq]; omega), ?_, ?_⟩⟩
      · rw [take_int hz]; exact upd_same
      · exact RS.Same.mut e2 hD
    · rintro H' ⟨e1, e2⟩
      rw [List.length_map, List.take_length] at e1
      have hpp := e2 _ _ (upd_old hq (upd_same (H := H) (a := p) (o := .dK [])))
      refine ⟨hpp, [(.inr "cells", .ref D), (.inr "at", .int 0), (.inr "rest", .int 0)], rfl, by show 3 ≤ 15; decide, ?_⟩
      have npD : p ≠ D := fun z => by rw [z] at hpp; rw [hpp] at e1; cases e1
      refine k _ D _ (fun b o e => ?_) hp (free2 hp hq hD) ⟨cs, 0, 0, ?_, by rw [upd_ne npD.symm]; exact e1, hlen, by decide, by decide⟩
      · rw [upd_ne (ne_of_none e hp)]
        exact e2 _ _ (upd_old hq (upd_old hp e))
      · rw [upd_same, merge_pen]
abbrev s__law_draw : Stmt := top 6
theorem sc__law_draw : FnScope ["_law_pen_here", "_law_many", "_law_at", "_law_cell", "_law_mixed", "_law_digit"] ["_law_pen_here", "_law_many"] (defScope s__law_draw) := ⟨rfl, rfl, rfl, by decide +kernel, rfl, by decide +kernel, by decide +kernel⟩
theorem ok_draw {f : Addr} {fd : FuncData} (F : FnP K "_law_draw" "_law_draw" s__law_draw f fd) (T : TPen mg) : FnOk P w K mg base CX0 1 f fd ["_law_pen_here", "_law_many"] spDraw := by
  refine F.ok sc__law_draw (fun vs H Q E h => ?_) (fun cdv A outer s H vs Q E hr h => ?_)
  · obtain ⟨a, c, ns, b, rfl, _⟩ := h
    rfl
  · obtain ⟨p, c, m, b, rfl, hm, hm2, P, k⟩ := h
    obtain ⟨cs, a, r, hp, hc, hl, h0, h1⟩ := P.ex
    have hu := hu_of hr
    refine ⟨_, PSs.nox (pss_cons (ps_if (pt_cmpR op_gt (pe_dget hu (pv 0) pe_str (fun _ _ => rfl)) pe_int (nomark _)) (pss_cons (ps_set (i := 5) sc__law_draw.nd rfl (by first | exact Or.inl rfl | exact Or.inr rfl) (pe_op op_mod (pe_callTy call_int1 (by rfl) T.b_int (by decide +kernel) (pa_cons (pe_dget hu (pv 0) pe_str (fun _ _ => rfl)) pa_nil)) (pv 1)))
      (pss_cons (ps_dput hu (pv 0) pe_str (pe_op op_fdivW (pe_dget hu (pv 0) pe_str (fun _ _ => rfl)) (pv 1)) rfl)
      (pss_one (ps_ret (pv 5))))) pss_nil)
      (pss_cons (ps_set (i := 2) sc__law_draw.nd rfl (by first | exact Or.inl rfl | exact Or.inr rfl) (pe_dget hu (pv 0) pe_str (fun _ _ => rfl)))
      (pss_cons (ps_dput hu (pv 0) pe_str (pe_op op_add (pv 2) pe_int) rfl)
      (pss_cons (ps_set (i := 3) sc__law_draw.nd rfl (by first | exact Or.inl rfl | exact Or.inr rfl) (pe_op op_add (pe_op op_mul pe_int (pv 2)) pe_int))
      (Evl.pss_cut (ps_if (pt_cmpR (op_neD hr.units) (pe_dget hu (pv 0) pe_str (fun _ _ => rfl)) (pe_lst pa_nil) (nomark _)) (pss_one (ps_set (i := 3) sc__law_draw.nd rfl (by first | exact Or.inl rfl | exact Or.inr rfl) (pe_ix ix_list (pe_dget hu (pv 0) pe_str (fun _ _ => rfl)) (pe_op op_mod (pe_callTy call_int1 (by rfl) T.b_int (by decide +kernel) (pa_cons (pv 2) pa_nil)) (pe_callB call_len (by rfl) T.b_len PySem.boot_len (pa_cons (pe_dget hu (pv 0) pe_str (fun _ _ => rfl)) pa_nil))) (fun _ _ => rfl)))) pss_nil)
      (Evl.pss_cut (ps_if (PW.pt (pw_and (pt_cmpR op_lt (pv 2) (pe_callB call_len (by rfl) T.b_len PySem.boot_len (pa_cons (pe_dget hu (pv 0) pe_str (fun _ _ => rfl)) pa_nil)) (nomark _)) (pw_and1 (pt_cmpR op_ge (pv 3) (pe_op op_pow pe_int pe_int) (nomark _))))) (pss_cons (ps_dput hu (pv 0) pe_str (pe_op op_fdivW (pe_op op_sub (pv 3) (pe_op op_pow pe_int pe_int)) (pv 1)) rfl)
      (pss_one (ps_ret (pe_op op_mod (pe_callTy call_int1 (by rfl) T.b_int (by decide +kernel) (pa_cons (pe_op op_sub (pv 3) (pe_op op_pow pe_int pe_int)) pa_nil)) (pv 1))))) pss_nil)
      (pss_cons (ps_set (i := 4) sc__law_draw.nd rfl (by first | exact Or.inl rfl | exact Or.inr rfl) (pe_op op_add (pe_op op_add (pe_op op_add (pe_op op_mul (pe_op op_mod (pe_callTy call_int1 (by rfl) T.b_int (by decide +kernel) (pa_cons (pv 3) pa_nil)) pe_int) pe_int) (pe_op op_mul (pe_op op_mul pe_int (pv 2)) (pv 2))) (pe_op op_mul pe_int (pv 2))) pe_int))
      (pss_cons (ps_set (i := 4) sc__law_draw.nd rfl (by first | exact Or.inl rfl | exact Or.inr rfl) (pe_op op_mod (pe_callTy call_int1 (by rfl) T.b_int (by decide +kernel) (pa_cons (pv 4) pa_nil)) pe_int))
      (pss_cons (ps_set (i := 4) sc__law_draw.nd rfl (by first | exact Or.inl rfl | exact Or.inr rfl) (pe_op op_mod (pe_callTy call_int1 (by rfl) T.b_int (by decide +kernel) (pa_cons (pe_op op_mul (pv 4) (pe_op op_add (pv 4) pe_int)) pa_nil)) pe_int))
      (pss_one (ps_ret (pe_op op_mod (pe_callTy call_int1 (by rfl) T.b_int (by decide +kernel) (pa_cons (pe_op op_fdivW (pe_op op_mod (pe_callTy call_int1 (by rfl) T.b_int (by decide +kernel) (pa_cons (pe_op op_mul (pv 4) (pv 4)) pa_nil)) pe_int) pe_int) pa_nil)) (pv 1))))))))))))), ?_⟩
    -- if pen["rest"] > 0
    refine ⟨_, rfl, p, _, rfl, dg_rest hp, _, _, rfl, rfl, _, rfl, ?_⟩
    refine ite2 (fun hr0 => ?_) (fun _ => ?_)
    · refine ⟨_, rfl, p, _, rfl, dg_rest hp, .inl ⟨_, rfl, _, rfl, _, _, rfl, rfl, hm, ?_⟩⟩
      refine ⟨_, rfl, p, _, rfl, dg_rest hp, _, rfl, _, _, rfl, rfl, ⟨hm, hm2⟩, _, rfl, p, _, rfl, dp_rest hp, ?_⟩
      exact ⟨_, rfl, k _ _ (mod_in hm).1 (mod_in hm).2 ⟨cs, a, _, upd_same, by rw [upd_ne (ne_of hc hp (by intro z; cases z))]; exact hc, hl, h0, by omega⟩ Sav.own⟩
    · refine ⟨_, rfl, p, _, rfl, dg_at hp, _, rfl, _, _, rfl, rfl, _, rfl, p, _, rfl, dp_at hp, _, rfl, _, _, rfl, rfl, .inl ⟨by decide, by decide⟩, _, _, rfl, rfl, ?_⟩
      have hc1 : (upd H p (.dK (penD c (a + 1) r))) c = some (.lst (cs.map V.int)) := by rw [upd_ne (ne_of hc hp (by intro z; cases z))]; exact hc
      -- cell
      refine ⟨fun σ' H' => ∃ z : Int, σ' = [some (.ref p), some (.int m), some (.int a), some (.int z), none, none] ∧ Same (upd H p (.dK (penD c (a + 1) r))) H', ?_, ?_⟩
      · refine ⟨_, rfl, p, _, rfl, dg_cells upd_same, by decide, fun l hl2 => ?_⟩
        have S1 := Same.new (o := .lst []) hl2
        have hp2 := S1 _ _ (upd_same (H := H) (a := p) (o := .dK (penD c (a + 1) r)))
        have hc2 := S1 _ _ hc1
        refine ⟨.list (cs.map PyData.int), .list [], .lst (SqL.of hc2) (dp_ints cs), .lst (SqL.of upd_same) .nil, shaped_ints cs, by decide, _, rfl, ?_⟩
        rw [eqv_nil]
        refine ite2 (fun hn => ?_) (fun hn => ?_)
        · have hpos : 0 < cs.length := by cases cs with | nil => cases hn | cons _ _ => exact Nat.succ_pos _
          obtain ⟨z, hz⟩ := at_mod (a := a) hpos
          refine ⟨_, rfl, p, _, rfl, dg_cells hp2, _, rfl, .inl ⟨_, rfl, _, rfl, p, _, rfl, dg_cells hp2, _, _, rfl, .inl ⟨_, SqL.of hc2, rfl⟩, _, _, rfl, rfl, by rw [List.length_map]; omega, _, _, _, _, rfl, rfl, SqL.of hc2, hz, ?_⟩⟩
          exact ⟨z, rfl, S1⟩
        · exact ⟨_, rfl, S1⟩
      · rintro σ' H' ⟨z, rfl, S⟩
        have hp' := S _ _ (upd_same (H := H) (a := p) (o := .dK (penD c (a + 1) r)))
        have hc' := S _ _ hc1
        have Sv : Sav p H H' := Sav.own.trans (Same.sav S)
        refine ⟨fun σ' H'' => σ' = [some (.ref p), some (.int m), some (.int a), some (.int z), none, none] ∧ H'' = H', ?_, ?_⟩
        · refine ⟨_, rfl, _, rfl, p, _, rfl, dg_cells hp', _, _, rfl, .inl ⟨_, SqL.of hc', rfl⟩, _, _, rfl, rfl, _, rfl, ?_⟩
          refine ite2 (fun _ => ?_) (fun _ => iteF ⟨rfl, rfl⟩)
          refine ⟨_, rfl, _, _, rfl, rfl, ⟨by decide, by decide, by decide⟩, _, _, rfl, rfl, _, rfl, ?_⟩
          refine ite2 (fun _ => ?_) (fun _ => ⟨rfl, rfl⟩)
          refine ⟨_, rfl, _, _, rfl, rfl, ⟨by decide, by decide, by decide⟩, _, _, rfl, rfl, _, rfl, _, _, rfl, rfl, ⟨hm, hm2⟩, _, rfl, p, _, rfl, dp_rest hp', ?_⟩
          refine ⟨_, rfl, _, _, rfl, rfl, ⟨by decide, by decide, by decide⟩, _, _, rfl, rfl, .inl ⟨_, rfl, _, rfl, _, _, rfl, rfl, hm, ?_⟩⟩
          exact k _ _ (mod_in hm).1 (mod_in hm).2 ⟨cs, a + 1, _, upd_same, by rw [upd_ne (ne_of hc' hp' (by intro z; cases z))]; exact hc', hl, by omega, by omega⟩ (Sv.trans Sav.own)
        · rintro σ' H'' ⟨rfl, rfl⟩
          refine ⟨_, rfl, .inl ⟨_, rfl, _, _, rfl, rfl, (by show (0 : Int) < _; decide), _, _, rfl, rfl, .inr ⟨by decide, by decide⟩, _, rfl, _, _, rfl, rfl, .inl ⟨by decide, by decide⟩, _, rfl, _, _, rfl, rfl, .inr ⟨by omega, by omega⟩, _, _, rfl, rfl, _, rfl, _, _, rfl, rfl, .inl ⟨by decide, by decide⟩, _, _, rfl, rfl, _, _, rfl, rfl, ?_⟩⟩
          refine ⟨_, rfl, .inl ⟨_, rfl, _, _, rfl, rfl, (by show (0 : Int) < _; decide), ?_⟩⟩
          refine ⟨_, rfl, _, rfl, _, _, rfl, rfl, _, _, rfl, rfl, mul_mod (by decide) (by decide), .inl ⟨_, rfl, _, _, rfl, rfl, (by show (0 : Int) < _; decide), ?_⟩⟩
          refine ⟨_, rfl, _, rfl, _, _, rfl, rfl, mul_mod (by decide) (by decide), .inl ⟨_, rfl, _, _, rfl, rfl, (by show (0 : Int) < _; decide), _, _, rfl, rfl, ⟨by decide, by decide⟩, .inl ⟨_, rfl, _, rfl, _, _, rfl, rfl, hm, ?_⟩⟩⟩
          exact k _ _ (mod_in hm).1 (mod_in hm).2 ⟨cs, a + 1, r, hp', hc', hl, by omega, by omega⟩ Sv
end
end RS

set_option maxRecDepth 100000
set_option maxHeartbeats 4000000
namespace RS
open PySem PySem.Spec PyProof.Rows L2
section
variable {P : Program} {w : World} {K : PySem.W.Frag} {mg : Str → Option Value} {base : Heap} {C : Addr}
structure TSpan (K : Frg) (mg : Str → Option Value) (C : Addr) : Prop where
  b_isinstance : mg "isinstance" = none
  b_int : mg "int" = none
  b_bool : mg "bool" = none
  b_len : mg "len" = none
  b_any : mg "any" = none
  b_range : mg "range" = none
  g_Span : mg "Span" = some (.ref C)
  c_Span : Cls K C
  n_some : NoAttr K C "some"
  n_ends : NoAttr K C "ends"
  i_Span : IsiC K C
  ne_Span : NoNe K C
  sf_Span : PySem.W.selfFirst K C = true
  k_self : PySem.W.kitOne K (.ref C) (.ref C) = some true
  k_int : PySem.W.kitOne K (.type "int") (.ref C) = some false
  k_non : PySem.W.kitOne K (.type "NoneType") (.ref C) = some false
  f_int : PySem.W.notFirst K C (.type "int") = true
  f_non : PySem.W.notFirst K C (.type "NoneType") = true
  f_self : PySem.W.notFirst K C (.ref C) = true
abbrev s_is_whole : Stmt := top 1
theorem sc_is_whole : FnScope ["value"] ["value"] (defScope s_is_whole) := ⟨rfl, rfl, rfl, by decide +kernel, rfl, by decide +kernel, by decide +kernel⟩
theorem ok_is_whole {f : Addr} {fd : FuncData} (F : FnP K "is_whole" "is_whole" s_is_whole f fd) (T : TSpan K mg C) : FnOk P w K mg base CX0 1 f fd ["value"] (spWhole K) := by
  refine F.ok sc_is_whole (fun vs H Q E h => ?_) (fun cdv A outer s H vs Q E hr h => ?_)
  · obtain ⟨v, b, rfl, _⟩ := h
    rfl
  · obtain ⟨v, b, rfl, W, k⟩ := h
    obtain ⟨n, b1, b2, ty, k1, k2, rfl⟩ := W.ex
    refine ⟨_, PSs.nox (pss_one (ps_ret (pe_and (pe_callB call_isi (by rfl) T.b_isinstance (by decide +kernel) (pa_cons (pv 0) (pa_cons (pe_bltn (v := .ty "int") (u := .type "int") (by rfl) T.b_int (by decide +kernel) rfl) pa_nil))) (pe_one (pe_not (pe_callB call_isi (by rfl) T.b_isinstance (by decide +kernel) (pa_cons (pv 0) (pa_cons (pe_bltn (v := .ty "bool") (u := .type "bool") (by rfl) T.b_bool (by decide +kernel) rfl) pa_nil)))))))), ?_⟩
    refine ⟨_, rfl, _, _, _, _, b1, rfl, .ty _, ty, kit_ty k1, _, rfl, ?_⟩
    cases b1 with
    | false => exact k
    | true => exact ⟨_, rfl, _, _, _, _, b2, rfl, .ty _, ty, kit_ty k2, _, rfl, k⟩
abbrev s_Span___init__ : Stmt := inClass (top 3) 0
theorem sc_Span___init__ : FnScope ["self", "low", "high"] ["self", "low", "high"] (defScope s_Span___init__) := ⟨rfl, rfl, rfl, by decide +kernel, rfl, by decide +kernel, by decide +kernel⟩
theorem ok_Span_init {f : Addr} {fd : FuncData} (F : FnP K "__init__" "Span.__init__" s_Span___init__ f fd) (T : TSpan K mg C) : FnOk P w K mg base CX0 1 f fd ["self", "low", "high"] (spSInit C) := by
  refine F.ok sc_Span___init__ (fun vs H Q E h => ?_) (fun cdv A outer s H vs Q E hr h => ?_)
  · obtain ⟨p, dx, lo, hi, rfl, _⟩ := h
    rfl
  · obtain ⟨p, dx, lo, hi, rfl, hp, k⟩ := h
    refine ⟨_, PSs.nox (Evl.pss_cut (ps_fld (pv 0) (pe_or (pe_cmpR op_isN (pv 1) pe_non (nomark _)) (pe_or (pe_cmpR op_isN (pv 2) pe_non (nomark _)) (pe_one (pe_cmpR op_le (pv 1) (pv 2) (nomark _))))) rfl)
      (pss_one (ps_fld (pv 0) (pe_ifExp (pt_val (pe_fld (pv 0) rfl)) (pe_tup (pa_cons (pv 1) (pa_cons (pv 2) pa_nil))) (pe_tup (pa_cons pe_non (pa_cons pe_non pa_nil)))) rfl))), ?_⟩
    -- self.some
    refine ⟨fun σ' H' => σ' = [some (.ref p), some (oV lo), some (oV hi)] ∧ H' = upd H p (.ins C dx (putF "some" (.bl (spSome lo hi)) [])), ?_, ?_⟩
    · have fin : ∃ a C' dx' fs, V.ref p = .ref a ∧ H a = some (.ins C' dx' fs) ∧ Cls K C' ∧ NoAttr K C' "some" ∧ fs.length < 1000 ∧ upd H a (.ins C' dx' (putF "some" (.bl (spSome lo hi)) fs)) = upd H p (.ins C dx (putF "some" (.bl (spSome lo hi)) [])) :=
        ⟨p, C, dx, [], rfl, hp, T.c_Span, T.n_some, by decide, rfl⟩
      obtain ⟨a', C', dx', fs', e1, e2, e3, e4, e5, e6⟩ := fin
      cases lo with
      | none => exact ⟨_, rfl, rfl, _, rfl, _, rfl, a', C', dx', fs', e1, e2, e3, e4, e5, rfl, e6⟩
      | some x =>
        cases hi with
        | none => exact ⟨_, rfl, rfl, _, rfl, _, rfl, rfl, _, rfl, _, rfl, a', C', dx', fs', e1, e2, e3, e4, e5, rfl, e6⟩
        | some y => exact ⟨_, rfl, rfl, _, rfl, _, rfl, rfl, _, rfl, _, rfl, _, rfl, _, _, rfl, rfl, _, rfl, a', C', dx', fs', e1, e2, e3, e4, e5, rfl, e6⟩
    · rintro σ' H' ⟨rfl, rfl⟩
      have h1 : (upd H p (.ins C dx (putF "some" (.bl (spSome lo hi)) []))) p = some (.ins C dx (putF "some" (.bl (spSome lo hi)) [])) := upd_same
      have fin : ∀ t, (upd H p (.ins C dx (putF "some" (.bl (spSome lo hi)) []))) t = none → Q .non (upd (upd (upd H p (.ins C dx (putF "some" (.bl (spSome lo hi)) []))) t (.tup [oV (spLow lo hi), oV (spHigh lo hi)])) p (.ins C dx (flS (spSome lo hi) t))) := fun t ht => by
        have n1 : p ≠ t := ne_of_none h1 ht
        refine k _ (fun b o e hb => ?_) ⟨dx, t, upd_same, by rw [upd_ne n1.symm, upd_same]⟩
        rw [upd_ne hb, upd_ne (ne_of_none (show (upd H p (.ins C dx (putF "some" (.bl (spSome lo hi)) []))) b = some o by rw [upd_ne hb]; exact e) ht), upd_ne hb]
        exact e
      refine ⟨_, rfl, p, C, dx, _, _, rfl, h1, T.c_Span, T.n_some, (by rw [lookup_putF, if_pos rfl]), _, rfl, ?_⟩
      cases hs : spSome lo hi with
      | false =>
        rw [hs] at fin h1
        refine iteF ⟨by show 2 ≤ sizeLine; rw [sizeLine_eq]; decide, fun t ht => ?_⟩
        have e1 : oV (spLow lo hi) = .non := by unfold spLow; rw [hs]; rfl
        have e2 : oV (spHigh lo hi) = .non := by unfold spHigh; rw [hs]; rfl
        have f := fin t ht
        rw [e1, e2] at f
        exact ⟨_, rfl, p, C, dx, _, rfl, upd_old ht h1, T.c_Span, T.n_ends, by show 1 < 1000; decide, f⟩
      | true =>
        rw [hs] at fin h1
        refine iteT ⟨_, rfl, _, rfl, by show 2 ≤ sizeLine; rw [sizeLine_eq]; decide, fun t ht => ?_⟩
        have e1 : oV (spLow lo hi) = oV lo := by unfold spLow; rw [hs]; rfl
        have e2 : oV (spHigh lo hi) = oV hi := by unfold spHigh; rw [hs]; rfl
        have f := fin t ht
        rw [e1, e2] at f
        exact ⟨_, rfl, p, C, dx, _, rfl, upd_old ht h1, T.c_Span, T.n_ends, by show 1 < 1000; decide, f⟩
abbrev s_Span_low : Stmt := inClass (top 3) 3
theorem sc_Span_low : FnScope ["self"] ["self"] (defScope s_Span_low) := ⟨rfl, rfl, rfl, by decide +kernel, rfl, by decide +kernel, by decide +kernel⟩
theorem ok_Span_low {f : Addr} {fd : FuncData} (F : FnP K "low" "Span.low" s_Span_low f fd) (T : TSpan K mg C) : FnOk P w K mg base CX0 1 f fd ["self"] (spSLow C) := by
  refine F.ok sc_Span_low (fun vs H Q E h => ?_) (fun cdv A outer s H vs Q E hr h => ?_)
  · obtain ⟨p, lo, hi, rfl, _⟩ := h
    rfl
  · obtain ⟨p, lo, hi, rfl, S, k⟩ := h
    obtain ⟨dx, t, h1, h2⟩ := S.ex
    refine ⟨_, PSs.nox (pss_one (ps_ret (pe_ix ix_tup (pe_fld (pv 0) rfl) pe_int (fun _ _ => rfl)))), ?_⟩
    exact ⟨_, rfl, p, C, dx, _, _, rfl, h1, T.c_Span, T.n_ends, flS_ends _ _, t, _, _, _, rfl, rfl, SqT.of h2, rfl, k⟩
abbrev s_Span_high : Stmt := inClass (top 3) 4
theorem sc_Span_high : FnScope ["self"] ["self"] (defScope s_Span_high) := ⟨rfl, rfl, rfl, by decide +kernel, rfl, by decide +kernel, by decide +kernel⟩
theorem ok_Span_high {f : Addr} {fd : FuncData} (F : FnP K "high" "Span.high" s_Span_high f fd) (T : TSpan K mg C) : FnOk P w K mg base CX0 1 f fd ["self"] (spSHigh C) := by
  refine F.ok sc_Span_high (fun vs H Q E h => ?_) (fun cdv A outer s H vs Q E hr h => ?_)
  · obtain ⟨p, lo, hi, rfl, _⟩ := h
    rfl
  · obtain ⟨p, lo, hi, rfl, S, k⟩ := h
    obtain ⟨dx, t, h1, h2⟩ := S.ex
    refine ⟨_, PSs.nox (pss_one (ps_ret (pe_ix ix_tup (pe_fld (pv 0) rfl) pe_int (fun _ _ => rfl)))), ?_⟩
    exact ⟨_, rfl, p, C, dx, _, _, rfl, h1, T.c_Span, T.n_ends, flS_ends _ _, t, _, _, _, rfl, rfl, SqT.of h2, rfl, k⟩
abbrev s_Span___bool__ : Stmt := inClass (top 3) 5
theorem sc_Span___bool__ : FnScope ["self"] ["self"] (defScope s_Span___bool__) := ⟨rfl, rfl, rfl, by decide +kernel, rfl, by decide +kernel, by decide +kernel⟩
theorem ok_Span_bool {f : Addr} {fd : FuncData} (F : FnP K "__bool__" "Span.__bool__" s_Span___bool__ f fd) (T : TSpan K mg C) : FnOk P w K mg base CX0 1 f fd ["self"] (spSBool C) := by
  refine F.ok sc_Span___bool__ (fun vs H Q E h => ?_) (fun cdv A outer s H vs Q E hr h => ?_)
  · obtain ⟨p, lo, hi, rfl, _⟩ := h
    rfl
  · obtain ⟨p, lo, hi, rfl, S, k⟩ := h
    obtain ⟨dx, t, h1, h2⟩ := S.ex
    refine ⟨_, PSs.nox (pss_one (ps_ret (pe_callTy call_bool1 (by rfl) T.b_bool (by decide +kernel) (pa_cons (pe_fld (pv 0) rfl) pa_nil)))), ?_⟩
    exact ⟨_, rfl, p, C, dx, _, _, rfl, h1, T.c_Span, T.n_some, flS_some _ _, .inr ⟨_, rfl, k⟩⟩
abbrev s_Span_none : Stmt := inClass (top 3) 1
theorem sc_Span_none : FnScope [] [] (defScope s_Span_none) := ⟨rfl, rfl, rfl, by decide +kernel, rfl, by decide +kernel, by decide +kernel⟩
theorem ok_Span_none {f : Addr} {fd : FuncData} (F : FnP K "none" "Span.none" s_Span_none f fd) (T : TSpan K mg C) (M_Span_init : Mkr P w K mg base CX0 1 "Span" C ["self", "low", "high"] [] (spSInit C)) : FnOk P w K mg base CX0 3 f fd [] (spSNew C (some 1) (some 0)) := by
  refine F.ok sc_Span_none (fun vs H Q E h => ?_) (fun cdv A outer s H vs Q E hr h => ?_)
  · obtain ⟨rfl, _⟩ := h
    rfl
  · obtain ⟨rfl, k⟩ := h
    have hr1 := hr
    refine ⟨_, PSs.nox (pss_one (ps_ret (pe_mk M_Span_init hr1 pass0 (pa_cons pe_int (pa_cons pe_int pa_nil))))), ?_⟩
    exact mkSpan (some 1) (some 0) k
abbrev s_Span_every : Stmt := inClass (top 3) 2
theorem sc_Span_every : FnScope [] [] (defScope s_Span_every) := ⟨rfl, rfl, rfl, by decide +kernel, rfl, by decide +kernel, by decide +kernel⟩
theorem ok_Span_every {f : Addr} {fd : FuncData} (F : FnP K "every" "Span.every" s_Span_every f fd) (T : TSpan K mg C) (M_Span_init : Mkr P w K mg base CX0 1 "Span" C ["self", "low", "high"] [] (spSInit C)) : FnOk P w K mg base CX0 3 f fd [] (spSNew C none none) := by
  refine F.ok sc_Span_every (fun vs H Q E h => ?_) (fun cdv A outer s H vs Q E hr h => ?_)
  · obtain ⟨rfl, _⟩ := h
    rfl
  · obtain ⟨rfl, k⟩ := h
    have hr1 := hr
    refine ⟨_, PSs.nox (pss_one (ps_ret (pe_mk M_Span_init hr1 pass0 (pa_cons pe_non (pa_cons pe_non pa_nil))))), ?_⟩
    exact mkSpan none none k
abbrev s_Span___contains__ : Stmt := inClass (top 3) 6
theorem sc_Span___contains__ : FnScope ["self", "n", "low", "high"] ["self", "n"] (defScope s_Span___contains__) := ⟨rfl, rfl, rfl, by decide +kernel, rfl, by decide +kernel, by decide +kernel⟩
theorem ok_Span_contains {f : Addr} {fd : FuncData} (F : FnP K "__contains__" "Span.__contains__" s_Span___contains__ f fd) (T : TSpan K mg C) (M_is_whole : Cal P w K mg base CX0 1 "is_whole" ["value"] [] (spWhole K)) : FnOk P w K mg base CX0 2 f fd ["self", "n"] (spSHas K C) := by
  refine F.ok sc_Span___contains__ (fun vs H Q E h => ?_) (fun cdv A outer s H vs Q E hr h => ?_)
  · obtain ⟨p, v, lo, hi, rfl, _⟩ := h
    rfl
  · obtain ⟨p, v, lo, hi, rfl, S, k⟩ := h
    obtain ⟨dx, t, h1, h2⟩ := S.ex
    have hr1 := hr
    refine ⟨_, PSs.nox (Evl.pss_cut (ps_if (PW.pt (pw_or (pt_not (pt_val (pe_fn M_is_whole hr1 pass0 (pa_cons (pv 1) pa_nil)))) (pw_or1 (pt_not (pt_val (pe_fld (pv 0) rfl)))))) (pss_one (ps_ret pe_bl)) pss_nil)
      (pss_cons (ps_asg (pe_fld (pv 0) rfl) (pg_tup (by rfl) (pgs_cons (pg_name (i := 2) sc_Span___contains__.nd rfl (by first | exact Or.inl rfl | exact Or.inr rfl)) (pgs_cons (pg_name (i := 3) sc_Span___contains__.nd rfl (by first | exact Or.inl rfl | exact Or.inr rfl)) pgs_nil))))
      (pss_one (ps_ret (pe_and (pe_or (pe_cmpR op_isN (pv 2) pe_non (nomark _)) (pe_one (pe_cmpR op_le (pv 2) (pv 1) (nomark _)))) (pe_one (pe_or (pe_cmpR op_isN (pv 3) pe_non (nomark _)) (pe_one (pe_cmpR op_le (pv 1) (pv 3) (nomark _)))))))))), ?_⟩
    refine ⟨fun σ' H' => ∃ n, σ' = [some (.ref p), some (.int n), none, none] ∧ H' = H ∧ spSome lo hi = true ∧ v = .int n, ?_, ?_⟩
    · rcases k with ⟨n, rfl, k⟩ | ⟨W, k⟩
      · refine ⟨_, rfl, _, _, rfl, WhV.int n, _, rfl, iteF ?_⟩
        refine ⟨_, rfl, p, C, dx, _, _, rfl, h1, T.c_Span, T.n_some, flS_some _ _, _, rfl, ?_⟩
        cases hs : spSome lo hi with
        | false => rw [hs] at k; exact iteT k
        | true => exact iteF ⟨n, rfl, rfl, rfl, rfl⟩
      · exact ⟨_, rfl, _, _, rfl, W, _, rfl, iteT (iteT k)⟩
    · rintro σ' H' ⟨n, rfl, rfl, hs, rfl⟩
      rcases k with ⟨n', e, k⟩ | ⟨W, k⟩
      · cases e
        refine ⟨_, rfl, p, C, dx, _, _, rfl, h1, T.c_Span, T.n_ends, flS_ends _ _, t, _, rfl, SqT.of h2, rfl, _, _, rfl, _, _, rfl, rfl, ?_⟩
        rw [hs, Bool.true_and] at k
        have e1 : spLow lo hi = lo := if_pos hs
        have e2 : spHigh lo hi = hi := if_pos hs
        rw [e1, e2]
        unfold hasO at k
        cases lo with
        | none =>
          refine ⟨_, rfl, rfl, _, rfl, _, rfl, iteT ?_⟩
          cases hi with
          | none => exact ⟨_, rfl, rfl, _, rfl, k⟩
          | some b => exact ⟨_, rfl, rfl, _, rfl, iteF ⟨_, rfl, _, rfl, _, _, rfl, rfl, k⟩⟩
        | some a =>
          refine ⟨_, rfl, rfl, _, rfl, iteF ⟨_, rfl, _, rfl, _, _, rfl, rfl, _, rfl, ?_⟩⟩
          dsimp only at k
          by_cases ha : a ≤ n
          · rw [decide_eq_true ha] at k ⊢
            refine iteT ?_
            cases hi with
            | none => exact ⟨_, rfl, rfl, _, rfl, k⟩
            | some b => exact ⟨_, rfl, rfl, _, rfl, iteF ⟨_, rfl, _, rfl, _, _, rfl, rfl, k⟩⟩
          · rw [decide_eq_false ha] at k ⊢
            exact iteF k
      · obtain ⟨m, b1, b2, ty, k1, k2, e⟩ := W.ex
        cases ty with
        | base z => cases z; rw [show kitB "int" "int" = some true by decide +kernel] at k1; rw [show kitB "int" "bool" = some false by decide +kernel] at k2; cases k1; cases k2; cases e
abbrev s_Span___eq__ : Stmt := inClass (top 3) 7
theorem sc_Span___eq__ : FnScope ["self", "other"] ["self", "other"] (defScope s_Span___eq__) := ⟨rfl, rfl, rfl, by decide +kernel, rfl, by decide +kernel, by decide +kernel⟩
theorem ok_Span_eq {f : Addr} {fd : FuncData} (F : FnP K "__eq__" "Span.__eq__" s_Span___eq__ f fd) (T : TSpan K mg C) : FnOk P w K mg base CX0 1 f fd ["self", "other"] (spSEq K C) := by
  refine F.ok sc_Span___eq__ (fun vs H Q E h => ?_) (fun cdv A outer s H vs Q E hr h => ?_)
  · obtain ⟨p, v, lo, hi, rfl, _⟩ := h
    rfl
  · obtain ⟨p, v, lo, hi, rfl, S, k⟩ := h
    obtain ⟨dx, t, h1, h2⟩ := S.ex
    refine ⟨_, PSs.nox (pss_one (ps_ret (pe_and (pe_callB call_isi (by rfl) T.b_isinstance (by decide +kernel) (pa_cons (pv 1) (pa_cons (pe_glob (v := .ref C) rfl T.g_Span rfl) pa_nil))) (pe_and (pe_cmpR op_eq (pe_fld (pv 0) rfl) (pe_fld (pv 1) rfl) (nomark _)) (pe_one (pe_cmpR (op_eqD hr.units) (pe_fld (pv 0) rfl) (pe_fld (pv 1) rfl) (nomark _))))))), ?_⟩
    rcases k with ⟨q, lo2, hi2, rfl, S2, k⟩ | ⟨tt, ty, kk, k⟩
    · obtain ⟨dx2, t2, g1, g2⟩ := S2.ex
      refine ⟨_, rfl, _, _, _, _, true, rfl, .own C, T.i_Span.ty g1, T.k_self, _, rfl, iteT ?_⟩
      refine ⟨_, rfl, p, C, dx, _, _, rfl, h1, T.c_Span, T.n_some, flS_some _ _, _, rfl, q, C, dx2, _, _, rfl, g1, T.c_Span, T.n_some, flS_some _ _, rfl, _, rfl, ?_⟩
      have e0 : decide (V.bl (spSome lo hi) = V.bl (spSome lo2 hi2)) = (spSome lo hi == spSome lo2 hi2) := dec_bl
      rw [e0]
      unfold spEqB at k
      cases hb : (spSome lo hi == spSome lo2 hi2) with
      | false => rw [hb] at k; exact iteF k
      | true =>
        rw [hb] at k
        refine iteT ⟨_, rfl, p, C, dx, _, _, rfl, h1, T.c_Span, T.n_ends, flS_ends _ _, _, rfl, q, C, dx2, _, _, rfl, g1, T.c_Span, T.n_ends, flS_ends _ _, .tuple [oD (spLow lo hi), oD (spHigh lo hi)], .tuple [oD (spLow lo2 hi2), oD (spHigh lo2 hi2)], .tup (SqT.of h2) (.cons (dp_oV _) (.cons (dp_oV _) .nil)), .tup (SqT.of g2) (.cons (dp_oV _) (.cons (dp_oV _) .nil)), shaped_oD _ _, shaped_oD _ _, ?_⟩
        rw [eqv_oD]
        exact k
    · exact ⟨_, rfl, _, _, _, _, false, rfl, .own C, ty, kk, _, rfl, iteF k⟩
abbrev s_Span___and__ : Stmt := inClass (top 3) 8
theorem sc_Span___and__ : FnScope ["self", "other", "low", "high"] ["self", "other"] (defScope s_Span___and__) := ⟨rfl, rfl, rfl, by decide +kernel, rfl, by decide +kernel, by decide +kernel⟩
theorem ok_Span_and {f : Addr} {fd : FuncData} (F : FnP K "__and__" "Span.__and__" s_Span___and__ f fd) (T : TSpan K mg C) (M_Span_init : Mkr P w K mg base CX0 1 "Span" C ["self", "low", "high"] [] (spSInit C)) : FnOk P w K mg base CX0 3 f fd ["self", "other"] (spSAnd C) := by
  refine F.ok sc_Span___and__ (fun vs H Q E h => ?_) (fun cdv A outer s H vs Q E hr h => ?_)
  · obtain ⟨p, q, lo, hi, lo2, hi2, rfl, _⟩ := h
    rfl
  · obtain ⟨p, q, lo, hi, lo2, hi2, rfl, S, S2, k⟩ := h
    obtain ⟨dx, t, h1, h2⟩ := S.ex
    obtain ⟨dx2, t2, g1, g2⟩ := S2.ex
    have hr1 := hr
    refine ⟨_, PSs.nox (Evl.pss_cut (ps_if (PW.pt (pw_or (pt_not (pt_val (pe_fld (pv 0) rfl))) (pw_or1 (pt_not (pt_val (pe_fld (pv 1) rfl)))))) (pss_one (ps_ret (pe_mk M_Span_init hr1 pass0 (pa_cons pe_int (pa_cons pe_int pa_nil))))) pss_nil)
      (pss_cons (ps_asg (pe_fld (pv 0) rfl) (pg_tup (by rfl) (pgs_cons (pg_name (i := 2) sc_Span___and__.nd rfl (by first | exact Or.inl rfl | exact Or.inr rfl)) (pgs_cons (pg_name (i := 3) sc_Span___and__.nd rfl (by first | exact Or.inl rfl | exact Or.inr rfl)) pgs_nil))))
      (Evl.pss_cut (ps_if (PW.pt (pw_or (pt_cmpR op_isN (pv 2) pe_non (nomark _)) (pw_or1 (PW.pt (pw_and (pt_cmpR op_notN (pe_ix ix_tup (pe_fld (pv 1) rfl) pe_int (fun _ _ => rfl)) pe_non (nomark _)) (pw_and1 (pt_cmpR op_gt (pe_ix ix_tup (pe_fld (pv 1) rfl) pe_int (fun _ _ => rfl)) (pv 2) (nomark _)))))))) (pss_one (ps_set (i := 2) sc_Span___and__.nd rfl (by first | exact Or.inl rfl | exact Or.inr rfl) (pe_ix ix_tup (pe_fld (pv 1) rfl) pe_int (fun _ _ => rfl)))) pss_nil)
      (Evl.pss_cut (ps_if (PW.pt (pw_or (pt_cmpR op_isN (pv 3) pe_non (nomark _)) (pw_or1 (PW.pt (pw_and (pt_cmpR op_notN (pe_ix ix_tup (pe_fld (pv 1) rfl) pe_int (fun _ _ => rfl)) pe_non (nomark _)) (pw_and1 (pt_cmpR op_lt (pe_ix ix_tup (pe_fld (pv 1) rfl) pe_int (fun _ _ => rfl)) (pv 3) (nomark _)))))))) (pss_one (ps_set (i := 3) sc_Span___and__.nd rfl (by first | exact Or.inl rfl | exact Or.inr rfl) (pe_ix ix_tup (pe_fld (pv 1) rfl) pe_int (fun _ _ => rfl)))) pss_nil)
      (pss_one (ps_ret (pe_mk M_Span_init hr1 pass0 (pa_cons (pv 2) (pa_cons (pv 3) pa_nil))))))))), ?_⟩
    refine ⟨fun σ' H' => σ' = [some (.ref p), some (.ref q), none, none] ∧ H' = H ∧ spSome lo hi = true ∧ spSome lo2 hi2 = true, ?_, ?_⟩
    · refine ⟨_, rfl, p, C, dx, _, _, rfl, h1, T.c_Span, T.n_some, flS_some _ _, _, rfl, ?_⟩
      cases hs : spSome lo hi with
      | false =>
        refine iteT (iteT (mkSpan (some 1) (some 0) fun x H' s n z => k x H' s n ?_))
        unfold andLo andHi
        rw [if_neg (by rw [hs]; simp), if_neg (by rw [hs]; simp)]
        exact z
      | true =>
        refine iteF ⟨_, rfl, q, C, dx2, _, _, rfl, g1, T.c_Span, T.n_some, flS_some _ _, _, rfl, ?_⟩
        cases hs2 : spSome lo2 hi2 with
        | false =>
          refine iteT (mkSpan (some 1) (some 0) fun x H' s n z => k x H' s n ?_)
          unfold andLo andHi
          rw [if_neg (by rw [hs2]; simp), if_neg (by rw [hs2]; simp)]
          exact z
        | true => exact iteF ⟨rfl, rfl, rfl, rfl⟩
    · rintro σ' H' ⟨rfl, rfl, hs, hs2⟩
      have e1 : spLow lo hi = lo := if_pos hs
      have e2 : spHigh lo hi = hi := if_pos hs
      have e3 : spLow lo2 hi2 = lo2 := if_pos hs2
      have e4 : spHigh lo2 hi2 = hi2 := if_pos hs2
      rw [e1, e2] at h2
      rw [e3, e4] at g2
      refine ⟨_, rfl, p, C, dx, _, _, rfl, h1, T.c_Span, T.n_ends, flS_ends _ _, t, _, rfl, SqT.of h2, rfl, _, _, rfl, _, _, rfl, rfl, ?_⟩
      unfold andLo andHi at k
      rw [if_pos ⟨hs, hs2⟩, if_pos ⟨hs, hs2⟩] at k
      have rd0 : ∀ (σ : L2.St) (Q : VK), Q (oV lo2) H' → σ[1]? = some (some (.ref q)) → tOp (rIxT K) (tFld K (tVar 1) "ends") (tC (.int 0)) σ H' Q := fun σ Q z e => ⟨_, e, q, C, dx2, _, _, rfl, g1, T.c_Span, T.n_ends, flS_ends _ _, t2, _, _, _, rfl, rfl, SqT.of g2, rfl, z⟩
      have rd1 : ∀ (σ : L2.St) (Q : VK), Q (oV hi2) H' → σ[1]? = some (some (.ref q)) → tOp (rIxT K) (tFld K (tVar 1) "ends") (tC (.int 1)) σ H' Q := fun σ Q z e => ⟨_, e, q, C, dx2, _, _, rfl, g1, T.c_Span, T.n_ends, flS_ends _ _, t2, _, _, _, rfl, rfl, SqT.of g2, rfl, z⟩
      refine ⟨fun σ' H2 => σ' = [some (.ref p), some (.ref q), some (oV (upO lo lo2)), some (oV hi)] ∧ H2 = H', ?_, ?_⟩
      · cases lo with
        | none => exact ⟨_, rfl, rfl, _, rfl, iteT (iteT (rd0 _ _ ⟨rfl, rfl⟩ rfl))⟩
        | some a =>
          refine ⟨_, rfl, rfl, _, rfl, iteF (rd0 _ _ ?_ rfl)⟩
          cases lo2 with
          | none => exact ⟨rfl, _, rfl, iteF (iteF ⟨rfl, rfl⟩)⟩
          | some b =>
            refine ⟨rfl, _, rfl, iteT (rd0 _ _ ?_ rfl)⟩
            refine ⟨_, rfl, _, _, rfl, rfl, _, rfl, ?_⟩
            by_cases hab : a < b
            · rw [decide_eq_true hab]
              refine iteT (rd0 _ _ ?_ rfl)
              have e : upO (some a) (some b) = some b := if_pos hab
              rw [e]
              exact ⟨rfl, rfl⟩
            · rw [decide_eq_false hab]
              have e : upO (some a) (some b) = some a := if_neg hab
              rw [e]
              exact iteF ⟨rfl, rfl⟩
      · rintro σ' H2 ⟨rfl, rfl⟩
        refine ⟨fun σ' H3 => σ' = [some (.ref p), some (.ref q), some (oV (upO lo lo2)), some (oV (dnO hi hi2))] ∧ H3 = H2, ?_, ?_⟩
        · cases hi with
          | none => exact ⟨_, rfl, rfl, _, rfl, iteT (iteT (rd1 _ _ ⟨rfl, rfl⟩ rfl))⟩
          | some a =>
            refine ⟨_, rfl, rfl, _, rfl, iteF (rd1 _ _ ?_ rfl)⟩
            cases hi2 with
            | none => exact ⟨rfl, _, rfl, iteF (iteF ⟨rfl, rfl⟩)⟩
            | some b =>
              refine ⟨rfl, _, rfl, iteT (rd1 _ _ ?_ rfl)⟩
              refine ⟨_, rfl, _, _, rfl, rfl, _, rfl, ?_⟩
              by_cases hab : b < a
              · rw [decide_eq_true hab]
                refine iteT (rd1 _ _ ?_ rfl)
                have e : dnO (some a) (some b) = some b := if_pos hab
                rw [e]
                exact ⟨rfl, rfl⟩
              · rw [decide_eq_false hab]
                have e : dnO (some a) (some b) = some a := if_neg hab
                rw [e]
                exact iteF ⟨rfl, rfl⟩
        · rintro σ' H3 ⟨rfl, rfl⟩
          exact ⟨_, rfl, _, rfl, mkSpan _ _ k⟩
end
end RS

set_option maxRecDepth 100000
set_option maxHeartbeats 4000000
namespace RS
open PySem PySem.Spec PyProof.Rows L2
section
variable {P : Program} {w : World} {K : PySem.W.Frag} {mg : Str → Option Value} {base : Heap} {C : Addr}
abbrev s__law_end : Stmt := top 7
theorem sc__law_end : FnScope ["_law_pen_here", "_law_near", "_law_far"] ["_law_pen_here", "_law_near"] (defScope s__law_end) := ⟨rfl, rfl, rfl, by decide +kernel, rfl, by decide +kernel, by decide +kernel⟩
def spEnd : Sp := fun vs H Q _ => ∃ (p c : Addr) (n : Int) (b : Nat), vs = [.ref p, .int n] ∧ Pen H p c (b + 6) ∧ ∀ e H', Pen H' p c b → Sav p H H' → Q (oV e) H'
theorem ok_end {f : Addr} {fd : FuncData} (F : FnP K "_law_end" "_law_end" s__law_end f fd) (M__law_draw : Cal P w K mg base CX0 1 "_law_draw" ["_law_pen_here", "_law_many"] [] spDraw) : FnOk P w K mg base CX0 2 f fd ["_law_pen_here", "_law_near"] spEnd := by
  refine F.ok sc__law_end (fun vs H Q E h => ?_) (fun cdv A outer s H vs Q E hr h => ?_)
  · obtain ⟨p, c, n, b, rfl, _⟩ := h
    rfl
  · obtain ⟨p, c, n, b, rfl, P0, k⟩ := h
    have hr1 := hr
    refine ⟨_, PSs.nox (pss_cons (ps_set (i := 2) sc__law_end.nd rfl (by first | exact Or.inl rfl | exact Or.inr rfl) (pe_op op_mul (pe_op op_sub pe_int (pe_op op_mul pe_int (pe_fn M__law_draw hr1 pass0 (pa_cons (pv 0) (pa_cons pe_int pa_nil))))) (pe_fn M__law_draw hr1 pass0 (pa_cons (pv 0) (pa_cons (pe_op op_pow pe_int pe_int) pa_nil)))))
      (pss_one (ps_ret (pe_ix ix_list (pe_lst (pa_cons pe_non (pa_cons (pe_op op_sub (pe_op op_add (pv 1) (pe_fn M__law_draw hr1 pass0 (pa_cons (pv 0) (pa_cons pe_int pa_nil)))) pe_int) (pa_cons (pe_op op_sub (pe_op op_add (pv 1) (pe_fn M__law_draw hr1 pass0 (pa_cons (pv 0) (pa_cons pe_int pa_nil)))) pe_int) (pa_cons (pv 2) pa_nil))))) (pe_fn M__law_draw hr1 pass0 (pa_cons (pv 0) (pa_cons pe_int pa_nil))) (fun _ _ => rfl))))), ?_⟩
    refine ⟨_, rfl, p, c, 2, b + 5, rfl, by decide, by decide +kernel, P0, fun d0 H1 a0 b0 P1 s1 => ?_⟩
    refine ⟨_, _, rfl, rfl, .inl ⟨by decide, by decide⟩, _, _, rfl, rfl, _, rfl, _, _, rfl, rfl, ⟨by decide, by decide, by decide⟩, p, c, 10 ^ 40, b + 4, rfl, by decide, by decide +kernel, P1, fun d1 H2 a1 b1 P2 s2 => ?_⟩
    refine ⟨_, _, rfl, rfl, .inl ⟨by omega, by omega⟩, ?_⟩
    refine ⟨_, rfl, _, rfl, p, c, 5, b + 3, rfl, by decide, by decide +kernel, P2, fun d2 H3 a2 b2 P3 s3 => ⟨_, _, rfl, rfl, _, _, rfl, rfl, ?_⟩⟩
    refine ⟨_, rfl, _, rfl, p, c, 41, b + 2, rfl, by decide, by decide +kernel, P3, fun d3 H4 a3 b3 P4 s4 => ⟨_, _, rfl, rfl, _, _, rfl, rfl, _, rfl, ?_⟩⟩
    refine ⟨by show 4 ≤ sizeLine; rw [sizeLine_eq]; decide, fun l hl => ?_⟩
    refine ⟨_, rfl, p, c, 4, b + 1, rfl, by decide, by decide +kernel, P4.new hl, fun d4 H5 a4 b4 P5 s5 => ?_⟩
    have hl5 := s5.at (P4.fresh_ne hl) upd_same
    have hS : Sav p H H5 := s1.trans (s2.trans (s3.trans (s4.trans ((Sav.new hl).trans s5))))
    have hd : d4 = 0 ∨ d4 = 1 ∨ d4 = 2 ∨ d4 = 3 := by omega
    rcases hd with rfl | rfl | rfl | rfl
    · exact ⟨l, _, _, _, rfl, rfl, SqL.of hl5, rfl, k none _ (P5.mono (by omega)) hS⟩
    · exact ⟨l, _, _, _, rfl, rfl, SqL.of hl5, rfl, k (some _) _ (P5.mono (by omega)) hS⟩
    · exact ⟨l, _, _, _, rfl, rfl, SqL.of hl5, rfl, k (some _) _ (P5.mono (by omega)) hS⟩
    · exact ⟨l, _, _, _, rfl, rfl, SqL.of hl5, rfl, k (some _) _ (P5.mono (by omega)) hS⟩
abbrev s__law_has : Stmt := top 8
theorem sc__law_has : FnScope ["_law_low", "_law_high", "_law_n"] ["_law_low", "_law_high", "_law_n"] (defScope s__law_has) := ⟨rfl, rfl, rfl, by decide +kernel, rfl, by decide +kernel, by decide +kernel⟩
def spHas : Sp := fun vs H Q _ => ∃ (lo hi : Option Int) (n : Int), vs = [oV lo, oV hi, .int n] ∧ Q (.bl (hasO lo hi n)) H
theorem ok_has {f : Addr} {fd : FuncData} (F : FnP K "_law_has" "_law_has" s__law_has f fd) : FnOk P w K mg base CX0 1 f fd ["_law_low", "_law_high", "_law_n"] spHas := by
  refine F.ok sc__law_has (fun vs H Q E h => ?_) (fun cdv A outer s H vs Q E hr h => ?_)
  · obtain ⟨lo, hi, n, rfl, _⟩ := h
    rfl
  · obtain ⟨lo, hi, n, rfl, k⟩ := h
    refine ⟨_, PSs.nox (pss_one (ps_ret (pe_and (pe_or (pe_cmpR op_isN (pv 0) pe_non (nomark _)) (pe_one (pe_cmpR op_le (pv 0) (pv 2) (nomark _)))) (pe_one (pe_or (pe_cmpR op_isN (pv 1) pe_non (nomark _)) (pe_one (pe_cmpR op_le (pv 2) (pv 1) (nomark _)))))))), ?_⟩
    unfold hasO at k
    cases lo with
    | none =>
      refine ⟨_, rfl, rfl, _, rfl, _, rfl, iteT ?_⟩
      cases hi with
      | none => exact ⟨_, rfl, rfl, _, rfl, k⟩
      | some b => exact ⟨_, rfl, rfl, _, rfl, iteF ⟨_, rfl, _, rfl, _, _, rfl, rfl, k⟩⟩
    | some a =>
      refine ⟨_, rfl, rfl, _, rfl, iteF ⟨_, rfl, _, rfl, _, _, rfl, rfl, _, rfl, ?_⟩⟩
      dsimp only at k
      by_cases ha : a ≤ n
      · rw [decide_eq_true ha] at k ⊢
        refine iteT ?_
        cases hi with
        | none => exact ⟨_, rfl, rfl, _, rfl, k⟩
        | some b => exact ⟨_, rfl, rfl, _, rfl, iteF ⟨_, rfl, _, rfl, _, _, rfl, rfl, k⟩⟩
      · rw [decide_eq_false ha] at k ⊢
        exact iteF k
abbrev s__law_some : Stmt := top 9
theorem sc__law_some : FnScope ["_law_low", "_law_high"] ["_law_low", "_law_high"] (defScope s__law_some) := ⟨rfl, rfl, rfl, by decide +kernel, rfl, by decide +kernel, by decide +kernel⟩
def spSome_ : Sp := fun vs H Q _ => ∃ (lo hi : Option Int), vs = [oV lo, oV hi] ∧ Q (.bl (spSome lo hi)) H
theorem ok_some {f : Addr} {fd : FuncData} (F : FnP K "_law_some" "_law_some" s__law_some f fd) : FnOk P w K mg base CX0 1 f fd ["_law_low", "_law_high"] spSome_ := by
  refine F.ok sc__law_some (fun vs H Q E h => ?_) (fun cdv A outer s H vs Q E hr h => ?_)
  · obtain ⟨lo, hi, rfl, _⟩ := h
    rfl
  · obtain ⟨lo, hi, rfl, k⟩ := h
    refine ⟨_, PSs.nox (pss_one (ps_ret (pe_or (pe_cmpR op_isN (pv 0) pe_non (nomark _)) (pe_or (pe_cmpR op_isN (pv 1) pe_non (nomark _)) (pe_one (pe_cmpR op_le (pv 0) (pv 1) (nomark _))))))), ?_⟩
    cases lo with
    | none => exact ⟨_, rfl, rfl, _, rfl, k⟩
    | some x =>
      cases hi with
      | none => exact ⟨_, rfl, rfl, _, rfl, iteF ⟨_, rfl, rfl, _, rfl, k⟩⟩
      | some y => exact ⟨_, rfl, rfl, _, rfl, iteF ⟨_, rfl, rfl, _, rfl, iteF ⟨_, rfl, _, rfl, _, _, rfl, rfl, k⟩⟩⟩
abbrev s__law_tops : Stmt := top 11
theorem sc__law_tops : FnScope ["_law_ends_here", "_law_sign", "_law_found", "_law_end_here"] ["_law_ends_here", "_law_sign"] (defScope s__law_tops) := ⟨rfl, rfl, rfl, by decide +kernel, rfl, by decide +kernel, by decide +kernel⟩
def topO (sg : Int) (a b : Option Int) : Option Int := if sg = 1 then upO a b else dnO a b
def spTops : Sp := fun vs H Q _ => ∃ (l : Addr) (sg : Int) (a b : Option Int), vs = [.ref l, .int sg] ∧ (sg = 1 ∨ sg = -1) ∧ H l = some (.lst [oV a, oV b]) ∧ Q (oV (topO sg a b)) H
theorem ok_tops {f : Addr} {fd : FuncData} (F : FnP K "_law_tops" "_law_tops" s__law_tops f fd) : FnOk P w K mg base CX0 1 f fd ["_law_ends_here", "_law_sign"] spTops := by
  refine F.ok sc__law_tops (fun vs H Q E h => ?_) (fun cdv A outer s H vs Q E hr h => ?_)
  · obtain ⟨l, sg, a, b, rfl, _⟩ := h
    rfl
  · obtain ⟨l, sg, a, b, rfl, hsg, hl, k⟩ := h
    refine ⟨_, PSs.nox (pss_cons (ps_set (i := 2) sc__law_tops.nd rfl (by first | exact Or.inl rfl | exact Or.inr rfl) pe_non)
      (pss_cons (ps_for PassesOwn.never rfl (pi_list (pv 0)) (pg_name (i := 3) sc__law_tops.nd rfl (by first | exact Or.inl rfl | exact Or.inr rfl)) (pss_one (ps_if (PW.pt (pw_and (pt_cmpR op_notN (pv 3) pe_non (nomark _)) (pw_and1 (PW.pt (pw_or (pt_cmpR op_isN (pv 2) pe_non (nomark _)) (pw_or1 (pt_cmpR op_gt (pe_op op_mul (pv 1) (pv 3)) (pe_op op_mul (pv 1) (pv 2)) (nomark _)))))))) (pss_one (ps_set (i := 2) sc__law_tops.nd rfl (by first | exact Or.inl rfl | exact Or.inr rfl) (pv 3))) pss_nil)))
      (pss_one (ps_ret (pv 2))))), ?_⟩
    refine ⟨_, rfl, l, rfl, ⟨_, SqL.of hl⟩, for_list (K := K) (a := l) (xs := [oV a, oV b]) (fun i σ H' => H' = H ∧ ∃ z, σ = [some (.ref l), some (.int sg), some (oV (match i with | 0 => none | 1 => a | _ => topO sg a b)), z]) ⟨rfl, _, rfl⟩ (fun i σ H' _ ⟨e, _⟩ => e ▸ SqL.of hl) ?_ ?_⟩
    · rintro i x σ H' hi ⟨rfl, z, rfl⟩
      have hi2 : i < 2 := (List.getElem?_eq_some_iff.mp hi).1
      obtain rfl | rfl : i = 0 ∨ i = 1 := by omega
      · obtain rfl : oV a = x := Option.some.inj hi
        cases a with
        | none => exact ⟨_, rfl, rfl, _, rfl, iteF ⟨rfl, _, rfl⟩⟩
        | some a => exact ⟨_, rfl, rfl, _, rfl, iteT ⟨_, rfl, rfl, _, rfl, iteT (iteT ⟨_, rfl, rfl, _, rfl⟩)⟩⟩
      · obtain rfl : oV b = x := Option.some.inj hi
        cases b with
        | none =>
          refine ⟨_, rfl, rfl, _, rfl, iteF ⟨rfl, some (oV none), ?_⟩⟩
          have e : topO sg a none = a := by unfold topO upO dnO; cases a <;> simp
          show _ = [some (.ref l), some (.int sg), some (oV (topO sg a none)), _]
          rw [e]
          rfl
        | some b =>
          refine ⟨_, rfl, rfl, _, rfl, iteT ⟨_, rfl, rfl, _, rfl, ?_⟩⟩
          cases a with
          | none =>
            refine iteT (iteT ⟨_, rfl, rfl, some (oV (some b)), ?_⟩)
            have e : topO sg none (some b) = some b := by unfold topO upO dnO; simp
            show _ = [some (.ref l), some (.int sg), some (oV (topO sg none (some b))), _]
            rw [e]
            rfl
          | some a =>
            refine iteF ⟨_, rfl, _, rfl, _, _, rfl, rfl, .inl ⟨by omega, by omega⟩, _, rfl, _, rfl, _, _, rfl, rfl, .inl ⟨by omega, by omega⟩, _, _, rfl, rfl, _, rfl, ?_⟩
            have e : topO sg (some a) (some b) = if sg * a < sg * b then some b else some a := by
              unfold topO upO dnO
              rcases hsg with rfl | rfl <;> simp
            by_cases hab : sg * a < sg * b
            · rw [if_pos hab] at e
              rw [decide_eq_true hab]
              refine iteT ⟨_, rfl, rfl, some (oV (some b)), ?_⟩
              show _ = [some (.ref l), some (.int sg), some (oV (topO sg (some a) (some b))), _]
              rw [e]
              rfl
            · rw [if_neg hab] at e
              rw [decide_eq_false hab]
              refine iteF ⟨rfl, some (oV (some b)), ?_⟩
              show _ = [some (.ref l), some (.int sg), some (oV (topO sg (some a) (some b))), _]
              rw [e]
              rfl
    · rintro σ H' ⟨rfl, z, rfl⟩
      exact ⟨_, rfl, k⟩
abbrev s__law_ends : Stmt := top 10
theorem sc__law_ends : FnScope ["_law_told", "_law_low", "_law_high"] ["_law_told", "_law_low", "_law_high"] (defScope s__law_ends) := ⟨rfl, rfl, rfl, by decide +kernel, rfl, by decide +kernel, by decide +kernel⟩
def spEnds (C : Addr) : Sp := fun vs H Q _ => ∃ (p : Addr) (a b lo hi : Option Int), vs = [.ref p, oV lo, oV hi] ∧ SpanAt C H p a b ∧ spSome a b = spSome lo hi ∧ (spSome lo hi = true → a = lo ∧ b = hi) ∧ ∀ H', Same H H' → Q (.bl true) H'
theorem sc_oV (a b : Option Int) : scal (oV a) (oV b) = true := by cases a <;> cases b <;> rfl
theorem ok_ends {f : Addr} {fd : FuncData} (F : FnP K "_law_ends" "_law_ends" s__law_ends f fd) (T : TSpan K mg C) (M__law_some : Cal P w K mg base CX0 1 "_law_some" ["_law_low", "_law_high"] [] spSome_)
    (M_Span_low : Prp P w K mg base CX0 1 C "low" ["self"] [] (spSLow C)) (M_Span_high : Prp P w K mg base CX0 1 C "high" ["self"] [] (spSHigh C)) (M_Span_bool : Mtd P w K mg base CX0 1 C "__bool__" ["self"] [] (spSBool C))
    (M_Span_eq : Mtd P w K mg base CX0 1 C "__eq__" ["self", "other"] [] (spSEq K C)) (M_Span_none : Stc P w K mg base CX0 3 C "none" [] [] (spSNew C (some 1) (some 0))) : FnOk P w K mg base CX0 5 f fd ["_law_told", "_law_low", "_law_high"] (spEnds C) := by
  refine F.ok sc__law_ends (fun vs H Q E h => ?_) (fun cdv A outer s H vs Q E hr h => ?_)
  · obtain ⟨p, a, b, lo, hi, rfl, _⟩ := h
    rfl
  · obtain ⟨p, a, b, lo, hi, rfl, S, hs, he, k⟩ := h
    obtain ⟨dx, t, h1, h2⟩ := S.ex
    have hr0 : Room 1 _ := hr.mono (by decide)
    have hr3 : Room 3 _ := hr.mono (by decide)
    have hr2 : Room 2 _ := hr.mono (by decide)
    refine ⟨_, PSs.nox (pss_cons (ps_if (pt_not (pt_val (pe_fn M__law_some hr0 pass0 (pa_cons (pv 1) (pa_cons (pv 2) pa_nil))))) (pss_one (ps_ret (pe_and (pe_cmpR op_isN (pe_pr T.c_Span M_Span_low hr2 pass0 (pv 0)) pe_non (nomark _)) (pe_and (pe_cmpR op_isN (pe_pr T.c_Span M_Span_high hr2 pass0 (pv 0)) pe_non (nomark _)) (pe_and (pe_notOwn (tru_own M_Span_bool hr0 pass0) (pv 0)) (pe_one (pe_cmpR (op_eqOwn M_Span_eq (hr.mono (by decide)) pass0) (pv 0) (pe_st0 M_Span_none hr3 pass0 (pe_glob (v := .ref C) rfl T.g_Span rfl)) (nomark _)))))))) pss_nil)
      (pss_one (ps_ret (pe_and (pe_cmpR op_eq (pe_pr T.c_Span M_Span_low hr2 pass0 (pv 0)) (pv 1) (nomark _)) (pe_and (pe_cmpR op_eq (pe_pr T.c_Span M_Span_high hr2 pass0 (pv 0)) (pv 2) (nomark _)) (pe_and (pe_callTy (call_boolOwn M_Span_bool hr3 pass0) (by rfl) T.b_bool (by decide +kernel) (pa_cons (pv 0) pa_nil)) (pe_one (pe_cmpR (op_neOwn T.ne_Span M_Span_eq (hr.mono (by decide)) pass0) (pv 0) (pe_st0 M_Span_none hr3 pass0 (pe_glob (v := .ref C) rfl T.g_Span rfl)) (nomark _))))))))), ?_⟩
    refine ⟨_, rfl, _, rfl, lo, hi, rfl, _, rfl, ?_⟩
    cases hb : spSome lo hi with
    | false =>
      rw [hb] at hs
      have e1 : spLow a b = none := if_neg (by rw [hs]; simp)
      have e2 : spHigh a b = none := if_neg (by rw [hs]; simp)
      refine iteT ⟨_, rfl, p, dx, _, rfl, h1, p, a, b, rfl, S, ?_⟩
      rw [e1]
      refine ⟨rfl, _, rfl, iteT ⟨_, rfl, p, dx, _, rfl, h1, p, a, b, rfl, S, ?_⟩⟩
      rw [e2]
      refine ⟨rfl, _, rfl, iteT ⟨_, rfl, p, dx, _, rfl, h1, p, a, b, rfl, S, _, rfl, _, rfl, ?_⟩⟩
      rw [hs]
      refine iteT ⟨_, rfl, rfl, rfl, fun x H' s n z => ?_⟩
      obtain ⟨dx2, t2, g1, g2⟩ := z.ex
      refine ⟨p, dx, _, _, rfl, s _ _ h1, T.i_Span.ty g1, T.f_self, p, _, a, b, rfl, S.old s, .inl ⟨x, _, _, rfl, z, ?_⟩⟩
      have e : spEqB a b (some 1) (some 0) = true := by
        unfold spEqB
        rw [e1, e2, hs]
        rfl
      rw [e]
      exact k H' s
    | true =>
      rw [hb] at hs
      obtain ⟨rfl, rfl⟩ := he hb
      have e1 : spLow a b = a := if_pos hs
      have e2 : spHigh a b = b := if_pos hs
      refine iteF ⟨_, rfl, p, dx, _, rfl, h1, p, a, b, rfl, S, _, rfl, sc_oV _ _, _, rfl, ?_⟩
      rw [e1, decide_eq_true rfl]
      refine iteT ⟨_, rfl, p, dx, _, rfl, h1, p, a, b, rfl, S, _, rfl, sc_oV _ _, _, rfl, ?_⟩
      rw [e2, decide_eq_true rfl]
      refine iteT ⟨_, rfl, _, rfl, p, dx, _, rfl, h1, p, a, b, rfl, S, _, rfl, _, rfl, ?_⟩
      rw [hs]
      refine iteT ⟨_, rfl, rfl, rfl, fun x H' s n z => ?_⟩
      obtain ⟨dx2, t2, g1, g2⟩ := z.ex
      refine ⟨p, dx, _, _, rfl, s _ _ h1, T.i_Span.ty g1, T.f_self, p, _, a, b, rfl, S.old s, .inl ⟨x, _, _, rfl, z, _, rfl, ?_⟩⟩
      have e : spEqB a b (some 1) (some 0) = false := by
        unfold spEqB
        rw [hs]
        rfl
      rw [e]
      exact k H' s
end
end RS

set_option maxRecDepth 100000
set_option maxHeartbeats 4000000
namespace RS
open PySem PySem.Spec PyProof.Rows L2
/-! ### the mathematics of the law -/
theorem has_some (lo hi : Option Int) (n : Int) : (spSome lo hi && hasO lo hi n) = hasO lo hi n := by
  cases lo <;> cases hi <;> simp [spSome, hasO]
  omega
def loB (a : Option Int) (n : Int) : Bool := match a with | none => true | some a => decide (a ≤ n)
def hiB (a : Option Int) (n : Int) : Bool := match a with | none => true | some a => decide (n ≤ a)
theorem hasO_eq (a b : Option Int) (n : Int) : hasO a b n = (loB a n && hiB b n) := rfl
theorem loB_up (a c : Option Int) (n : Int) : loB (upO a c) n = (loB a n && loB c n) := by
  cases a with
  | none => simp [upO, loB]
  | some a =>
    cases c with
    | none => simp [upO, loB]
    | some c =>
      rw [Bool.eq_iff_iff]
      unfold upO loB
      dsimp only
      by_cases h : a < c
      · rw [if_pos h]; simp; omega
      · rw [if_neg h]; simp; omega
theorem hiB_dn (a c : Option Int) (n : Int) : hiB (dnO a c) n = (hiB a n && hiB c n) := by
  cases a with
  | none => simp [dnO, hiB]
  | some a =>
    cases c with
    | none => simp [dnO, hiB]
    | some c =>
      rw [Bool.eq_iff_iff]
      unfold dnO hiB
      dsimp only
      by_cases h : c < a
      · rw [if_pos h]; simp; omega
      · rw [if_neg h]; simp; omega
theorem has_and (a b c d : Option Int) (n : Int) : hasO (andLo a b c d) (andHi a b c d) n = (hasO a b n && hasO c d n) := by
  by_cases h : spSome a b = true ∧ spSome c d = true
  · unfold andLo andHi
    rw [if_pos h, if_pos h, hasO_eq, hasO_eq, hasO_eq, loB_up, hiB_dn]
    cases loB a n <;> cases loB c n <;> cases hiB b n <;> cases hiB d n <;> rfl
  · unfold andLo andHi
    rw [if_neg h, if_neg h]
    have e : hasO (some 1) (some 0) n = false := by
      rw [Bool.eq_false_iff]
      simp [hasO]
      omega
    rw [e]
    cases h1 : spSome a b with
    | false => rw [← has_some a b, h1]; simp
    | true =>
      cases h2 : spSome c d with
      | false => rw [← has_some c d, h2]; simp
      | true => exact absurd ⟨h1, h2⟩ h
theorem and_comm_eq (a b c d : Option Int) : spEqB (andLo c d a b) (andHi c d a b) (andLo a b c d) (andHi a b c d) = true := by
  have h1 : andLo c d a b = andLo a b c d := by
    unfold andLo
    by_cases h : spSome a b = true ∧ spSome c d = true
    · rw [if_pos h, if_pos ⟨h.2, h.1⟩]
      cases a <;> cases c <;> simp [upO]
      (repeat' split) <;> (try simp) <;> omega
    · rw [if_neg h, if_neg fun z => h ⟨z.2, z.1⟩]
  have h2 : andHi c d a b = andHi a b c d := by
    unfold andHi
    by_cases h : spSome a b = true ∧ spSome c d = true
    · rw [if_pos h, if_pos ⟨h.2, h.1⟩]
      cases b <;> cases d <;> simp [dnO]
      (repeat' split) <;> (try simp) <;> omega
    · rw [if_neg h, if_neg fun z => h ⟨z.2, z.1⟩]
  rw [h1, h2]
  unfold spEqB
  simp
theorem and_every_eq (a b : Option Int) : spEqB (andLo a b none none) (andHi a b none none) a b = true := by
  unfold andLo andHi
  by_cases h : spSome a b = true
  · rw [if_pos ⟨h, rfl⟩, if_pos ⟨h, rfl⟩]
    have e1 : upO a none = a := by cases a <;> rfl
    have e2 : dnO b none = b := by cases b <;> rfl
    rw [e1, e2]
    unfold spEqB
    simp
  · rw [if_neg fun z => h z.1, if_neg fun z => h z.1]
    have h' : spSome a b = false := by simpa using h
    unfold spEqB spLow spHigh
    rw [h']
    simp [spSome]
theorem and_none (a b : Option Int) : spSome (andLo a b (some 1) (some 0)) (andHi a b (some 1) (some 0)) = false := by
  have e : spSome (some 1) (some 0) = false := rfl
  unfold andLo andHi
  rw [if_neg fun z => by rw [e] at z; exact Bool.noConfusion z.2, if_neg fun z => by rw [e] at z; exact Bool.noConfusion z.2]
  rfl
theorem last_eq (a b c d : Option Int) : spEqB a b c d = ((!spSome a b && !spSome c d) || (decide (a = c) && decide (b = d))) := by
  unfold spEqB spLow spHigh
  cases h1 : spSome a b <;> cases h2 : spSome c d
  · simp
  · simp
    intro e1 e2
    rw [e1, e2, h2] at h1
    cases h1
  · simp
    intro e1 e2
    rw [e1, e2, h2] at h1
    cases h1
  · simp
/-- what the law tells _law_ends of the common members -/
theorem both_some (a b c d : Option Int) (h : spSome a b = true ∧ spSome c d = true) : andLo a b c d = topO 1 a c ∧ andHi a b c d = topO (-1) b d := by
  unfold andLo andHi topO
  rw [if_pos h, if_pos h, if_pos rfl, if_neg (by decide)]
  exact ⟨rfl, rfl⟩
theorem both_none (a b c d : Option Int) (h : ¬ (spSome a b = true ∧ spSome c d = true)) : andLo a b c d = some 1 ∧ andHi a b c d = some 0 := by
  unfold andLo andHi
  rw [if_neg h, if_neg h]
  exact ⟨rfl, rfl⟩
theorem eqv_ends (a b c d : Option Int) : PyData.eqv (.list [oD a, oD b]) (.list [oD c, oD d]) = (decide (a = c) && decide (b = d)) := by
  rw [Bool.eq_iff_iff]
  cases a <;> cases b <;> cases c <;> cases d <;> simp [oD, PyData.eqv, PyData.eqvAll]
theorem shaped_ends (a b : Option Int) : SeqAt.shaped (.list [oD a, oD b]) = true := by cases a <;> cases b <;> rfl
theorem four {es : List (Option Int)} (h : es.length = 4) : ∃ a b c d, es = [a, b, c, d] := by
  match es, h with
  | [a, b, c, d], _ => exact ⟨a, b, c, d, rfl⟩
section
variable {P : Program} {w : World} {K : PySem.W.Frag} {mg : Str → Option Value} {base : Heap} {C : Addr}
def spLaw (K : Frg) : Sp := fun vs H Q _ => ∃ (a : Addr) (ns : List Int), vs = [.ref a] ∧ SqL K H a (ns.map V.int) ∧ ns.length ≤ 63 ∧ ∀ H', Q (.bl true) H'
abbrev s_law : Stmt := top 12
theorem sc_law : FnScope ["_law_script", "_law_pen_here", "_law_near", "_law_ends_here", "_law_both", "_law_marks", "_law_beside", "_law_mark", "_law_n", "_law_none", "_law_one", "_law_other", "_law_low", "_law_high", "_law_due", "_law_k", "_law_end_here", "_law_value"] ["_law_script"] (defScope s_law) := ⟨rfl, rfl, rfl, by decide +kernel, rfl, by decide +kernel, by decide +kernel⟩
theorem ok_law {f : Addr} {fd : FuncData} (F : FnP K "law" "law" s_law f fd) (T : TSpan K mg C) (M__law_pen : Cal P w K mg base CX0 1 "_law_pen" ["_law_script"] [] (spPen K))
    (M__law_draw : Cal P w K mg base CX0 1 "_law_draw" ["_law_pen_here", "_law_many"] [] spDraw) (M__law_end : Cal P w K mg base CX0 2 "_law_end" ["_law_pen_here", "_law_near"] [] spEnd)
    (M__law_has : Cal P w K mg base CX0 1 "_law_has" ["_law_low", "_law_high", "_law_n"] [] spHas) (M__law_some : Cal P w K mg base CX0 1 "_law_some" ["_law_low", "_law_high"] [] spSome_)
    (M__law_tops : Cal P w K mg base CX0 1 "_law_tops" ["_law_ends_here", "_law_sign"] [] spTops) (M__law_ends : Cal P w K mg base CX0 5 "_law_ends" ["_law_told", "_law_low", "_law_high"] [] (spEnds C))
    (M_Span_init : Mkr P w K mg base CX0 1 "Span" C ["self", "low", "high"] [] (spSInit C))
    (M_Span_low : Prp P w K mg base CX0 1 C "low" ["self"] [] (spSLow C)) (M_Span_bool : Mtd P w K mg base CX0 1 C "__bool__" ["self"] [] (spSBool C)) (M_Span_contains : Mtd P w K mg base CX0 2 C "__contains__" ["self", "n"] [] (spSHas K C))
    (M_Span_and : Mtd P w K mg base CX0 3 C "__and__" ["self", "other"] [] (spSAnd C))
    (M_Span_eq : Mtd P w K mg base CX0 1 C "__eq__" ["self", "other"] [] (spSEq K C)) (M_Span_none : Stc P w K mg base CX0 3 C "none" [] [] (spSNew C (some 1) (some 0))) (M_Span_every : Stc P w K mg base CX0 3 C "every" [] [] (spSNew C none none)) :
    FnOk P w K mg base CX0 7 f fd ["_law_script"] (spLaw K) := by
  refine F.ok sc_law (fun vs H Q E h => ?_) (fun cdv A outer s H vs Q E hr h => ?_)
  · obtain ⟨a, ns, rfl, _⟩ := h
    rfl
  · obtain ⟨a, ns, rfl, hS, hlen, k⟩ := h
    refine ⟨_, PSs.nox (pss_cons (ps_set (i := 1) sc_law.nd rfl (by first | exact Or.inl rfl | exact Or.inr rfl) (pe_fn M__law_pen (hr.mono (by decide)) pass0 (pa_cons (pv 0) pa_nil)))
      (pss_cons (ps_set (i := 2) sc_law.nd rfl (by first | exact Or.inl rfl | exact Or.inr rfl) (pe_op op_mul (pe_op op_sub pe_int (pe_op op_mul pe_int (pe_fn M__law_draw (hr.mono (by decide)) pass0 (pa_cons (pv 1) (pa_cons pe_int pa_nil))))) (pe_fn M__law_draw (hr.mono (by decide)) pass0 (pa_cons (pv 1) (pa_cons (pe_ix ix_list (pe_lst (pa_cons pe_int (pa_cons (pe_op op_pow pe_int pe_int) pa_nil))) (pe_fn M__law_draw (hr.mono (by decide)) pass0 (pa_cons (pv 1) (pa_cons pe_int pa_nil))) (fun _ _ => rfl)) pa_nil)))))
      (pss_cons (ps_setLc (i := 3) (own := [("_law_k", 15)]) (by rfl) sc_law.nd rfl rfl (sw_true rfl rfl rfl (by decide +kernel)) (pi_range1 (by rfl) T.b_range (pa_cons pe_int pa_nil)) (blkOk_by (own := [("_law_k", 15)]) (N := ["_law_script", "_law_pen_here", "_law_near", "_law_ends_here", "_law_both", "_law_marks", "_law_beside", "_law_mark", "_law_n", "_law_none", "_law_one", "_law_other", "_law_low", "_law_high", "_law_due", "_law_k", "_law_end_here", "_law_value"]) (sc := defScope s_law) (by decide +kernel)) (fun _ _ _ _ _ => (pg_name (i := 15) sc_law.nd rfl (by first | exact Or.inl rfl | exact Or.inr rfl))) (fun _ _ _ _ _ => pts_nil) (fun _ _ _ _ _ => (pe_fn M__law_end (hr.mono (by decide)) pass0 (pa_cons (pv 1) (pa_cons (pv 2) pa_nil)))))
      (Evl.pss_cut (ps_if (pt_cmpR op_eq (pe_fn M__law_draw (hr.mono (by decide)) pass0 (pa_cons (pv 1) (pa_cons pe_int pa_nil))) pe_int (nomark _)) (pss_one (ps_set (i := 3) sc_law.nd rfl (by first | exact Or.inl rfl | exact Or.inr rfl) (pe_lst (pa_cons (pe_ix ix_list (pv 3) pe_int (fun _ _ => rfl)) (pa_cons (pe_ix ix_list (pv 3) pe_int (fun _ _ => rfl)) (pa_cons (pe_ix ix_list (pv 3) pe_int (fun _ _ => rfl)) (pa_cons (pe_ix ix_list (pv 3) pe_int (fun _ _ => rfl)) pa_nil))))))) pss_nil)
      (pss_cons (ps_par (i := 10) (j := 11) (by rfl) sc_law.nd rfl rfl (by decide) rfl rfl (pa_cons (pe_mk M_Span_init (hr.mono (by decide)) pass0 (pa_cons (pe_ix ix_list (pv 3) pe_int (fun _ _ => rfl)) (pa_cons (pe_ix ix_list (pv 3) pe_int (fun _ _ => rfl)) pa_nil))) (pa_cons (pe_mk M_Span_init (hr.mono (by decide)) pass0 (pa_cons (pe_ix ix_list (pv 3) pe_int (fun _ _ => rfl)) (pa_cons (pe_ix ix_list (pv 3) pe_int (fun _ _ => rfl)) pa_nil))) pa_nil)) (by rfl))
      (Evl.pss_cut (ps_if (PW.pt (pw_or (pt_not (pt_val (pe_fn M__law_ends (hr.mono (by decide)) pass0 (pa_cons (pv 10) (pa_cons (pe_ix ix_list (pv 3) pe_int (fun _ _ => rfl)) (pa_cons (pe_ix ix_list (pv 3) pe_int (fun _ _ => rfl)) pa_nil)))))) (pw_or1 (pt_not (pt_val (pe_fn M__law_ends (hr.mono (by decide)) pass0 (pa_cons (pv 11) (pa_cons (pe_ix ix_list (pv 3) pe_int (fun _ _ => rfl)) (pa_cons (pe_ix ix_list (pv 3) pe_int (fun _ _ => rfl)) pa_nil))))))))) (pss_one (ps_ret pe_bl)) pss_nil)
      (pss_cons (ps_par (i := 12) (j := 13) (by rfl) sc_law.nd rfl rfl (by decide) rfl rfl (pa_cons (pe_fn M__law_tops (hr.mono (by decide)) pass0 (pa_cons (pe_lst (pa_cons (pe_ix ix_list (pv 3) pe_int (fun _ _ => rfl)) (pa_cons (pe_ix ix_list (pv 3) pe_int (fun _ _ => rfl)) pa_nil))) (pa_cons pe_int pa_nil))) (pa_cons (pe_fn M__law_tops (hr.mono (by decide)) pass0 (pa_cons (pe_lst (pa_cons (pe_ix ix_list (pv 3) pe_int (fun _ _ => rfl)) (pa_cons (pe_ix ix_list (pv 3) pe_int (fun _ _ => rfl)) pa_nil))) (pa_cons (pe_un un_neg pe_int) pa_nil))) pa_nil)) (by rfl))
      (Evl.pss_cut (ps_if (PW.pt (pw_or (pt_not (pt_val (pe_fn M__law_some (hr.mono (by decide)) pass0 (pa_cons (pe_ix ix_list (pv 3) pe_int (fun _ _ => rfl)) (pa_cons (pe_ix ix_list (pv 3) pe_int (fun _ _ => rfl)) pa_nil))))) (pw_or1 (pt_not (pt_val (pe_fn M__law_some (hr.mono (by decide)) pass0 (pa_cons (pe_ix ix_list (pv 3) pe_int (fun _ _ => rfl)) (pa_cons (pe_ix ix_list (pv 3) pe_int (fun _ _ => rfl)) pa_nil)))))))) (pss_one (ps_asg (pe_tup (pa_cons pe_int (pa_cons pe_int pa_nil))) (pg_tup (by rfl) (pgs_cons (pg_name (i := 12) sc_law.nd rfl (by first | exact Or.inl rfl | exact Or.inr rfl)) (pgs_cons (pg_name (i := 13) sc_law.nd rfl (by first | exact Or.inl rfl | exact Or.inr rfl)) pgs_nil))))) pss_nil)
      (pss_cons (ps_set (i := 4) sc_law.nd rfl (by first | exact Or.inl rfl | exact Or.inr rfl) (pe_op (op_binOwn M_Span_and (hr.mono (by decide)) pass0 T.sf_Span) (pv 10) (pv 11)))
      (Evl.pss_cut (ps_if (PW.pt (pw_or (pt_not (pt_val (pe_fn M__law_ends (hr.mono (by decide)) pass0 (pa_cons (pv 4) (pa_cons (pv 12) (pa_cons (pv 13) pa_nil)))))) (pw_or (pt_cmpR (op_neOwn T.ne_Span M_Span_eq (hr.mono (by decide)) pass0) (pe_op (op_binOwn M_Span_and (hr.mono (by decide)) pass0 T.sf_Span) (pv 11) (pv 10)) (pv 4) (nomark _)) (pw_or1 (pt_cmpR (op_neOwn T.ne_Span M_Span_eq (hr.mono (by decide)) pass0) (pe_op (op_binOwn M_Span_and (hr.mono (by decide)) pass0 T.sf_Span) (pv 10) (pe_st0 M_Span_every (hr.mono (by decide)) pass0 (pe_glob (v := .ref C) rfl T.g_Span rfl))) (pv 10) (nomark _)))))) (pss_one (ps_ret pe_bl)) pss_nil)
      (Evl.pss_cut (ps_if (PW.pt (pw_or (pt_own (tru_own M_Span_bool (hr.mono (by decide)) pass0) (pe_op (op_binOwn M_Span_and (hr.mono (by decide)) pass0 T.sf_Span) (pv 10) (pe_st0 M_Span_none (hr.mono (by decide)) pass0 (pe_glob (v := .ref C) rfl T.g_Span rfl)))) (pw_or (pt_cmpR op_notN (pe_pr T.c_Span M_Span_low (hr.mono (by decide)) pass0 (pe_st0 M_Span_every (hr.mono (by decide)) pass0 (pe_glob (v := .ref C) rfl T.g_Span rfl))) pe_non (nomark _)) (pw_or1 (pt_not (pt_own (tru_own M_Span_bool (hr.mono (by decide)) pass0) (pe_st0 M_Span_every (hr.mono (by decide)) pass0 (pe_glob (v := .ref C) rfl T.g_Span rfl)))))))) (pss_one (ps_ret pe_bl)) pss_nil)
      (pss_cons (ps_set (i := 5) sc_law.nd rfl (by first | exact Or.inl rfl | exact Or.inr rfl) (pe_op op_cat (pe_lc (own := [("_law_end_here", 16)]) (by rfl) sc_law.nd (pi_list (pv 3)) (blkOk_by (own := [("_law_end_here", 16)]) (N := ["_law_script", "_law_pen_here", "_law_near", "_law_ends_here", "_law_both", "_law_marks", "_law_beside", "_law_mark", "_law_n", "_law_none", "_law_one", "_law_other", "_law_low", "_law_high", "_law_due", "_law_k", "_law_end_here", "_law_value"]) (sc := defScope s_law) (by decide +kernel)) (fun _ _ _ _ _ => (pg_name (i := 16) sc_law.nd rfl (by first | exact Or.inl rfl | exact Or.inr rfl))) (fun _ _ _ _ _ => (pts_one (pt_cmpR op_notN (pv 16) pe_non (nomark _)))) (fun _ _ _ _ _ => (pv 16))) (pe_lst (pa_cons (pv 2) (pa_cons (pe_un un_neg (pv 2)) pa_nil)))))
      (pss_cons (ps_set (i := 6) sc_law.nd rfl (by first | exact Or.inl rfl | exact Or.inr rfl) (pe_lst (pa_cons (pe_op op_pow pe_int pe_int) (pa_cons (pe_un un_neg (pe_op op_pow pe_int pe_int)) pa_nil))))
      (pss_cons (ps_for PassesOwn.never rfl (pi_list (pv 5)) (pg_name (i := 7) sc_law.nd rfl (by first | exact Or.inl rfl | exact Or.inr rfl)) (pss_one (ps_set (i := 6) sc_law.nd rfl (by first | exact Or.inl rfl | exact Or.inr rfl) (pe_op op_cat (pv 6) (pe_lst (pa_cons (pe_op op_sub (pv 7) pe_int) (pa_cons (pv 7) (pa_cons (pe_op op_add (pv 7) pe_int) pa_nil))))))))
      (pss_cons (ps_for PassesOwn.never rfl (pi_list (pv 6)) (pg_name (i := 8) sc_law.nd rfl (by first | exact Or.inl rfl | exact Or.inr rfl)) (pss_cons (ps_set (i := 14) sc_law.nd rfl (by first | exact Or.inl rfl | exact Or.inr rfl) (pe_lst (pa_cons (pe_fn M__law_has (hr.mono (by decide)) pass0 (pa_cons (pe_ix ix_list (pv 3) pe_int (fun _ _ => rfl)) (pa_cons (pe_ix ix_list (pv 3) pe_int (fun _ _ => rfl)) (pa_cons (pv 8) pa_nil)))) (pa_cons (pe_fn M__law_has (hr.mono (by decide)) pass0 (pa_cons (pe_ix ix_list (pv 3) pe_int (fun _ _ => rfl)) (pa_cons (pe_ix ix_list (pv 3) pe_int (fun _ _ => rfl)) (pa_cons (pv 8) pa_nil)))) pa_nil))))
      (pss_one (ps_if (PW.pt (pw_or (pt_cmpR op_ne (pe_cmpR (op_inOwn M_Span_contains (hr.mono (by decide)) pass0) (pv 8) (pv 10) rfl) (pe_ix ix_list (pv 14) pe_int (fun _ _ => rfl)) (nomark _)) (pw_or (pt_cmpR op_ne (pe_cmpR (op_inOwn M_Span_contains (hr.mono (by decide)) pass0) (pv 8) (pv 11) rfl) (pe_ix ix_list (pv 14) pe_int (fun _ _ => rfl)) (nomark _)) (pw_or1 (pt_cmpR op_ne (pe_cmpR (op_inOwn M_Span_contains (hr.mono (by decide)) pass0) (pv 8) (pv 4) rfl) (pe_and (pe_ix ix_list (pv 14) pe_int (fun _ _ => rfl)) (pe_one (pe_ix ix_list (pv 14) pe_int (fun _ _ => rfl)))) (nomark _)))))) (pss_one (ps_ret pe_bl)) pss_nil))))
      (Evl.pss_cut (ps_if (PW.pt (pw_or (pt_val (pe_callB (cr_any rfl) (by rfl) T.b_any (by decide +kernel) (pa_cons (pe_lc (own := [("_law_value", 17)]) (by rfl) sc_law.nd (pi_list (pe_lst (pa_cons pe_non (pa_cons pe_bl (pa_cons pe_bl (pa_cons pe_str (pa_cons (pe_tup (pa_cons pe_int pa_nil)) (pa_cons (pe_lst (pa_cons pe_int pa_nil)) pa_nil)))))))) (blkOk_by (own := [("_law_value", 17)]) (N := ["_law_script", "_law_pen_here", "_law_near", "_law_ends_here", "_law_both", "_law_marks", "_law_beside", "_law_mark", "_law_n", "_law_none", "_law_one", "_law_other", "_law_low", "_law_high", "_law_due", "_law_k", "_law_end_here", "_law_value"]) (sc := defScope s_law) (by decide +kernel)) (fun _ _ _ _ _ => (pg_name (i := 17) sc_law.nd rfl (by first | exact Or.inl rfl | exact Or.inr rfl))) (fun _ _ _ _ _ => pts_nil) (fun _ _ _ _ _ => (pe_cmpR (op_inOwn M_Span_contains (hr.mono (by decide)) pass0) (pv 17) (pe_st0 M_Span_every (hr.mono (by decide)) pass0 (pe_glob (v := .ref C) rfl T.g_Span rfl)) rfl))) pa_nil))) (pw_or1 (pt_cmpR (op_eqOwn M_Span_eq (hr.mono (by decide)) pass0) (pv 10) (pe_ix ix_list (pv 3) pe_int (fun _ _ => rfl)) (nomark _))))) (pss_one (ps_ret pe_bl)) pss_nil)
      (Evl.pss_cut (ps_set (i := 9) sc_law.nd rfl (by first | exact Or.inl rfl | exact Or.inr rfl) (pe_and (pe_not (pe_fn M__law_some (hr.mono (by decide)) pass0 (pa_cons (pe_ix ix_list (pv 3) pe_int (fun _ _ => rfl)) (pa_cons (pe_ix ix_list (pv 3) pe_int (fun _ _ => rfl)) pa_nil)))) (pe_one (pe_not (pe_fn M__law_some (hr.mono (by decide)) pass0 (pa_cons (pe_ix ix_list (pv 3) pe_int (fun _ _ => rfl)) (pa_cons (pe_ix ix_list (pv 3) pe_int (fun _ _ => rfl)) pa_nil)))))))
      (pss_one (ps_ret (pe_cmpR op_eq (pe_cmpR (op_eqOwn M_Span_eq (hr.mono (by decide)) pass0) (pv 10) (pv 11) (nomark _)) (pe_or (pv 9) (pe_one (pe_cmpR (op_eqD hr.units) (pe_slice sl_list (pv 3) po_none (po_some pe_int)) (pe_slice sl_list (pv 3) (po_some pe_int) po_none) (nomark _)))) (nomark _))))))))))))))))))))), ?_⟩
    -- the pen
    refine ⟨_, rfl, a, ns, rfl, hS, fun p c H1 s1 np nc P1 => ?_⟩
    -- near
    refine ⟨_, rfl, p, c, 2, 100, rfl, by decide, by decide +kernel, P1.mono (by decide), fun d0 H2 a0 b0 P2 s2 => ?_⟩
    refine ⟨_, _, rfl, rfl, .inl ⟨by decide, by decide⟩, _, _, rfl, rfl, _, rfl, _, _, rfl, rfl, ⟨by decide, by decide, by decide⟩, by show 2 ≤ sizeLine; rw [sizeLine_eq]; decide, fun l hl => ?_⟩
    refine ⟨_, rfl, p, c, 2, 99, rfl, by decide, by decide +kernel, P2.new hl, fun d1 H3 a1 b1 P3 s3 => ?_⟩
    have hl3 := s3.at (P2.fresh_ne hl) upd_same
    have hm : ∃ m, atI [V.int 9, V.int (10 ^ 40)] d1 = some (.int m) ∧ 0 < m ∧ m.natAbs.log2 < 9000 := by
      have hd : d1 = 0 ∨ d1 = 1 := by omega
      rcases hd with rfl | rfl
      · exact ⟨9, rfl, by decide, by decide +kernel⟩
      · exact ⟨10 ^ 40, rfl, by decide, by decide +kernel⟩
    obtain ⟨m, hm0, hm1, hm2⟩ := hm
    refine ⟨l, _, _, _, rfl, rfl, SqL.of hl3, hm0, p, c, m, 98, rfl, hm1, hm2, P3, fun d2 H4 a2 b2 P4 s4 => ⟨_, _, rfl, rfl, .inl ⟨by omega, by omega⟩, ?_⟩⟩
    -- the ends
    refine ⟨_, rfl, by decide, by decide, fun D hD => lc_range (lo := 0) (n := 4) (fun i H' => ∃ es : List (Option Int), es.length = i ∧ H' D = some (.lst (es.map oV)) ∧ Pen H' p c (31 - 6 * i)) ⟨[], rfl, upd_same, (P4.new hD).mono (by decide)⟩ ?_ ?_⟩
    · rintro i H' hi ⟨es, he, hD', P'⟩
      have e6 : 31 - 6 * i = (31 - 6 * (i + 1)) + 6 := by omega
      refine ⟨rfl, ?_⟩
      refine ⟨_, rfl, _, rfl, p, c, _, 31 - 6 * (i + 1), rfl, e6 ▸ P', fun e H2 P2 s2 => ⟨_, s2.at (P4.fresh_ne hD) hD', by rw [List.length_map, sizeLine_eq]; omega, ?_⟩⟩
      exact ⟨es ++ [e], by rw [List.length_append]; simpa using he, by rw [upd_same, List.map_append]; rfl, P2.mut (P4.fresh_ne hD) (P4.fresh_ne2 hD)⟩
    · rintro H5 ⟨es, he, hD5, P5⟩
      obtain ⟨e0, e1, e2', e3', rfl⟩ := four he
      -- the same ends twice
      refine ⟨fun σ' H' => ∃ (L : Addr) (e2 e3 : Option Int) (near : Int), σ' = [some (.ref a), some (.ref p), some (.int near), some (.ref L), none, none, none, none, none, none, none, none, none, none, none, none, none, none] ∧ H' L = some (.lst [oV e0, oV e1, oV e2, oV e3]), ?_, ?_⟩
      · refine ⟨_, rfl, p, c, 4, 0, rfl, by decide, by decide +kernel, P5.mono (by decide), fun d3 H6 a3 b3 P6 s6 => ?_⟩
        have hD6 := s6.at (P4.fresh_ne hD) hD5
        refine ⟨rfl, _, rfl, ?_⟩
        refine ite2 (fun _ => ?_) (fun _ => ⟨D, e2', e3', _, rfl, hD6⟩)
        refine ⟨_, rfl, D, _, _, _, rfl, rfl, SqL.of hD6, rfl, _, rfl, D, _, _, _, rfl, rfl, SqL.of hD6, rfl, _, rfl, D, _, _, _, rfl, rfl, SqL.of hD6, rfl, _, rfl, D, _, _, _, rfl, rfl, SqL.of hD6, rfl, by show 4 ≤ sizeLine; rw [sizeLine_eq]; decide, fun l2 hl2 => ?_⟩
        exact ⟨l2, e0, e1, _, rfl, upd_same⟩
      · rintro σ' H' ⟨L, e2, e3, near, rfl, hL⟩
        -- the two spans
        refine ⟨_, rfl, L, _, _, _, rfl, rfl, SqL.of hL, rfl, _, rfl, L, _, _, _, rfl, rfl, SqL.of hL, rfl, ?_⟩
        intro x1 dx1 nx1 nd1 ne1
        refine ⟨x1, dx1, e0, e1, rfl, upd_same, fun H7 s7' S1 => ⟨rfl, ?_⟩⟩
        have s7 := Same.made nx1 nd1 s7'
        have hL7 := s7 _ _ hL
        refine ⟨_, rfl, L, _, _, _, rfl, rfl, SqL.of hL7, rfl, _, rfl, L, _, _, _, rfl, rfl, SqL.of hL7, rfl, ?_⟩
        intro x2 dx2 nx2 nd2 ne2
        refine ⟨x2, dx2, e2, e3, rfl, upd_same, fun H8 s8' S2 => ⟨rfl, _, _, rfl, ?_⟩⟩
        have s8 := Same.made nx2 nd2 s8'
        have hL8 := s8 _ _ hL7
        have S18 := S1.old s8
        clear nx1 nd1 ne1 nx2 nd2 ne2 s7' s8' hL7 S1
        have ix : ∀ {H' : Hp} (_ : Same H8 H'), SqL K H' L [oV e0, oV e1, oV e2, oV e3] := fun u => SqL.of (u _ _ hL8)
        have at1 : ∀ {H' : Hp}, Same H8 H' → ∃ dx fs, H' x1 = some (.ins C dx fs) := fun u => by obtain ⟨dx, t, h1, _⟩ := (S18.old u).ex; exact ⟨_, _, h1⟩
        have at2 : ∀ {H' : Hp}, Same H8 H' → ∃ dx fs, H' x2 = some (.ins C dx fs) := fun u => by obtain ⟨dx, t, h1, _⟩ := (S2.old u).ex; exact ⟨_, _, h1⟩
        -- both tell their ends
        refine ⟨fun σ' H' => σ' = [some (.ref a), some (.ref p), some (.int near), some (.ref L), none, none, none, none, none, none, some (.ref x1), some (.ref x2), none, none, none, none, none, none] ∧ Same H8 H', ?_, ?_⟩
        · refine ⟨_, rfl, _, rfl, L, _, _, _, rfl, rfl, ix (Same.refl _), rfl, _, rfl, L, _, _, _, rfl, rfl, ix (Same.refl _), rfl, x1, e0, e1, e0, e1, rfl, S18, rfl, fun _ => ⟨rfl, rfl⟩, fun H9 u9 => ⟨_, rfl, iteF ?_⟩⟩
          refine ⟨_, rfl, _, rfl, L, _, _, _, rfl, rfl, ix u9, rfl, _, rfl, L, _, _, _, rfl, rfl, ix u9, rfl, x2, e2, e3, e2, e3, rfl, S2.old u9, rfl, fun _ => ⟨rfl, rfl⟩, fun H10 u10 => ⟨_, rfl, iteF ⟨rfl, u9.trans u10⟩⟩⟩
        · rintro σ' H9 ⟨rfl, u9⟩
          -- low, high
          refine ⟨_, rfl, L, _, _, _, rfl, rfl, ix u9, rfl, _, rfl, L, _, _, _, rfl, rfl, ix u9, rfl, by show 2 ≤ sizeLine; rw [sizeLine_eq]; decide, fun l1 hl1 => ⟨l1, 1, e0, e2, rfl, .inl rfl, upd_same, ?_⟩⟩
          have u10 := u9.trans (Same.new (o := .lst [oV e0, oV e2]) hl1)
          refine ⟨_, rfl, L, _, _, _, rfl, rfl, ix u10, rfl, _, rfl, L, _, _, _, rfl, rfl, ix u10, rfl, by show 2 ≤ sizeLine; rw [sizeLine_eq]; decide, fun l2 hl2 => ⟨_, rfl, l2, -1, e1, e3, rfl, .inr rfl, upd_same, _, _, rfl, ?_⟩⟩
          have u11 := u10.trans (Same.new (o := .lst [oV e1, oV e3]) hl2)
          refine ⟨fun σ' H' => σ' = [some (.ref a), some (.ref p), some (.int near), some (.ref L), none, none, none, none, none, none, some (.ref x1), some (.ref x2), some (oV (andLo e0 e1 e2 e3)), some (oV (andHi e0 e1 e2 e3)), none, none, none, none] ∧ Same H8 H', ?_, ?_⟩
          · refine ⟨_, rfl, L, _, _, _, rfl, rfl, ix u11, rfl, _, rfl, L, _, _, _, rfl, rfl, ix u11, rfl, e0, e1, rfl, _, rfl, ?_⟩
            by_cases h1 : spSome e0 e1 = true
            · rw [h1]
              refine iteF ⟨_, rfl, L, _, _, _, rfl, rfl, ix u11, rfl, _, rfl, L, _, _, _, rfl, rfl, ix u11, rfl, e2, e3, rfl, _, rfl, ?_⟩
              by_cases h2 : spSome e2 e3 = true
              · rw [h2]
                obtain ⟨z1, z2⟩ := both_some e0 e1 e2 e3 ⟨h1, h2⟩
                rw [z1, z2]
                exact iteF ⟨rfl, u11⟩
              · rw [show spSome e2 e3 = false by simpa using h2]
                obtain ⟨z1, z2⟩ := both_none e0 e1 e2 e3 (fun z => h2 z.2)
                rw [z1, z2]
                exact iteT ⟨by show 2 ≤ sizeLine; rw [sizeLine_eq]; decide, fun t ht => ⟨t, _, rfl, SqT.of upd_same, rfl, _, _, rfl, _, _, rfl, rfl, rfl, u11.trans (Same.new ht)⟩⟩
            · rw [show spSome e0 e1 = false by simpa using h1]
              obtain ⟨z1, z2⟩ := both_none e0 e1 e2 e3 (fun z => h1 z.1)
              rw [z1, z2]
              exact iteT (iteT ⟨by show 2 ≤ sizeLine; rw [sizeLine_eq]; decide, fun t ht => ⟨t, _, rfl, SqT.of upd_same, rfl, _, _, rfl, _, _, rfl, rfl, rfl, u11.trans (Same.new ht)⟩⟩)
          · rintro σ' H12 ⟨rfl, u12⟩
            obtain ⟨dx1, f1, g1⟩ := at1 u12
            obtain ⟨dx2, f2, g2⟩ := at2 u12
            refine ⟨_, rfl, _, rfl, x1, dx1, f1, x2, dx2, f2, rfl, rfl, g1, g2, x1, x2, e0, e1, e2, e3, rfl, S18.old u12, S2.old u12, fun xb H13 s13 nb Sb => ?_⟩
            have u13 := u12.trans s13
            refine ⟨fun σ' H' => σ' = [some (.ref a), some (.ref p), some (.int near), some (.ref L), some (.ref xb), none, none, none, none, none, some (.ref x1), some (.ref x2), some (oV (andLo e0 e1 e2 e3)), some (oV (andHi e0 e1 e2 e3)), none, none, none, none] ∧ Same H13 H', ?_, ?_⟩
            · refine ⟨_, rfl, _, rfl, _, rfl, xb, _, _, _, _, rfl, Sb, rfl, fun _ => ⟨rfl, rfl⟩, fun H14 s14 => ⟨_, rfl, iteF ?_⟩⟩
              have u14 := u13.trans s14
              obtain ⟨dx1, f1, g1⟩ := at1 u14
              obtain ⟨dx2, f2, g2⟩ := at2 u14
              refine ⟨_, rfl, _, rfl, x2, dx2, f2, x1, dx1, f1, rfl, rfl, g2, g1, x2, x1, e2, e3, e0, e1, rfl, S2.old u14, S18.old u14, fun y H15 s15 ny Sy => ?_⟩
              obtain ⟨dy, ty, gy, _⟩ := id Sy.ex
              have Sb15 := (Sb.old s14).old s15
              obtain ⟨db, tb, gb, _⟩ := id Sb15.ex
              refine ⟨_, rfl, y, dy, _, _, rfl, gy, T.i_Span.ty gb, T.f_self, y, _, _, _, rfl, Sy, .inl ⟨xb, _, _, rfl, Sb15, _, rfl, _, rfl, ?_⟩⟩
              rw [and_comm_eq]
              refine iteF ?_
              have u15 := u14.trans s15
              refine ⟨_, rfl, rfl, rfl, fun ev H16 s16 ne Se => ?_⟩
              have u16 := u15.trans s16
              obtain ⟨dx1, f1, g1⟩ := at1 u16
              obtain ⟨de, te, ge, _⟩ := id Se.ex
              refine ⟨x1, dx1, f1, ev, de, _, rfl, rfl, g1, ge, x1, ev, e0, e1, none, none, rfl, S18.old u16, Se, fun z H17 s17 nz Sz => ?_⟩
              have u17 := u16.trans s17
              obtain ⟨dx1, f1, g1⟩ := at1 u17
              obtain ⟨dz, tz, gz, _⟩ := id Sz.ex
              refine ⟨_, rfl, z, dz, _, _, rfl, gz, T.i_Span.ty g1, T.f_self, z, _, _, _, rfl, Sz, .inl ⟨x1, e0, e1, rfl, S18.old u17, _, rfl, _, rfl, ?_⟩⟩
              rw [and_every_eq]
              exact iteF ⟨rfl, s14.trans (s15.trans (s16.trans s17))⟩
            · rintro σ' H14 ⟨rfl, s14⟩
              have u14 := u13.trans s14
              have Sb14 := Sb.old s14
              refine ⟨fun σ' H' => σ' = [some (.ref a), some (.ref p), some (.int near), some (.ref L), some (.ref xb), none, none, none, none, none, some (.ref x1), some (.ref x2), some (oV (andLo e0 e1 e2 e3)), some (oV (andHi e0 e1 e2 e3)), none, none, none, none] ∧ Same H14 H', ?_, ?_⟩
              · refine ⟨_, rfl, rfl, rfl, fun n0 H15 s15 nn Sn => ?_⟩
                have u15 := u14.trans s15
                obtain ⟨dx1, f1, g1⟩ := at1 u15
                obtain ⟨dn, tn, gn, _⟩ := id Sn.ex
                refine ⟨x1, dx1, f1, n0, dn, _, rfl, rfl, g1, gn, x1, n0, e0, e1, some 1, some 0, rfl, S18.old u15, Sn, fun z H16 s16 nz Sz => ?_⟩
                obtain ⟨dz, tz, gz, _⟩ := id Sz.ex
                refine ⟨z, dz, _, rfl, gz, z, _, _, rfl, Sz, _, rfl, ?_⟩
                rw [and_none]
                refine iteF ⟨rfl, rfl, fun ev H17 s17 ne Se => ?_⟩
                obtain ⟨de, te, ge, _⟩ := id Se.ex
                refine ⟨ev, de, _, rfl, ge, ev, _, _, rfl, Se, rfl, _, rfl, iteF ⟨rfl, rfl, fun ev2 H18 s18 ne2 Se2 => ?_⟩⟩
                obtain ⟨de2, te2, ge2, _⟩ := id Se2.ex
                exact ⟨ev2, de2, _, rfl, ge2, ev2, _, _, rfl, Se2, _, rfl, iteF ⟨rfl, s15.trans (s16.trans (s17.trans s18))⟩⟩
              · rintro σ' H15 ⟨rfl, s15⟩
                have u15 := u14.trans s15
                have Sb15 := Sb14.old s15
                clear s14 u14 Sb14 s15
                have sz : ∀ n : Nat, n ≤ 40 → n ≤ sizeLine := fun n h => by rw [sizeLine_eq]; omega
                -- the marks
                refine ⟨_, rfl, L, rfl, ⟨_, ix u15⟩, fun D hD => lc_list (xs := [oV e0, oV e1, oV e2, oV e3]) (fun i H' => Same H15 H' ∧ ∃ cs : List Int, H' D = some (.lst (cs.map V.int)) ∧ cs.length ≤ i) ⟨Same.new hD, [], upd_same, Nat.le_refl _⟩ (fun i H' _ z => ix (u15.trans z.1)) ?_ ?_⟩
                · rintro i x H' hi ⟨t', cs, hD', hc⟩
                  have hi2 : i < 4 := (List.getElem?_eq_some_iff.mp hi).1
                  have hx : ∃ o : Option Int, x = oV o := by
                    obtain rfl | rfl | rfl | rfl : i = 0 ∨ i = 1 ∨ i = 2 ∨ i = 3 := by omega
                    · exact ⟨e0, (Option.some.inj hi).symm⟩
                    · exact ⟨e1, (Option.some.inj hi).symm⟩
                    · exact ⟨e2, (Option.some.inj hi).symm⟩
                    · exact ⟨e3, (Option.some.inj hi).symm⟩
                  obtain ⟨o, rfl⟩ := hx
                  cases o with
                  | none => exact ⟨rfl, _, rfl, rfl, _, rfl, iteF ⟨t', cs, hD', by omega⟩⟩
                  | some z =>
                    refine ⟨rfl, _, rfl, rfl, _, rfl, iteT ⟨_, rfl, _, hD', by rw [List.length_map, sizeLine_eq]; omega, Same.mut t' hD, cs ++ [z], ?_, ?_⟩⟩
                    · rw [upd_same, List.map_append]; rfl
                    · rw [List.length_append]; simpa using hc
                · rintro H16 ⟨t16, cs, hD16, hc⟩
                  have u16 := u15.trans t16
                  refine ⟨_, rfl, _, rfl, _, rfl, sz 2 (by decide), fun l1 hl1 => ⟨D, l1, cs.map V.int, [.int near, .int (-near)], rfl, rfl, upd_old hl1 hD16, upd_same, by rw [List.length_map]; exact sz _ (by show cs.length + 2 ≤ 40; have : cs.length ≤ 4 := hc; omega), fun M hM => ?_⟩⟩
                  have u17 := (u16.trans (Same.new (o := .lst [.int near, .int (-near)]) hl1)).trans (Same.new (o := .lst (cs.map V.int ++ [.int near, .int (-near)])) hM)
                  have ms : ∃ ms : List Int, ms.length ≤ 6 ∧ cs.map V.int ++ [V.int near, V.int (-near)] = ms.map V.int := ⟨cs ++ [near, -near], by rw [List.length_append]; have : cs.length ≤ 4 := hc; show cs.length + 2 ≤ 6; omega, by rw [List.map_append]; rfl⟩
                  obtain ⟨ms, hms, ems⟩ := ms
                  rw [ems] at u17 ⊢
                  have hM17 : (upd (upd H16 l1 (.lst [.int near, .int (-near)])) M (.lst (ms.map V.int))) M = some (.lst (ms.map V.int)) := upd_same
                  have S17 : ∃ H17 : Hp, H17 = upd (upd H16 l1 (.lst [.int near, .int (-near)])) M (.lst (ms.map V.int)) := ⟨_, rfl⟩
                  obtain ⟨H17, e17⟩ := S17
                  have t17 : Same H15 H17 := by rw [e17]; exact (t16.trans (Same.new hl1)).trans (Same.new hM)
                  rw [← e17] at u17 hM17 ⊢
                  clear e17
                  -- the numbers beside
                  refine ⟨_, _, rfl, rfl, ⟨by decide, by decide, by decide⟩, _, _, rfl, rfl, ⟨by decide, by decide, by decide⟩, _, rfl, sz 2 (by decide), fun l2 hl2 => ?_⟩
                  refine ⟨_, rfl, M, rfl, ⟨_, SqL.of (upd_old hl2 hM17)⟩, for_list (K := K) (a := M) (xs := ms.map V.int) (fun i σ H' => Same H17 H' ∧ ∃ (l : Addr) (bs : List Int) (z : Option V), σ = [some (.ref a), some (.ref p), some (.int near), some (.ref L), some (.ref xb), some (.ref M), some (.ref l), z, none, none, some (.ref x1), some (.ref x2), some (oV (andLo e0 e1 e2 e3)), some (oV (andHi e0 e1 e2 e3)), none, none, none, none] ∧ H' l = some (.lst (bs.map V.int)) ∧ bs.length ≤ 2 + 3 * i)
                    ⟨Same.new hl2, l2, [10 ^ 41, - 10 ^ 41], none, rfl, upd_same, by decide⟩ (fun i σ H' _ z => SqL.of (z.1 _ _ hM17)) ?_ ?_⟩
                  · rintro i x σ H' hi ⟨t', l, bs, z, rfl, hl, hb⟩
                    have hi2 : i < 6 := by have := (List.getElem?_eq_some_iff.mp hi).1; rw [List.length_map] at this; omega
                    obtain ⟨m, _, rfl⟩ := ints_at hi
                    refine ⟨_, rfl, _, rfl, _, _, rfl, rfl, _, rfl, _, rfl, _, _, rfl, rfl, sz 3 (by decide), fun l3 hl3 => ⟨l, l3, bs.map V.int, [.int (m - 1), .int m, .int (m + 1)], rfl, rfl, upd_old hl3 hl, upd_same, by rw [List.length_map]; exact sz _ (by show bs.length + 3 ≤ 40; omega), fun l4 hl4 => ?_⟩⟩
                    exact ⟨Same.trans (Same.trans t' (Same.new hl3)) (Same.new hl4), l4, bs ++ [m - 1, m, m + 1], _, rfl, by rw [upd_same, List.map_append]; rfl, by rw [List.length_append]; show bs.length + 3 ≤ _; omega⟩
                  · rintro σ H18 ⟨t18, l, bs, z, rfl, hl18, hb⟩
                    have u18 := u17.trans t18
                    have Sb18 := (Sb15.old t17).old t18
                    -- the members
                    refine ⟨_, rfl, l, rfl, ⟨_, SqL.of hl18⟩, for_list (K := K) (a := l) (xs := bs.map V.int) (fun i σ H' => Same H18 H' ∧ ∃ (z8 z14 : Option V), σ = [some (.ref a), some (.ref p), some (.int near), some (.ref L), some (.ref xb), some (.ref M), some (.ref l), z, z8, none, some (.ref x1), some (.ref x2), some (oV (andLo e0 e1 e2 e3)), some (oV (andHi e0 e1 e2 e3)), z14, none, none, none])
                      ⟨Same.refl _, none, none, rfl⟩ (fun i σ H' _ z => SqL.of (z.1 _ _ hl18)) ?_ ?_⟩
                    · rintro i x σ H' hi ⟨t', z8, z14, rfl⟩
                      obtain ⟨m, _, rfl⟩ := ints_at hi
                      have u' := u18.trans t'
                      refine ⟨_, rfl, L, _, _, _, rfl, rfl, ix u', rfl, _, rfl, L, _, _, _, rfl, rfl, ix u', rfl, _, rfl, e0, e1, m, rfl, _, rfl, L, _, _, _, rfl, rfl, ix u', rfl, _, rfl, L, _, _, _, rfl, rfl, ix u', rfl, _, rfl, e2, e3, m, rfl, sz 2 (by decide), fun ld hld => ?_⟩
                      have u2 := u'.trans (Same.new (o := .lst [.bl (hasO e0 e1 m), .bl (hasO e2 e3 m)]) hld)
                      have Sb2 := (Sb18.old t').old (Same.new (o := .lst [.bl (hasO e0 e1 m), .bl (hasO e2 e3 m)]) hld)
                      have hq : (upd H' ld (.lst [.bl (hasO e0 e1 m), .bl (hasO e2 e3 m)])) ld = some (.lst [.bl (hasO e0 e1 m), .bl (hasO e2 e3 m)]) := upd_same
                      obtain ⟨dx1, f1, g1⟩ := at1 u2
                      obtain ⟨dx2, f2, g2⟩ := at2 u2
                      obtain ⟨db, tb, gb, _⟩ := id Sb2.ex
                      refine ⟨_, rfl, _, rfl, x1, dx1, f1, rfl, g1, x1, _, e0, e1, rfl, S18.old u2, .inl ⟨m, rfl, _, rfl, _, rfl, ld, _, _, _, rfl, rfl, SqL.of hq, rfl, rfl, _, rfl, ?_⟩⟩
                      rw [show (if false = true then !(spSome e0 e1 && hasO e0 e1 m) else (spSome e0 e1 && hasO e0 e1 m)) = hasO e0 e1 m from has_some e0 e1 m, decide_eq_true rfl]
                      refine iteF ⟨_, rfl, _, rfl, x2, dx2, f2, rfl, g2, x2, _, e2, e3, rfl, S2.old u2, .inl ⟨m, rfl, _, rfl, _, rfl, ld, _, _, _, rfl, rfl, SqL.of hq, rfl, rfl, _, rfl, ?_⟩⟩
                      rw [show (if false = true then !(spSome e2 e3 && hasO e2 e3 m) else (spSome e2 e3 && hasO e2 e3 m)) = hasO e2 e3 m from has_some e2 e3 m, decide_eq_true rfl]
                      refine iteF ⟨_, rfl, _, rfl, xb, db, _, rfl, gb, xb, _, _, _, rfl, Sb2, .inl ⟨m, rfl, _, rfl, _, rfl, ld, _, _, _, rfl, rfl, SqL.of hq, rfl, ?_⟩⟩
                      rw [show (if false = true then !(spSome (andLo e0 e1 e2 e3) (andHi e0 e1 e2 e3) && hasO (andLo e0 e1 e2 e3) (andHi e0 e1 e2 e3) m) else (spSome (andLo e0 e1 e2 e3) (andHi e0 e1 e2 e3) && hasO (andLo e0 e1 e2 e3) (andHi e0 e1 e2 e3) m)) = (hasO e0 e1 m && hasO e2 e3 m) from (has_some _ _ m).trans (has_and _ _ _ _ m)]
                      refine ⟨_, rfl, ?_⟩
                      have t2 := Same.trans t' (Same.new (o := .lst [.bl (hasO e0 e1 m), .bl (hasO e2 e3 m)]) hld)
                      clear u2 Sb2 g1 g2 gb
                      cases h1 : hasO e0 e1 m with
                      | false =>
                        rw [h1] at t2
                        exact iteF ⟨rfl, _, rfl, iteF ⟨t2, _, _, rfl⟩⟩
                      | true =>
                        rw [h1] at t2 hq
                        refine iteT ⟨_, rfl, ld, _, _, _, rfl, rfl, SqL.of hq, rfl, rfl, _, rfl, ?_⟩
                        rw [Bool.true_and, decide_eq_true rfl]
                        exact iteF ⟨t2, _, _, rfl⟩
                    · rintro σ H19 ⟨t19, z8, z14, rfl⟩
                      have u19 := u18.trans t19
                      have S19 := S18.old u19
                      have R19 := S2.old u19
                      -- nothing but numbers
                      refine ⟨fun σ' H' => σ' = [some (.ref a), some (.ref p), some (.int near), some (.ref L), some (.ref xb), some (.ref M), some (.ref l), z, z8, none, some (.ref x1), some (.ref x2), some (oV (andLo e0 e1 e2 e3)), some (oV (andHi e0 e1 e2 e3)), z14, none, none, none] ∧ Same H19 H', ?_, ?_⟩
                      · refine ⟨sz 1 (by decide), fun q1 hq1 => ⟨sz 1 (by decide), fun q2 hq2 => ⟨sz 6 (by decide), fun q3 hq3 => ?_⟩⟩⟩
                        have k1 : (upd (upd (upd H19 q1 (.tup [.int 1])) q2 (.lst [.int 1])) q3 (.lst [.non, .bl true, .bl false, .str "1", .ref q1, .ref q2])) q1 = some (.tup [.int 1]) := upd_old hq3 (upd_old hq2 upd_same)
                        have k2 : (upd (upd (upd H19 q1 (.tup [.int 1])) q2 (.lst [.int 1])) q3 (.lst [.non, .bl true, .bl false, .str "1", .ref q1, .ref q2])) q2 = some (.lst [.int 1]) := upd_old hq3 upd_same
                        have k3 : (upd (upd (upd H19 q1 (.tup [.int 1])) q2 (.lst [.int 1])) q3 (.lst [.non, .bl true, .bl false, .str "1", .ref q1, .ref q2])) q3 = some (.lst [.non, .bl true, .bl false, .str "1", .ref q1, .ref q2]) := upd_same
                        have t20 := Same.trans (Same.trans (Same.new (o := .tup [.int 1]) hq1) (Same.new (o := .lst [.int 1]) hq2)) (Same.new (o := .lst [.non, .bl true, .bl false, .str "1", .ref q1, .ref q2]) hq3)
                        have G20 : ∃ H20 : Hp, H20 = upd (upd (upd H19 q1 (.tup [.int 1])) q2 (.lst [.int 1])) q3 (.lst [.non, .bl true, .bl false, .str "1", .ref q1, .ref q2]) := ⟨_, rfl⟩
                        obtain ⟨H20, e20⟩ := G20
                        rw [← e20] at k1 k2 k3 t20 ⊢
                        clear e20
                        refine ⟨q3, rfl, ⟨_, SqL.of k3⟩, fun D hD => lc_list (xs := [.non, .bl true, .bl false, .str "1", .ref q1, .ref q2]) (fun i H' => Same H20 H' ∧ H' D = some (.lst ((List.replicate i false).map V.bl))) ⟨Same.new hD, upd_same⟩ (fun i H' _ z => SqL.of (z.1 _ _ k3)) ?_ ?_⟩
                        · rintro i x H' hi ⟨t', hD'⟩
                          have hi2 : i < 6 := (List.getElem?_eq_some_iff.mp hi).1
                          have hx : ∀ H'' : Hp, Same H20 H'' → WhV K H'' x false := fun H'' s => by
                            obtain rfl | rfl | rfl | rfl | rfl | rfl : i = 0 ∨ i = 1 ∨ i = 2 ∨ i = 3 ∨ i = 4 ∨ i = 5 := by omega
                            · obtain rfl := Option.some.inj hi; exact .non
                            · obtain rfl := Option.some.inj hi; exact .bl _
                            · obtain rfl := Option.some.inj hi; exact .bl _
                            · obtain rfl := Option.some.inj hi; exact .str _
                            · obtain rfl := Option.some.inj hi; exact .tup (s _ _ k1)
                            · obtain rfl := Option.some.inj hi; exact .lst (s _ _ k2)
                          refine ⟨rfl, _, rfl, rfl, rfl, fun ev H2 s2 ne Se => ?_⟩
                          obtain ⟨de, te, ge, _⟩ := id Se.ex
                          refine ⟨ev, de, _, rfl, ge, ev, x, _, _, rfl, Se, .inr ⟨hx _ (Same.trans t' s2), _, rfl, _, s2 _ _ hD', by rw [List.length_map, List.length_replicate, sizeLine_eq]; omega, Same.mut (Same.trans t' s2) hD, ?_⟩⟩
                          rw [upd_same, List.replicate_succ', List.map_append]
                          rfl
                        · rintro H21 ⟨t21, hD21⟩
                          have u21 := (u19.trans t20).trans t21
                          refine ⟨D, List.replicate 6 false, rfl, SqL.of hD21, _, rfl, iteF ?_⟩
                          obtain ⟨dx1, f1, g1⟩ := at1 u21
                          have ht : ∃ t, TyX K H21 (oV e0) t ∧ PySem.W.notFirst K C t = true ∧ PySem.W.kitOne K t (.ref C) = some false := by
                            cases e0 with
                            | none => exact ⟨_, .base .non, T.f_non, T.k_non⟩
                            | some i => exact ⟨_, .base (.int i), T.f_int, T.k_int⟩
                          obtain ⟨t, ty, hn, hk⟩ := ht
                          refine ⟨_, rfl, _, rfl, L, _, _, _, rfl, rfl, ix u21, rfl, x1, dx1, f1, t, rfl, g1, ty, hn, x1, _, e0, e1, rfl, S18.old u21, .inr ⟨t, ty, hk, _, rfl, iteF ⟨rfl, t20.trans t21⟩⟩⟩
                      · rintro σ' H22 ⟨rfl, t22⟩
                        have u22 := u19.trans t22
                        -- the last word
                        refine ⟨fun σ' H' => H' = H22 ∧ σ' = [some (.ref a), some (.ref p), some (.int near), some (.ref L), some (.ref xb), some (.ref M), some (.ref l), z, z8, some (.bl (!spSome e0 e1 && !spSome e2 e3)), some (.ref x1), some (.ref x2), some (oV (andLo e0 e1 e2 e3)), some (oV (andHi e0 e1 e2 e3)), z14, none, none, none], ?_, ?_⟩
                        · refine ⟨_, rfl, L, _, _, _, rfl, rfl, ix u22, rfl, _, rfl, L, _, _, _, rfl, rfl, ix u22, rfl, e0, e1, rfl, _, rfl, _, rfl, ?_⟩
                          cases spSome e0 e1 with
                          | true => exact iteF ⟨rfl, rfl⟩
                          | false => exact iteT ⟨_, rfl, L, _, _, _, rfl, rfl, ix u22, rfl, _, rfl, L, _, _, _, rfl, rfl, ix u22, rfl, e2, e3, rfl, _, rfl, rfl, rfl⟩
                        · rintro σ' H' ⟨rfl, rfl⟩
                          obtain ⟨dx1, f1, g1⟩ := at1 u22
                          obtain ⟨dx2, f2, g2⟩ := at2 u22
                          refine ⟨_, rfl, _, rfl, x1, dx1, f1, .ref C, rfl, g1, T.i_Span.ty g2, T.f_self, x1, _, e0, e1, rfl, S18.old u22, .inl ⟨x2, _, _, rfl, S2.old u22, _, rfl, _, rfl, ?_⟩⟩
                          rw [last_eq]
                          cases hb : (!spSome e0 e1 && !spSome e2 e3) with
                          | true =>
                            refine iteT ⟨rfl, ?_⟩
                            rw [Bool.true_or, decide_eq_true rfl]
                            exact k _
                          | false =>
                            refine iteF ⟨_, rfl, _, rfl, L, _, rfl, ix u22, fun q1 hq1 => ?_⟩
                            have u23 := u22.trans (Same.new (o := .lst (cutV [oV e0, oV e1, oV e2, oV e3] none (some 2))) hq1)
                            refine ⟨_, rfl, _, rfl, L, _, rfl, ix u23, fun q2 hq2 => ?_⟩
                            refine ⟨.list [oD e0, oD e1], .list [oD e2, oD e3], .lst (SqL.of (upd_old hq2 upd_same)) (.cons (dp_oV _) (.cons (dp_oV _) .nil)), .lst (SqL.of upd_same) (.cons (dp_oV _) (.cons (dp_oV _) .nil)), shaped_ends _ _, shaped_ends _ _, rfl, ?_⟩
                            rw [eqv_ends, Bool.false_or, decide_eq_true rfl]
                            exact k _
end
end RS

set_option maxRecDepth 100000
set_option maxHeartbeats 0
namespace RS
open PySem PySem.Spec PyProof.Rows L2 He
namespace Hd
def top (i : Nat) : Stmt := PySem.Challenge.pw_risingscales_k34_spans_as_sets.main.body.getD i (.Pass ⟨0, 0, 0, 0⟩)
def dx (adr : Frg → Addr) (n q : Str) (st : Stmt) (dfl : List Dv) : DefR := ⟨adr, n, q, defArgs st, defBody st, defScope st, dfl⟩
def fn : List DefR := [
  dx (fun K => ga K "is_whole") "is_whole" "is_whole" (top 1) [],
  dx (fun K => ma K (ga K "Span") "__init__") "__init__" "Span.__init__" (inClass (top 3) 0) [],
  dx (fun K => smA K (ga K "Span") "none") "none" "Span.none" (inClass (top 3) 1) [],
  dx (fun K => smA K (ga K "Span") "every") "every" "Span.every" (inClass (top 3) 2) [],
  dx (fun K => prA K (ga K "Span") "low") "low" "Span.low" (inClass (top 3) 3) [],
  dx (fun K => prA K (ga K "Span") "high") "high" "Span.high" (inClass (top 3) 4) [],
  dx (fun K => ma K (ga K "Span") "__bool__") "__bool__" "Span.__bool__" (inClass (top 3) 5) [],
  dx (fun K => ma K (ga K "Span") "__contains__") "__contains__" "Span.__contains__" (inClass (top 3) 6) [],
  dx (fun K => ma K (ga K "Span") "__eq__") "__eq__" "Span.__eq__" (inClass (top 3) 7) [],
  dx (fun K => ma K (ga K "Span") "__and__") "__and__" "Span.__and__" (inClass (top 3) 8) [],
  dx (fun K => ga K "_law_pen") "_law_pen" "_law_pen" (top 5) [],
  dx (fun K => ga K "_law_draw") "_law_draw" "_law_draw" (top 6) [],
  dx (fun K => ga K "_law_end") "_law_end" "_law_end" (top 7) [],
  dx (fun K => ga K "_law_has") "_law_has" "_law_has" (top 8) [],
  dx (fun K => ga K "_law_some") "_law_some" "_law_some" (top 9) [],
  dx (fun K => ga K "_law_ends") "_law_ends" "_law_ends" (top 10) [],
  dx (fun K => ga K "_law_tops") "_law_tops" "_law_tops" (top 11) [],
  dx (fun K => ga K "law") "law" "law" (top 12) []]
def exl : List (Frg → Bool) := [
  fun K => freeB K "int",
  fun K => freeB K "len",
  fun K => freeB K "isinstance",
  fun K => freeB K "bool",
  fun K => freeB K "any",
  fun K => freeB K "range",
  fun K => gloB K "Span",
  fun K => clsB K "Span",
  fun K => noatB K "Span" "some",
  fun K => noatB K "Span" "ends",
  fun K => isiB K "Span",
  fun K => neB K "Span",
  fun K => PySem.W.selfFirst K (ga K "Span"),
  fun K => decide (PySem.W.kitOne K (.ref (ga K "Span")) (.ref (ga K "Span")) = some true),
  fun K => decide (PySem.W.kitOne K (.type "int") (.ref (ga K "Span")) = some false),
  fun K => decide (PySem.W.kitOne K (.type "NoneType") (.ref (ga K "Span")) = some false),
  fun K => PySem.W.notFirst K (ga K "Span") (.type "int"),
  fun K => PySem.W.notFirst K (ga K "Span") (.type "NoneType"),
  fun K => PySem.W.notFirst K (ga K "Span") (.ref (ga K "Span")),
  fun K => gloB K "is_whole",
  fun K => mkrB K "Span",
  fun K => crdB K "Span",
  fun K => stcB K "Span" "none",
  fun K => stcB K "Span" "every",
  fun K => prpB K "Span" "low",
  fun K => prpB K "Span" "high",
  fun K => methB K "Span" "__bool__",
  fun K => methB K "Span" "__contains__",
  fun K => methB K "Span" "__eq__",
  fun K => methB K "Span" "__and__",
  fun K => gloB K "_law_pen",
  fun K => gloB K "_law_draw",
  fun K => gloB K "_law_end",
  fun K => gloB K "_law_has",
  fun K => gloB K "_law_some",
  fun K => gloB K "_law_ends",
  fun K => gloB K "_law_tops",
  fun K => gloB K "law"]
def ex (K : Frg) : Bool := exl.all fun b => b K
abbrev R : PySem.W.OpenRow := PySem.W.OpenLaw.row PySem.Challenge.rw_risingscales_k34_spans_as_sets
abbrev hk : PySem.W.Hook := hookR 6 ex fn
def ob (s : PySem.W.SharedT) : AlR := obsRG 6 ex fn (HandSHeadRun.getT s)
theorem ob_eq (s : PySem.W.SharedT) : ob s = hk.obs s.abs := obsRG_eq (HandSHeadRun.getT_eq s)
def loose : List Str := ["is_whole", "Span", "_law_pen", "_law_draw", "_law_end", "_law_has", "_law_some", "_law_ends", "_law_tops"]
theorem run (w : World) : HandSHeadRun.RunEq R (PySem.W.view R.prog [12]) hk ob 2000 loose w := by
  intro os
  kernel_rfl
end Hd
theorem _root_.RS.SaysR.fact {K : Frg} (c : SaysR Hd.ex Hd.fn K) (i : Nat) {b : Frg → Bool} (h : Hd.exl[i]? = some b := by rfl) : b K = true := List.all_eq_true.mp c.more b (List.mem_of_getElem? h)
end RS

set_option maxRecDepth 100000
set_option maxHeartbeats 4000000
namespace RS
open PySem PySem.Spec PyProof.Rows L2 He
theorem facts {P : Program} {w : World} {K : Frg} {h : Heap} {mg : Str → Option Value} {f : Addr} (X : K.In h) (G : h.Ns mainGlobals mg) (hfa : mg ("law" : Str) = some (.ref f)) (c : SaysR Hd.ex Hd.fn K) :
    ∃ fd : FuncData, (∀ (s : Shared) (v : Value), BindsTo s fd ⟨[v], []⟩ [("_law_script", v)]) ∧ ∀ base : Heap, K.In base → base.Ns mainGlobals mg → FnOk P w K mg base CX0 7 f fd ["_law_script"] (spLaw K) := by
  obtain ⟨fd0, F0⟩ := c.def_ 0
  obtain ⟨fd1, F1⟩ := c.def_ 1
  obtain ⟨fd2, F2⟩ := c.def_ 2
  obtain ⟨fd3, F3⟩ := c.def_ 3
  obtain ⟨fd4, F4⟩ := c.def_ 4
  obtain ⟨fd5, F5⟩ := c.def_ 5
  obtain ⟨fd6, F6⟩ := c.def_ 6
  obtain ⟨fd7, F7⟩ := c.def_ 7
  obtain ⟨fd8, F8⟩ := c.def_ 8
  obtain ⟨fd9, F9⟩ := c.def_ 9
  obtain ⟨fd10, F10⟩ := c.def_ 10
  obtain ⟨fd11, F11⟩ := c.def_ 11
  obtain ⟨fd12, F12⟩ := c.def_ 12
  obtain ⟨fd13, F13⟩ := c.def_ 13
  obtain ⟨fd14, F14⟩ := c.def_ 14
  obtain ⟨fd15, F15⟩ := c.def_ 15
  obtain ⟨fd16, F16⟩ := c.def_ 16
  obtain ⟨fd17, F17⟩ := c.def_ 17
  have e := hfa.symm.trans (glo_ok X G (c.fact 37))
  cases e
  have TP : TPen mg := ⟨(free_ok X G (c.fact 0)), (free_ok X G (c.fact 1))⟩
  have T : TSpan K mg (ga K "Span") := ⟨(free_ok X G (c.fact 2)), (free_ok X G (c.fact 0)), (free_ok X G (c.fact 3)), (free_ok X G (c.fact 1)), (free_ok X G (c.fact 4)), (free_ok X G (c.fact 5)), (glo_ok X G (c.fact 6)), (cls_ok (c.fact 7)), (noat_ok (c.fact 8)), (noat_ok (c.fact 9)), (isiB_ok (c.fact 10)), (neB_ok (c.fact 11)), (c.fact 12), (of_decide_eq_true (c.fact 13)), (of_decide_eq_true (c.fact 14)), (of_decide_eq_true (c.fact 15)), (c.fact 16), (c.fact 17), (c.fact 18)⟩
  have b := FunD.bindsA (ps := ["_law_script"]) F17 fun _ _ _ _ _ _ us hl => match us, hl with | [_], _ => rfl
  refine ⟨fd17, fun s v => b s [v] rfl, fun base _ _ => ?_⟩
  have M_is_whole : Cal P w K mg base CX0 1 "is_whole" ["value"] [] (spWhole K) := ⟨_, _, _, ok_is_whole F0 T, glo_ok X G (c.fact 19), F0.kp, .nil, (FunD.bindsN (ps := ["value"]) F0 fun _ _ _ _ _ _ us hl => match us, hl with | [_], _ => rfl)⟩
  have M_Span_init : Mkr P w K mg base CX0 1 "Span" (ga K "Span") ["self", "low", "high"] [] (spSInit (ga K "Span")) := ⟨_, _, _, ok_Span_init F1 T, mkr_ok (c.fact 20), glo_ok X G (c.fact 6), .nil, (FunD.bindsN (ps := ["self", "low", "high"]) F1 fun _ _ _ _ _ _ us hl => match us, hl with | [_, _, _], _ => rfl)⟩
  have M_Span_none : Stc P w K mg base CX0 3 (ga K "Span") "none" [] [] (spSNew (ga K "Span") (some 1) (some 0)) := ⟨_, _, _, _, _, ok_Span_none F2 T M_Span_init, crdB_ok (c.fact 21), (stcB_ok (c.fact 22)).1, (stcB_ok (c.fact 22)).2, F2.kp, .nil, (FunD.bindsN (ps := []) F2 fun _ _ _ _ _ _ us hl => match us, hl with | [], _ => rfl)⟩
  have M_Span_every : Stc P w K mg base CX0 3 (ga K "Span") "every" [] [] (spSNew (ga K "Span") none none) := ⟨_, _, _, _, _, ok_Span_every F3 T M_Span_init, crdB_ok (c.fact 21), (stcB_ok (c.fact 23)).1, (stcB_ok (c.fact 23)).2, F3.kp, .nil, (FunD.bindsN (ps := []) F3 fun _ _ _ _ _ _ us hl => match us, hl with | [], _ => rfl)⟩
  have M_Span_low : Prp P w K mg base CX0 1 (ga K "Span") "low" ["self"] [] (spSLow (ga K "Span")) := ⟨_, _, _, _, ok_Span_low F4 T, prpB_ok (c.fact 24), .nil, (FunD.bindsN (ps := ["self"]) F4 fun _ _ _ _ _ _ us hl => match us, hl with | [_], _ => rfl)⟩
  have M_Span_high : Prp P w K mg base CX0 1 (ga K "Span") "high" ["self"] [] (spSHigh (ga K "Span")) := ⟨_, _, _, _, ok_Span_high F5 T, prpB_ok (c.fact 25), .nil, (FunD.bindsN (ps := ["self"]) F5 fun _ _ _ _ _ _ us hl => match us, hl with | [_], _ => rfl)⟩
  have M_Span_bool : Mtd P w K mg base CX0 1 (ga K "Span") "__bool__" ["self"] [] (spSBool (ga K "Span")) := ⟨_, _, _, ok_Span_bool F6 T, meth_ok (c.fact 26), .nil, (FunD.bindsN (ps := ["self"]) F6 fun _ _ _ _ _ _ us hl => match us, hl with | [_], _ => rfl)⟩
  have M_Span_contains : Mtd P w K mg base CX0 2 (ga K "Span") "__contains__" ["self", "n"] [] (spSHas K (ga K "Span")) := ⟨_, _, _, ok_Span_contains F7 T M_is_whole, meth_ok (c.fact 27), .nil, (FunD.bindsN (ps := ["self", "n"]) F7 fun _ _ _ _ _ _ us hl => match us, hl with | [_, _], _ => rfl)⟩
  have M_Span_eq : Mtd P w K mg base CX0 1 (ga K "Span") "__eq__" ["self", "other"] [] (spSEq K (ga K "Span")) := ⟨_, _, _, ok_Span_eq F8 T, meth_ok (c.fact 28), .nil, (FunD.bindsN (ps := ["self", "other"]) F8 fun _ _ _ _ _ _ us hl => match us, hl with | [_, _], _ => rfl)⟩
  have M_Span_and : Mtd P w K mg base CX0 3 (ga K "Span") "__and__" ["self", "other"] [] (spSAnd (ga K "Span")) := ⟨_, _, _, ok_Span_and F9 T M_Span_init, meth_ok (c.fact 29), .nil, (FunD.bindsN (ps := ["self", "other"]) F9 fun _ _ _ _ _ _ us hl => match us, hl with | [_, _], _ => rfl)⟩
  have M__law_pen : Cal P w K mg base CX0 1 "_law_pen" ["_law_script"] [] (spPen K) := ⟨_, _, _, ok_pen F10 TP, glo_ok X G (c.fact 30), F10.kp, .nil, (FunD.bindsN (ps := ["_law_script"]) F10 fun _ _ _ _ _ _ us hl => match us, hl with | [_], _ => rfl)⟩
  have M__law_draw : Cal P w K mg base CX0 1 "_law_draw" ["_law_pen_here", "_law_many"] [] spDraw := ⟨_, _, _, ok_draw F11 TP, glo_ok X G (c.fact 31), F11.kp, .nil, (FunD.bindsN (ps := ["_law_pen_here", "_law_many"]) F11 fun _ _ _ _ _ _ us hl => match us, hl with | [_, _], _ => rfl)⟩
  have M__law_end : Cal P w K mg base CX0 2 "_law_end" ["_law_pen_here", "_law_near"] [] spEnd := ⟨_, _, _, ok_end F12 M__law_draw, glo_ok X G (c.fact 32), F12.kp, .nil, (FunD.bindsN (ps := ["_law_pen_here", "_law_near"]) F12 fun _ _ _ _ _ _ us hl => match us, hl with | [_, _], _ => rfl)⟩
  have M__law_has : Cal P w K mg base CX0 1 "_law_has" ["_law_low", "_law_high", "_law_n"] [] spHas := ⟨_, _, _, ok_has F13, glo_ok X G (c.fact 33), F13.kp, .nil, (FunD.bindsN (ps := ["_law_low", "_law_high", "_law_n"]) F13 fun _ _ _ _ _ _ us hl => match us, hl with | [_, _, _], _ => rfl)⟩
  have M__law_some : Cal P w K mg base CX0 1 "_law_some" ["_law_low", "_law_high"] [] spSome_ := ⟨_, _, _, ok_some F14, glo_ok X G (c.fact 34), F14.kp, .nil, (FunD.bindsN (ps := ["_law_low", "_law_high"]) F14 fun _ _ _ _ _ _ us hl => match us, hl with | [_, _], _ => rfl)⟩
  have M__law_ends : Cal P w K mg base CX0 5 "_law_ends" ["_law_told", "_law_low", "_law_high"] [] (spEnds (ga K "Span")) := ⟨_, _, _, ok_ends F15 T M__law_some M_Span_low M_Span_high M_Span_bool M_Span_eq M_Span_none, glo_ok X G (c.fact 35), F15.kp, .nil, (FunD.bindsN (ps := ["_law_told", "_law_low", "_law_high"]) F15 fun _ _ _ _ _ _ us hl => match us, hl with | [_, _, _], _ => rfl)⟩
  have M__law_tops : Cal P w K mg base CX0 1 "_law_tops" ["_law_ends_here", "_law_sign"] [] spTops := ⟨_, _, _, ok_tops F16, glo_ok X G (c.fact 36), F16.kp, .nil, (FunD.bindsN (ps := ["_law_ends_here", "_law_sign"]) F16 fun _ _ _ _ _ _ us hl => match us, hl with | [_, _], _ => rfl)⟩
  exact ok_law F17 T M__law_pen M__law_draw M__law_end M__law_has M__law_some M__law_tops M__law_ends M_Span_init M_Span_low M_Span_bool M_Span_contains M_Span_and M_Span_eq M_Span_none M_Span_every
end RS
open PySem PySem.W PySem.Calls PyProof.Rows
theorem PySem.Challenge.cw_risingscales_k34_spans_as_sets_holds : PySem.Challenge.rw_risingscales_k34_spans_as_sets.Holds := by
  w_on; o_law
  refine HandSHeadRun.head_any (r := OpenLaw.row PySem.Challenge.rw_risingscales_k34_spans_as_sets) (q := view (OpenLaw.row PySem.Challenge.rw_risingscales_k34_spans_as_sets).prog [12]) (H := RS.Hd.hk) (ob := RS.Hd.ob) (M := 2000) (loose := RS.Hd.loose) (d := HandSHeadRun.topDef (OpenLaw.row PySem.Challenge.rw_risingscales_k34_spans_as_sets).prog 12) (kwd := []) RS.Hd.ob_eq
    (by kernel_rfl) (fun s => by kernel_rfl) RS.Hd.run (by kernel_rfl) (by kernel_rfl) (by kernel_rfl) (by rfl) (by first | assumption | decide +kernel) (by decide +kernel) ⟨rfl, rfl, rfl, rfl, rfl, by decide +kernel⟩ ?hw ?hc
  case hw => w_witness2
  case hc =>
    refine L2.walk_ofE (l := PySem.Challenge.rw_risingscales_k34_spans_as_sets) (n := 63) (k := 7) (x := "_law_script") (CX := L2.CX0) rfl (by decide) (by kernel_rfl) ⟨rfl, by decide, by decide⟩ ?F (fun _ _ _ _ z => z)
    intro w mg fa h Y G hmg0
    obtain ⟨K, KX, c⟩ := Y
    have hmg : mg ("law" : PySem.Str) = some (.ref fa) := by
      have e : (HandSHeadRun.topDef (OpenLaw.row PySem.Challenge.rw_risingscales_k34_spans_as_sets).prog 12).name = ("law" : PySem.Str) := by kernel_rfl
      rw [← e]
      exact hmg0
    obtain ⟨fd, hb, hF⟩ := RS.facts (P := (PySem.Challenge.rw_risingscales_k34_spans_as_sets).prog) (w := w) KX G hmg c
    exact ⟨K, fd, RS.spLaw K, KX, hb, fun H a ns hl _ hS => ⟨a, ns, rfl, hS, hl, fun _ => rfl⟩, hF⟩
