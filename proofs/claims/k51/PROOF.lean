import PyProof.Rows.All
import Wide.All
import OpenK.AllK
import Wide.FinOn
import PyProof.InstNe
import KE.KFromBytes
import KE.KExcSuper
import KE.KOpsOwn
import KE.KIsNot
import KE.KIsAll
import HandS.ForMost
import HandS.Exc
import HandS.Wide
import HandS.Flow
import HandS.Defaults
import HandS.Property
import HandS.ClsMeth
import HandS.Slots
import HandS.SlotsOwn
import HandS.IsInst
import HandS.Evl
import HandS.Head0
import HandS.Head1
import HandS.Head2
import HandS.HeadEnd
import HandS.HeadHook1
import HandS.HeadHook2
import KE.KSuper
import HandS.ExcSuper
import HandS.Nested
import HandS.ExcInit
import HandS.ExcField
import HandS.ExcIs
import HandS.WordsExc
import KE.Datum
import HandS.Star
import HandS.DictComp
import OpenK.KOps
import OpenK.KMeth
import KE.KCallOwn
import HandS.Lambda
import HandS.TupAny
import HandS.Text
import HandS.Zip
import HandS.More
import HandS.FStr
import HandS.Style
import KE.DataEq
import HandS.Iter
import KE.GoesMore
import PyProof.EnumMake
import HandS.TryMany
import HandS.DeepEq
import HandS.MakeKw
import HandS.OwnEq
import PySem.Challenge.RW_risingscales_k51_books_made_and_refused
set_option Elab.async false
set_option linter.all false
set_option maxRecDepth 100000
set_option maxHeartbeats 4000000
namespace RS
open PySem PySem.Spec PyProof.Rows L2

/-! ### defs, methods, classes by name, all that a call of them wants in one word -/
section
variable (P : Program) (w : World) (K : PySem.W.Frag) (mg : Str → Option Value) (base : Heap) (CX : CXT)
/-- the global def x keeps the promise sp; dvs fill its last parameters -/
structure Cal (lv : Nat) (x : Str) (ps : List Str) (dvs : List V) (sp : Sp) : Prop where
  ex : ∃ (f : Addr) (fd : FuncData) (ds : List Value), FnOk P w K mg base CX lv f fd ps sp ∧ mg x = some (.ref f) ∧ PySem.W.keepIn K (.ref f) = true ∧ Vals dvs ds ∧ Binds K fd ps ds
/-- the method m of the class at C -/
structure Mtd (lv : Nat) (C : Addr) (m : Str) (ps : List Str) (dvs : List V) (sp : Sp) : Prop where
  ex : ∃ (f : Addr) (fd : FuncData) (ds : List Value), FnOk P w K mg base CX lv f fd ps sp ∧ Meth K C m f ∧ Vals dvs ds ∧ Binds K fd ps ds
/-- the class x, at C, made by its __init__ -/
structure Mkr (lv : Nat) (x : Str) (C : Addr) (ps : List Str) (dvs : List V) (sp : Sp) : Prop where
  ex : ∃ (f : Addr) (fd : FuncData) (ds : List Value), FnOk P w K mg base CX lv f fd ps sp ∧ Mk K C f ∧ mg x = some (.ref C) ∧ Vals dvs ds ∧ Binds K fd ps ds
/-- the property m of the class at C -/
structure Prp (lv : Nat) (C : Addr) (m : Str) (ps : List Str) (dvs : List V) (sp : Sp) : Prop where
  ex : ∃ (p f : Addr) (fd : FuncData) (ds : List Value), FnOk P w K mg base CX lv f fd ps sp ∧ PropOf K C m p f ∧ Vals dvs ds ∧ Binds K fd ps ds
/-- the static method m of the class at C -/
structure Stc (lv : Nat) (C : Addr) (m : Str) (ps : List Str) (dvs : List V) (sp : Sp) : Prop where
  ex : ∃ (p f : Addr) (mc : Value) (fd : FuncData) (ds : List Value), FnOk P w K mg base CX lv f fd ps sp ∧ ClX.CRead K C mc ∧
    PySem.W.findCls K (.ref C) mc m = some (.get (.builtin "staticmethod.__get__") (.ref p) .none (.ref C)) ∧ (∃ rest, PySem.W.recIn K p "staticmethod" = some (.ref f :: rest)) ∧
    PySem.W.keepIn K (.ref f) = true ∧ Vals dvs ds ∧ Binds K fd ps ds
end
section
variable {X : Cx} {CX : CXT} {lv : Nat} {x m : Str} {C : Addr} {ps : List Str} {dvs : List V} {sp : Sp} {E : XK} {p pos apos : Pos} {e o : Expr} {es : List Expr} {ta : TE} {t : TA}
theorem pe_fn (F : Cal X.prog X.w X.K X.mg X.base CX lv x ps dvs sp) (hr : Room lv X.A) (hx : Passes CX X E) (ha : PA X (e :: es) t) (hg : Gl X x := by rfl) (hdb : (x == ("__debug__" : Str)) = false := by decide)
    (he : starEach (e :: es) X.env = (false, eval e X.env) :: starEach es X.env := by rfl) (hpl : (backTo pos (starEach es X.env)).any (·.1) = false := by rfl) : PE X (.Call (.Name x p) (e :: es) [] pos) (tCall sp dvs E t) := by
  obtain ⟨f, fd, ds, G, m, k, v, b⟩ := F.ex
  exact pe_call G hr hg m k b v hx ha hdb he hpl
theorem pe_fn0 (F : Cal X.prog X.w X.K X.mg X.base CX lv x ps dvs sp) (hr : Room lv X.A) (hx : Passes CX X E) (hg : Gl X x := by rfl) (hdb : (x == ("__debug__" : Str)) = false := by decide) : PE X (.Call (.Name x p) [] [] pos) (tCall sp dvs E tNil) := by
  obtain ⟨f, fd, ds, G, m, k, v, b⟩ := F.ex
  exact pe_call0 G hr hg m k b v hx hdb
theorem pe_mt {pl : Sem Bool} (c : Cls X.K C) (F : Mtd X.prog X.w X.K X.mg X.base CX lv C m ps dvs sp) (hr : Room lv X.A) (hx : Passes CX X E) (he : PE X o ta) (ha : PA X (e :: es) t)
    (hst : starEach (e :: es) X.env = (false, eval e X.env) :: starEach es X.env := by rfl) (hpl : (backTo pos (starEach es X.env)).any (·.1) = false := by rfl)
    (ht : eval (.Call (.Attribute o m apos) (e :: es) [] pos) X.env = (do
      let ov ← eval o X.env
      standAt apos.atName
      let (f, first) ← holding [ov] (getMethod ov m pl)
      callWith pos f first (backTo pos (starEach (e :: es) X.env)) (backToKw pos (keywordEach [] X.env))) := by rfl) :
    PE X (.Call (.Attribute o m apos) (e :: es) [] pos) (tMeth C m sp dvs E ta t) := by
  obtain ⟨f, fd, ds, G, k, v, b⟩ := F.ex
  exact pe_meth he c k G hr b v hx ha hst hpl ht
theorem pe_mt0 {pl : Sem Bool} (c : Cls X.K C) (F : Mtd X.prog X.w X.K X.mg X.base CX lv C m ps dvs sp) (hr : Room lv X.A) (hx : Passes CX X E) (he : PE X o ta)
    (ht : eval (.Call (.Attribute o m apos) [] [] pos) X.env = (do
      let ov ← eval o X.env
      standAt apos.atName
      let (f, first) ← holding [ov] (getMethod ov m pl)
      callWith pos f first (backTo pos (starEach [] X.env)) (backToKw pos (keywordEach [] X.env))) := by rfl) :
    PE X (.Call (.Attribute o m apos) [] [] pos) (tMeth C m sp dvs E ta tNil) := by
  obtain ⟨f, fd, ds, G, k, v, b⟩ := F.ex
  exact pe_meth0 he c k G hr b v hx ht
theorem pe_mk (F : Mkr X.prog X.w X.K X.mg X.base CX lv x C ps dvs sp) (hr : Room (lv + 1) X.A) (hx : Passes CX X E) (ha : PA X (e :: es) t) (hg : Gl X x := by rfl) (hdb : (x == ("__debug__" : Str)) = false := by decide)
    (he : starEach (e :: es) X.env = (false, eval e X.env) :: starEach es X.env := by rfl) (hpl : (backTo pos (starEach es X.env)).any (·.1) = false := by rfl) : PE X (.Call (.Name x p) (e :: es) [] pos) (tMake C sp dvs E t) := by
  obtain ⟨f, fd, ds, G, k, m, v, b⟩ := F.ex
  exact pe_make k G hr hg m b v hx ha hdb he hpl
theorem pe_pr (c : Cls X.K C) (F : Prp X.prog X.w X.K X.mg X.base CX lv C m ps dvs sp) (hr : Room (lv + 1) X.A) (hx : Passes CX X.nox E) (he : PE X e ta) (hab : attributeBase e m X.env (eval e X.env) = eval e X.env := by rfl) :
    PE X (.Attribute e m pos) (tProp C sp dvs E ta) := by
  obtain ⟨q, f, fd, ds, G, k, v, b⟩ := F.ex
  exact pe_prop he c k G hr b v hx hab
/-- C.m() of a static method -/
theorem pe_st0 {pl : Sem Bool} (F : Stc X.prog X.w X.K X.mg X.base CX lv C m ps dvs sp) (hr : Room lv X.A) (hx : Passes CX X E) (he : PE X o ta)
    (ht : eval (.Call (.Attribute o m apos) [] [] pos) X.env = (do
      let ov ← eval o X.env
      standAt apos.atName
      let (f, first) ← holding [ov] (getMethod ov m pl)
      callWith pos f first (backTo pos (starEach [] X.env)) (backToKw pos (keywordEach [] X.env))) := by rfl) :
    PE X (.Call (.Attribute o m apos) [] [] pos) (fun σ H Q => ta σ H fun z H1 => z = .ref C ∧ sp dvs H1 Q E) := by
  obtain ⟨q, f, mc, fd, ds, G, r, hf, ⟨rest, hrec⟩, kp, v, b⟩ := F.ex
  refine ⟨fun pins s σ H Q I h => ?_⟩
  refine PySem.W.methodCall_KW (pl := pl) (thn (he.run pins s σ H _ I h) fun u s1 ⟨z, H1, I1, rx, ez, q⟩ => ?_) ht
  subst ez
  obtain rfl : u = Value.ref C := rx
  refine PySem.W.method_cls I1.kIn r.ga ?_
  refine PySem.W.cls_bind I1.kIn r.rd hf ?_
  have I2 := I1.tok (s1.toks + 1)
  refine wpAny_call (PySem.W.sm_get (s := { s1 with toks := s1.toks + 1 }) I1.kIn hrec (PySem.W.handed_on rfl ?_))
  exact PySem.W.callWith_K0 (first := []) I2.kIn kp (run_fn (us := []) (vs := []) G hr b v hx I2 .nil (by simpa using q))
end

/-! ### own operators of instances -/
section
variable {X : Cx} {CX : CXT} {lv : Nat} {m : Str} {C : Addr} {ps : List Str} {sp : Sp} {E : XK}
theorem inst_at {pins : List (Addr × Obj)} {σ : L2.St} {H : Hp} {s : Shared} {a C dx : Addr} {fs : List (Str × V)} (I : Inv X pins σ H s) (ea : H a = some (.ins C dx fs)) : ∃ od, PySem.W.InstAt s.heap a (PySem.W.instObj C dx) C (some od) := by
  obtain ⟨mA, O, _, _, _, _⟩ := ins_get I.hok ea
  obtain ⟨od, J, _⟩ := O.look
  exact ⟨od, J⟩
/-- the truth of an instance by its __bool__ (or another def at that name, see hb) -/
def rTruOwn (C : Addr) (sp : Sp) (E : XK) : V → Hp → (Bool → Hp → Prop) → Prop := fun x H Q => ∃ a dx fs, x = .ref a ∧ H a = some (.ins C dx fs) ∧ sp [.ref a] H (fun v H' => ∃ b, v = .bl b ∧ Q b H') E
theorem tru_own (F : Mtd X.prog X.w X.K X.mg X.base CX lv C "__bool__" ps [] sp) (hr : Room lv X.A) (hx : Passes CX X E) : TruR X (rTruOwn C sp E) := by
  intro pins s σ H x v Q I rx h
  obtain ⟨a, dx, fs, rfl, ea, q⟩ := h
  obtain ⟨f, fd, ds, G, k, vd, b⟩ := F.ex
  cases (show v = Value.ref a from rx)
  obtain ⟨od, J⟩ := inst_at I ea
  obtain ⟨mm, hF⟩ := I.fr
  refine PySem.W.truthy_K hF I.ok.mod.kin J k.at_ k.fn ?_
  refine thn (run_fn (us := [.ref a]) (vs := [.ref a]) G hr b vd hx I (.cons rfl .nil) q) fun u s' ⟨z, H', I', rz, bb, ez, qz⟩ => ?_
  subst ez
  cases (show u = Value.bool bb from rz)
  exact ⟨H', I', qz⟩
/-- a name, a call, a field as a test, by its own __bool__ -/
theorem pt_own {a : Expr} {ta : TE} {r : V → Hp → (Bool → Hp → Prop) → Prop} (ht : TruR X r) (ha : PE X a ta) (he : ∀ whole, isTrue a X.env whole = (do let v ← whole; standAt a.pos; holding [v] (truthy v)) := by intro _; rfl) :
    PT X a (fun σ H Q => ta σ H fun x H' => r x H' Q) :=
  ⟨fun pins s σ H Q I h => isTrue_plain (thn (ha.run pins s σ H _ I h) fun v s1 ⟨x, H1, I1, r1, q1⟩ => ht pins s1 σ H1 x v Q I1 r1 q1) (he _)⟩
/-- not a as a value, by a's truth -/
theorem pe_notOwn {a : Expr} {pos : Pos} {ta : TE} {r : V → Hp → (Bool → Hp → Prop) → Prop} (ht : TruR X r) (ha : PE X a ta) : PE X (.UnaryOp .Not a pos) (fun σ H Q => ta σ H fun x H' => r x H' fun b H2 => Q (.bl (!b)) H2) := by
  refine ⟨fun pins s σ H Q I h => ?_⟩
  refine UnaryOp_ (thn (ha.run pins s σ H _ I h) fun v s1 ⟨x, H1, I1, r1, q1⟩ => ?_)
  exact not_of (thn (ht pins s1 σ H1 x v _ I1 r1 q1) fun b s2 ⟨H2, I2, q2⟩ => ⟨.bl (!b), H2, I2, rfl, q2⟩)
/-- x in y, y an instance with its own __contains__ that answers a bool -/
def rInOwn (neg : Bool) (C : Addr) (sp : Sp) (E : XK) : R2 := fun x y H Q => ∃ a dx fs, y = .ref a ∧ H a = some (.ins C dx fs) ∧ sp [.ref a, x] H (fun v H' => ∃ b, v = .bl b ∧ Q (.bl (if neg then !b else b)) H') E
theorem op_inOwn (F : Mtd X.prog X.w X.K X.mg X.base CX lv C "__contains__" ps [] sp) (hr : Room lv X.A) (hx : Passes CX X E) : OpR X (compareOp .In) (rInOwn false C sp E) := by
  intro pins s σ H x y v u Q I rx ry h
  obtain ⟨a, dx, fs, rfl, ea, q⟩ := h
  obtain ⟨f, fd, ds, G, k, vd, b⟩ := F.ex
  cases (show u = Value.ref a from ry)
  obtain ⟨od, J⟩ := inst_at I ea
  obtain ⟨mm, hF⟩ := I.fr
  refine PySem.W.in_K hF I.ok.mod.kin J k.at_ k.fn ?_
  refine thn (run_fn (us := [.ref a, v]) (vs := [.ref a, x]) G hr b vd hx I (.cons rfl (.cons rx .nil)) q) fun u s' ⟨z, H', I', rz, bb, ez, qz⟩ => ?_
  subst ez
  cases (show u = Value.bool bb from rz)
  exact wpAny_truthy_bool ⟨.bl bb, H', I', rfl, qz⟩
theorem op_notInOwn (F : Mtd X.prog X.w X.K X.mg X.base CX lv C "__contains__" ps [] sp) (hr : Room lv X.A) (hx : Passes CX X E) : OpR X (compareOp .NotIn) (rInOwn true C sp E) := by
  intro pins s σ H x y v u Q I rx ry h
  obtain ⟨a, dx, fs, rfl, ea, q⟩ := h
  obtain ⟨f, fd, ds, G, k, vd, b⟩ := F.ex
  cases (show u = Value.ref a from ry)
  obtain ⟨od, J⟩ := inst_at I ea
  obtain ⟨mm, hF⟩ := I.fr
  refine PySem.W.notIn_K hF I.ok.mod.kin J k.at_ k.fn ?_
  refine thn (run_fn (us := [.ref a, v]) (vs := [.ref a, x]) G hr b vd hx I (.cons rfl (.cons rx .nil)) q) fun u s' ⟨z, H', I', rz, bb, ez, qz⟩ => ?_
  subst ez
  cases (show u = Value.bool bb from rz)
  exact wpAny_truthy_bool ⟨.bl (!bb), H', I', rfl, qz⟩
/-- x op y, both instances of the class at C, by C's own def -/
def rBinOwn (C : Addr) (sp : Sp) (E : XK) : R2 := fun x y H Q => ∃ a dx fs b dy gs, x = .ref a ∧ y = .ref b ∧ H a = some (.ins C dx fs) ∧ H b = some (.ins C dy gs) ∧ sp [.ref a, .ref b] H Q E
theorem op_binOwn {op : Operator} (F : Mtd X.prog X.w X.K X.mg X.base CX lv C (PySem.dunder op.info.2) ps [] sp) (hr : Room lv X.A) (hx : Passes CX X E) (hc : PySem.W.selfFirst X.K C = true) : OpR X (binaryOp op) (rBinOwn C sp E) := by
  intro pins s σ H x y v u Q I rx ry h
  obtain ⟨a, dx, fs, b, dy, gs, rfl, rfl, ea, eb, q⟩ := h
  obtain ⟨f, fd, ds, G, k, vd, bb⟩ := F.ex
  cases (show v = Value.ref a from rx)
  cases (show u = Value.ref b from ry)
  obtain ⟨od, J⟩ := inst_at I ea
  obtain ⟨od', J'⟩ := inst_at I eb
  obtain ⟨mm, hF⟩ := I.fr
  refine PySem.W.binop_K hF I.ok.mod.kin J J'.type hc k.at_ k.fn ?_
  exact thn (run_fn (us := [.ref a, .ref b]) (vs := [.ref a, .ref b]) G hr bb vd hx I (.cons rfl (.cons rfl .nil)) q) fun w s' ⟨z, H', I', rz, qz⟩ => SlX.cmpback rz ⟨z, H', I', rz, qz⟩
/-- x == y, x an instance of the class at C with its own __eq__, y anything that is not of a class below C -/
def rEqOwn (K : PySem.W.Frag) (C : Addr) (sp : Sp) (E : XK) : R2 := fun x y H Q => ∃ a dx fs tb, x = .ref a ∧ H a = some (.ins C dx fs) ∧ TyX K H y tb ∧ PySem.W.notFirst K C tb = true ∧ sp [.ref a, y] H Q E
theorem op_eqOwn (F : Mtd X.prog X.w X.K X.mg X.base CX lv C "__eq__" ps [] sp) (hr : Room lv X.A) (hx : Passes CX X E) : OpR X (compareOp .Eq) (rEqOwn X.K C sp E) := by
  intro pins s σ H x y v u Q I rx ry h
  obtain ⟨a, dx, fs, tb, rfl, ea, ty, hn, q⟩ := h
  obtain ⟨f, fd, ds, G, k, vd, bb⟩ := F.ex
  cases (show v = Value.ref a from rx)
  obtain ⟨od, J⟩ := inst_at I ea
  obtain ⟨mm, hF⟩ := I.fr
  obtain ⟨P, Z, p, _⟩ := kit_of I ry ty
  show wpAny _ _ (richCompare .Eq (.ref a) u) _ _ _
  refine PySem.W.cmp_K (op := .Eq) (tb := tb) hr.units0 hF I.ok.mod.kin J (Z.ty _ _ I.kIn p) hn k.at_ k.fn ?_
  exact thn (run_fn (us := [.ref a, u]) (vs := [.ref a, y]) G hr bb vd hx I (.cons rfl (.cons ry .nil)) q) fun w s' ⟨z, H', I', rz, qz⟩ => SlX.cmpback rz ⟨z, H', I', rz, qz⟩
/-- ~x by its own __invert__ -/
def rInvOwn (C : Addr) (sp : Sp) (E : XK) : V → Hp → VK → Prop := fun x H Q => ∃ a dx fs, x = .ref a ∧ H a = some (.ins C dx fs) ∧ sp [.ref a] H Q E
theorem un_invOwn (F : Mtd X.prog X.w X.K X.mg X.base CX lv C "__invert__" ps [] sp) (hr : Room lv X.A) (hx : Passes CX X E) : UnR X (unaryOp .Invert) (rInvOwn C sp E) := by
  intro pins s σ H x v Q I rx h
  obtain ⟨a, dx, fs, rfl, ea, q⟩ := h
  obtain ⟨f, fd, ds, G, k, vd, b⟩ := F.ex
  cases (show v = Value.ref a from rx)
  obtain ⟨od, J⟩ := inst_at I ea
  obtain ⟨mm, hF⟩ := I.fr
  refine PySem.W.ksp_inv hF I.ok.mod.kin J k.at_ k.fn ?_
  exact run_fn (us := [.ref a]) (vs := [.ref a]) G hr b vd hx I (.cons rfl .nil) q
end
end RS

set_option maxRecDepth 100000
set_option maxHeartbeats 4000000
namespace RS
open PySem PySem.Spec PyProof.Rows L2
/-! ### x != y where the class has __eq__ but no __ne__ -/
section
open PySem.W Builtin
variable {prog : Program} {w : World} {A : Around} {E : Value → Shared → Prop} {s : Shared} {K : Frag} {x C f : Addr} {ox : Obj} {od : Option Obj} {b tb : Value}
theorem objNe_K {Q : Fin → Shared → Prop} (hu : A.units < cLine) (X : K.In s.heap) (I : InstAt s.heap x ox C od) (he : findIn K (.ref C) "__eq__" = some (some (.ref f))) (hf : isFn K (.ref f) = true)
    (h : wpAny (model prog w) A (call (.ref f) [.ref x, b]) (fun v s' => ∃ k, v = .bool k ∧ Q (.done (.ret (.bool (!k)))) s') E s) :
    wpAny (model prog w) A (Builtin.«object.__ne__» ⟨[.ref x, b], []⟩) Q E s := by
  unfold Builtin.«object.__ne__»
  repeat (first
    | with_reducible refine wpAny_cRoomFor hu ?_
    | (refine wpAny_bind (m := callSpecialIfBound? (.ref x) (Str.ofString "__eq__") [b])
        (ifBound_K X I he hf (wpAny_mono h (fun r s' hr => by
          obtain ⟨k, rfl, hq⟩ := hr
          repeat (first | exact hq | exact wpAny_pure hq | exact wpAny_truthy_bool hq | (refine wpAny_bind (m := truthy (.bool _)) (wpAny_truthy_bool ?_)) | wp_step)) fun _ _ e => e)))
    | wp_step)
theorem ne_K {Q : Value → Shared → Prop} (hu : A.units + 1 < cLine) (X : K.In s.heap) (I : InstAt s.heap x ox C od) (hb : Looks (model prog w) s.heap (typeOf b) tb) (hn : notFirst K C tb = true)
    (hs : findIn K (.ref C) "__ne__" = some (some (.builtin "object.__ne__"))) (he : findIn K (.ref C) "__eq__" = some (some (.ref f))) (hf : isFn K (.ref f) = true) (hm : mroIn K C (.type "object") = some true)
    (h : wpAny (model prog w) A.in1 (call (.ref f) [.ref x, b]) (fun v s' => ∃ k, v = .bool k ∧ Q (.bool (!k)) s') E s) : wpAny (model prog w) A (richCompare .NotEq (.ref x) b) Q E s := by
  have sub : Looks (model prog w) s.heap (isInstance (.ref x) (.type "object")) true := I.type.andThen (looks_mroIn X hm)
  have one : wpAny (model prog w) A (tryCompare (.ref x) "__ne__" b) (fun r s' => ∃ v, r = some v ∧ Q v s') E s := by
    unfold tryCompare
    refine wpAny_bind (m := callSpecialIfBound? (.ref x) (Str.ofString "__ne__") [b]) ?_
    simp only [callSpecialIfBound?, bindSpecialIfBound?]
    refine wpAny_holding (wpAny_bind (wpAny_bind (wpAny_bind (I.type.here ((looks_findIn X hs).here ?_)))))
    have cal : ∀ (Q' : Option Value → Shared → Prop), (∀ k s', Q (.bool (!k)) s' → Q' (some (.bool (!k))) s') → wpAny (model prog w) A (call (.builtin "object.__ne__") ([.ref x] ++ [b]) >>= fun v => pure (some v)) Q' E s := fun Q' hQ => by
      refine wpAny_bind (wpAny_call (codeAny_call_builtin F.cmp_object.ne.plain F.cmpEntry_ne
        (@check_slot (model prog w) _ _ s "object.__ne__" "object" "__ne__" (.ref x) [b] [] _ F.cmpKind_ne F.cmpSplit_ne sub (F.cmpArgs_ne _ _) (objNe_K (A := A.in1) hu X I he hf (wpAny_mono h (fun v s' hv => ?_) fun _ _ e => e)))))
      obtain ⟨k, rfl, hq⟩ := hv
      exact ⟨k, rfl, wpAny_pure (hQ _ _ hq)⟩
    refine wpAny_bind (wpAny_askSetting (wpAny_ite ?_))
    split
    · exact wpAny_bind (wpAny_of_eq (F.cmp_object.ne.bind _) (wpAny_pure (by exact cal _ fun k s' hq => wpAny_pure ⟨_, rfl, hq⟩)))
    · exact wpAny_tryCatch (wpAny_bind (wpAny_of_eq (F.cmp_object.ne.bind _) (wpAny_pure (by exact cal _ fun k s' hq => wpAny_pure ⟨_, rfl, hq⟩))))
  unfold richCompare
  simp only [oneThing_ref]
  refine wpAny_holding (wpAny_bind (wpAny_cRoomFor (Nat.lt_of_succ_lt hu) ?_))
  refine wpAny_bind (I.type.here (wpAny_bind (hb.here ?_)))
  rw [cmpInfo_NotEq]
  dsimp only
  split
  · rename_i q
    have e : subIn K tb (.ref C) = some false := by
      rcases Bool.or_eq_true_iff.mp hn with e | e
      · rw [beq_iff_eq.mp e] at q; simp at q
      · exact beq_iff_eq.mp e
    refine wpAny_bind ((looks_subIn X e).here ?_)
    simp only [Bool.false_eq_true, if_false]
    refine wpAny_bind (wpAny_mono one (fun r s' z => ?_) fun _ _ e => e)
    obtain ⟨v, rfl, hq⟩ := z
    exact wpAny_pure hq
  · refine wpAny_bind (wpAny_pure ?_)
    simp only [Bool.false_eq_true, if_false]
    refine wpAny_bind (wpAny_mono one (fun r s' z => ?_) fun _ _ e => e)
    obtain ⟨v, rfl, hq⟩ := z
    exact wpAny_pure hq
end
/-- no __ne__ of its own -/
structure NoNe (K : PySem.W.Frag) (C : Addr) : Prop where
  ne : PySem.W.findIn K (.ref C) "__ne__" = some (some (.builtin "object.__ne__"))
  ob : PySem.W.mroIn K C (.type "object") = some true
section
variable {X : Cx} {CX : CXT} {lv : Nat} {m : Str} {C : Addr} {ps : List Str} {sp : Sp} {E : XK}
/-- x != y, x an instance whose class has __eq__ (answering a bool) and no __ne__ -/
def rNeOwn (K : PySem.W.Frag) (C : Addr) (sp : Sp) (E : XK) : R2 := fun x y H Q => ∃ a dx fs tb, x = .ref a ∧ H a = some (.ins C dx fs) ∧ TyX K H y tb ∧ PySem.W.notFirst K C tb = true ∧ sp [.ref a, y] H (fun v H' => ∃ k, v = .bl k ∧ Q (.bl (!k)) H') E
theorem run_in1 {pins : List (Addr × Obj)} {σ : L2.St} {H : Hp} {s : Shared} {Q : VK} {f : Addr} {fd : FuncData} {us : List Value} {vs : List V} (F : FnOk X.prog X.w X.K X.mg X.base CX lv f fd ps sp) (hr : Room (lv + 1) X.A) (hb : Binds X.K fd ps []) (hx : Passes CX X E)
    (I : Inv X pins σ H s) (r : Vals vs us) (h : sp vs H Q E) : wpAny (model X.prog X.w) X.A.in1 (call (.ref f) us) (EP X pins σ Q) X.xe s := by
  have hl : (us ++ []).length = ps.length := by rw [List.append_nil, ← r.length]; exact F.len _ _ _ _ h
  have hb2 := hb s us I.kIn hl
  rw [List.append_nil] at hb2
  refine wpAny_call (codeAny_mono (F.run X.A.in1 X.stack s H ⟨us, []⟩ us vs Q E hr.in1 I.env0.in1 hb2 r h) fun r s' hq => ?_)
  cases r with
  | error e => exact hx pins σ H s e s' I hq
  | ok fl =>
    cases fl with
    | ret u => exact I.after hq
    | next => exact False.elim hq
    | brk => exact False.elim hq
    | cont => exact False.elim hq
theorem op_neOwn (n : NoNe X.K C) (F : Mtd X.prog X.w X.K X.mg X.base CX lv C "__eq__" ps [] sp) (hr : Room (lv + 1) X.A) (hx : Passes CX X E) : OpR X (compareOp .NotEq) (rNeOwn X.K C sp E) := by
  intro pins s σ H x y v u Q I rx ry h
  obtain ⟨a, dx, fs, tb, rfl, ea, ty, hn, q⟩ := h
  obtain ⟨f, fd, ds, G, k, vd, bb⟩ := F.ex
  cases vd
  cases (show v = Value.ref a from rx)
  obtain ⟨od, J⟩ := inst_at I ea
  obtain ⟨P, Z, p, _⟩ := kit_of I ry ty
  show wpAny _ _ (richCompare .NotEq (.ref a) u) _ _ _
  refine ne_K (by have := hr.units; omega) I.kIn J (Z.ty _ _ I.kIn p) hn n.ne k.at_ k.fn n.ob ?_
  refine thn (run_in1 (us := [.ref a, u]) (vs := [.ref a, y]) G hr bb hx I (.cons rfl (.cons ry .nil)) q) fun w s' ⟨z, H', I', rz, kk, ez, qz⟩ => ?_
  subst ez
  exact ⟨kk, rz, .bl (!kk), H', I', rfl, qz⟩
end
/-! ### bool(x) by x's own __bool__ -/
theorem bool_own {prog : Program} {w : World} {A : Around} {E : Value → Shared → Prop} {s : Shared} {x : Addr} {Q : Value → Shared → Prop}
    (ht : wpAny (model prog w) A.in1.in1 (truthy (.ref x)) (fun b s' => Q (.bool b) s') E s) : wpAny (model prog w) A (call (.type "bool") [.ref x]) Q E s := by
  refine callType_codes (T := "bool") (Bi := Builtin.«object.__init__») (Q₁ := fun r s₁ => ∃ k, r = Value.bool k ∧ Q r s₁) PySem.F.called_bool (PySem.F.typeCall_bool_1 _) PySem.F.entry_object_init ?_ ?_
  · refine codeAny_of_tree ?_
    show wpAny _ A.in1.in1 (do checkBuiltinCall "bool.__new__" ⟨[.type "bool", .ref x], []⟩; again (.builtin "bool.__new__" ⟨[.type "bool", .ref x], []⟩)) _ _ s
    refine wpAny_bind (wpAny_of_eq (PySem.F.newCall_bool_1 _) (wpAny_pure ⟨plainId_quiet (by decide +kernel) _, codeAny_builtin PySem.F.entry_bool_new ?_⟩))
    rw [Around.under_plainId (by decide +kernel) _]
    have f1 := PySem.F.conv_sub_bool
    unfold Builtin.«bool.__new__»
    repeat (first | (with_reducible refine wpAny_mono ht (fun b s' hb => ?_) (fun _ _ z => z)) | wp_step)
    exact ⟨b, rfl, hb⟩
  · rintro obj s₁ ⟨k, rfl, hq⟩
    exact ⟨PySem.typeIs_bool _ _, PySem.F.args_object_init_2 _ _, object_init_meets PySem.F.called_bool.init.lookup PySem.F.called_bool.made (by decide) prog w A.in1 _ s₁ ⟨PySem.typeIs_bool _ _, rfl, hq⟩⟩
section
variable {X : Cx} {CX : CXT} {lv : Nat} {m : Str} {C : Addr} {ps : List Str} {sp : Sp} {E : XK}
theorem call_boolOwn (F : Mtd X.prog X.w X.K X.mg X.base CX lv C "__bool__" ps [] sp) (hr : Room (lv + 2) X.A) (hx : Passes CX X E) : CallR X (.type "bool") (fun xs H Q => ∃ x, xs = [x] ∧ rTruOwn C sp E x H fun b H' => Q (.bl b) H') := by
  intro pins s σ H xs us Q I r h
  obtain ⟨x, rfl, a, dx, fs, rfl, ea, q⟩ := h
  obtain ⟨f, fd, ds, G, k, vd, bb⟩ := F.ex
  cases vd
  obtain ⟨u, rfl, ru⟩ := vals1 r
  cases (show u = Value.ref a from ru)
  obtain ⟨od, J⟩ := inst_at I ea
  obtain ⟨mm, hF⟩ := I.fr
  refine bool_own (PySem.W.truthy_K hF I.ok.mod.kin J k.at_ k.fn ?_)
  have hl : (([.ref a] : List Value) ++ []).length = ps.length := (G.len _ _ _ _ q)
  have hb2 := bb s [.ref a] I.kIn hl
  rw [List.append_nil] at hb2
  have hr2 : Room lv X.A.in1.in1 := (show Room (lv + 1) X.A.in1 from Room.in1 hr).in1
  refine wpAny_call (codeAny_mono (G.run X.A.in1.in1 X.stack s H ⟨[.ref a], []⟩ [.ref a] [.ref a] _ E hr2 I.env0.in1.in1 hb2 (.cons rfl .nil) q) fun r s' hq => ?_)
  cases r with
  | error e => exact hx pins σ H s e s' I hq
  | ok fl =>
    cases fl with
    | ret u =>
      obtain ⟨z, H', I', rz, b, ez, qz⟩ := I.after hq
      subst ez
      cases (show u = Value.bool b from rz)
      exact ⟨.bl b, H', I', rfl, qz⟩
    | next => exact False.elim hq
    | brk => exact False.elim hq
    | cont => exact False.elim hq
end
end RS

set_option maxRecDepth 100000
set_option maxHeartbeats 4000000
namespace RS
open PySem PySem.Spec PyProof.Rows L2 He
/-! ### the head's facts: defs at any path, and any Bool of the fragment -/
abbrev Frg := PySem.W.Frag
/-- a property's getter; a static method's def -/
def prA (K : Frg) (C : Addr) (m : Str) : Addr := match PySem.W.recIn K (ma K C m) "property" with
  | some (.ref g :: _) => g
  | _ => 0
def smA (K : Frg) (C : Addr) (m : Str) : Addr := match PySem.W.recIn K (ma K C m) "staticmethod" with
  | some (.ref g :: _) => g
  | _ => 0
structure DefR where
  adr : Frg → Addr
  name : Str
  qual : Str
  params : Arguments
  body : List Stmt
  scope : Scope
  dfl : List Dv := []
  clo : List Str := []
abbrev FnZ : Type := Option (Str × Str × Arguments × FuncBody × Scope × Addr × List Str × Addr)
def fnA (K : Frg) (a : Addr) : FnZ := match K.lookup a with
  | some ⟨_, _, .func fd, _⟩ => some (fd.name, fd.qualname, fd.params, fd.body, fd.scope, fd.globals, fd.closure.map (·.1), fd.builtins)
  | _ => none
def DefR.val (d : DefR) : FnZ := some (d.name, d.qual, d.params, .stmts d.body, d.scope, mainGlobals, d.clo, builtinsNs)
def DefR.dvs (K : Frg) (d : DefR) : List V := d.dfl.map (Dv.v K)
def DefR.ok (K : Frg) (d : DefR) : Bool := PySem.W.keepIn K (.ref (d.adr K)) && (match K.lookup (d.adr K) with
  | some ⟨_, _, .func fd, _⟩ => PySem.W.codeIn K fd.code d.qual && dflB K fd.defaults (d.dvs K)
  | _ => false)
theorem DefR.funD {K : Frg} {d : DefR} (e : fnA K (d.adr K) = d.val) (c : d.ok K = true) (hclo : d.clo = []) : ∃ fd, FunD K d.name d.qual d.params d.body d.scope (d.dvs K) [] (d.adr K) fd := by
  obtain ⟨kp, c2⟩ := ba c
  unfold fnA at e
  cases q : K.lookup (d.adr K) with
  | none =>
    rw [q] at c2
    cases c2
  | some o =>
    obtain ⟨oc, od, dt, osl⟩ := o
    rw [q] at c2 e
    cases dt with
    | func fd =>
      obtain ⟨n1, n2, n3, n4, n5, n6, n7, n8, n9, n10, n11, n12, n13, n14, n15⟩ := fd
      have e2 : (some (n1, n2, n3, n4, n5, n6, n7.map (·.1), n15) : FnZ) = some (d.name, d.qual, d.params, .stmts d.body, d.scope, mainGlobals, d.clo, builtinsNs) := e
      rw [hclo] at e2
      simp only [Option.some.injEq, Prod.mk.injEq, List.map_eq_nil_iff] at e2
      obtain ⟨h1, h2, h3, h4, h5, h6, h7, h8⟩ := e2
      subst h1 h2 h3 h4 h5 h6 h7 h8
      have c3 : (PySem.W.codeIn K n13 d.qual && dflB K n8 (d.dvs K)) = true := c2
      obtain ⟨k1, k2⟩ := ba c3
      exact ⟨_, ⟨oc, od, n8, n9, n10, n11, n12, n13, n14, osl, rfl, q, k1, dflB_ok k2, .inl rfl⟩, kp⟩
    | _ => cases c2
def asR (g : Addr → Option Obj) : Nat → List Addr
  | 0 => [mainGlobals, cStatics]
  | n + 1 => growD g (asR g n)
abbrev AlR : Type := Bool × List FnZ
def obsR (ex : Frg → Bool) (fn : List DefR) (K : Frg) : AlR := (ex K && fn.all fun d => d.ok K, fn.map fun d => fnA K (d.adr K))
def valR (fn : List DefR) : AlR := (true, fn.map DefR.val)
def SaysR (ex : Frg → Bool) (fn : List DefR) (K : Frg) : Prop := obsR ex fn K = valR fn
def obsRG (n : Nat) (ex : Frg → Bool) (fn : List DefR) (g : Addr → Option Obj) : AlR := obsR ex fn (frG g (asR g n))
def hookR (n : Nat) (ex : Frg → Bool) (fn : List DefR) : PySem.W.Hook where
  α := AlR
  obs := fun s => obsRG n ex fn s.heap.get?
  val := fun _ => valR fn
  says := fun _ h => ∃ K : Frg, K.In h ∧ SaysR ex fn K
  of := fun _ _ e => ⟨_, frG_in, e⟩
  keeps := fun _ _ _ ⟨K, hK, c⟩ k => ⟨K, PySem.W.Frag.In.keeps hK k, c⟩
theorem obsRG_eq {n : Nat} {ex : Frg → Bool} {fn : List DefR} {g : Addr → Option Obj} {s : Shared} (h : ∀ a, g a = s.heap.get? a) : obsRG n ex fn g = (hookR n ex fn).obs s := by
  have e : g = s.heap.get? := funext h
  rw [e] <;> rfl
section
variable {ex : Frg → Bool} {fn : List DefR} {K : Frg}
theorem SaysR.more (c : SaysR ex fn K) : ex K = true := (ba (show (ex K && fn.all fun d => d.ok K) = true from congrArg (fun z : AlR => z.1) c)).1
theorem SaysR.def_ (c : SaysR ex fn K) (i : Nat) {d : DefR} (h : fn[i]? = some d := by rfl) (hclo : d.clo = [] := by rfl) : ∃ fd, FunD K d.name d.qual d.params d.body d.scope (d.dvs K) [] (d.adr K) fd := by
  have c2 := (ba (show (ex K && fn.all fun d => d.ok K) = true from congrArg (fun z : AlR => z.1) c)).2
  have e : fn.map (fun d => fnA K (d.adr K)) = fn.map DefR.val := congrArg (fun z : AlR => z.2) c
  have e2 : (fn.map fun d => fnA K (d.adr K))[i]? = (fn.map DefR.val)[i]? := by rw [e]
  rw [List.getElem?_map, List.getElem?_map, h] at e2
  exact DefR.funD (Option.some.inj e2) (List.all_eq_true.mp c2 d (List.mem_of_getElem? h)) hclo
theorem SaysR.val_ (c : SaysR ex fn K) (i : Nat) {d : DefR} (h : fn[i]? = some d := by rfl) : fnA K (d.adr K) = d.val := by
  have e : fn.map (fun d => fnA K (d.adr K)) = fn.map DefR.val := congrArg (fun z : AlR => z.2) c
  have e2 : (fn.map fun d => fnA K (d.adr K))[i]? = (fn.map DefR.val)[i]? := by rw [e]
  rw [List.getElem?_map, List.getElem?_map, h] at e2
  exact Option.some.inj e2
end
/-! ### facts as Bools -/
def freeB (K : Frg) (x : Str) : Bool := (Fa.free x).ok K
def gloB (K : Frg) (x : Str) : Bool := (Fa.glo x).ok K
def clsB (K : Frg) (x : Str) : Bool := (Fa.cls x).ok K
def noatB (K : Frg) (x f : Str) : Bool := (Fa.noat x f).ok K
def methB (K : Frg) (x f : Str) : Bool := (Fa.meth x f).ok K
def mkrB (K : Frg) (x : Str) : Bool := (Fa.mkr x).ok K
def prpB (K : Frg) (x m : Str) : Bool := eqO (PySem.W.findIn K (.ref (ga K x)) m) (some (some (.ref (ma K (ga K x) m)))) &&
  (eqO (PySem.W.specialIn K (.ref (ma K (ga K x) m)) "__get__") (some (some (.builtin "property.__get__"))) && (decide (PySem.W.takesIn K (.ref (ma K (ga K x) m)) = some true) &&
  (match PySem.W.recIn K (ma K (ga K x) m) "property" with
  | some (.ref g :: _) => decide (g = prA K (ga K x) m)
  | _ => false)))
theorem prpB_ok {K : Frg} {x m : Str} (h : prpB K x m = true) : PropOf K (ga K x) m (ma K (ga K x) m) (prA K (ga K x) m) := by
  obtain ⟨h1, h⟩ := ba h
  obtain ⟨h2, h⟩ := ba h
  obtain ⟨h3, h4⟩ := ba h
  refine ⟨eqO_ok h1, eqO_ok h2, of_decide_eq_true h3, ?_⟩
  split at h4
  · rename_i g rest e
    exact ⟨rest, by rw [e, of_decide_eq_true h4]⟩
  · cases h4
/-- attributes of the class x are read in the plain way -/
def crdB (K : Frg) (x : Str) : Bool := PySem.W.readsIn K (ga K x) (.type "type") && eqO (PySem.W.specialIn K (.ref (ga K x)) "__getattribute__") (some (some (.builtin "type.__getattribute__")))
theorem crdB_ok {K : Frg} {x : Str} (h : crdB K x = true) : ClX.CRead K (ga K x) (.type "type") := by
  obtain ⟨h1, h2⟩ := ba h
  exact ⟨h1, eqO_ok h2⟩
def stcB (K : Frg) (x m : Str) : Bool := (match PySem.W.findCls K (.ref (ga K x)) (.type "type") m with
  | some (.get (.builtin i) (.ref p) .none (.ref C)) => decide (i = "staticmethod.__get__") && (decide (p = ma K (ga K x) m) && decide (C = ga K x))
  | _ => false) && (match PySem.W.recIn K (ma K (ga K x) m) "staticmethod" with
  | some (.ref g :: _) => decide (g = smA K (ga K x) m)
  | _ => false)
theorem stcB_ok {K : Frg} {x m : Str} (h : stcB K x m = true) : PySem.W.findCls K (.ref (ga K x)) (.type "type") m = some (.get (.builtin "staticmethod.__get__") (.ref (ma K (ga K x) m)) .none (.ref (ga K x))) ∧
    ∃ rest, PySem.W.recIn K (ma K (ga K x) m) "staticmethod" = some (.ref (smA K (ga K x) m) :: rest) := by
  obtain ⟨h1, h2⟩ := ba h
  constructor
  · split at h1
    · rename_i i p C e
      obtain ⟨a, b⟩ := ba h1
      obtain ⟨b, c⟩ := ba b
      rw [e, of_decide_eq_true a, of_decide_eq_true b, of_decide_eq_true c]
    · cases h1
  · split at h2
    · rename_i g rest e
      exact ⟨rest, by rw [e, of_decide_eq_true h2]⟩
    · cases h2
/-- what isinstance asks of an instance of the class x -/
structure IsiC (K : Frg) (C : Addr) : Prop where
  cl : Cls K C
  ca : PySem.W.findIn K (.ref C) "__class__" = some (some (.builtin "object.__class__"))
  cn : PySem.W.specialIn K (.builtin "object.__class__") "__get__" = some (some (.builtin "getset_descriptor.__get__"))
  ct : PySem.W.takesIn K (.builtin "object.__class__") = some true
  cm : PySem.W.mroIn K C (.type "object") = some true
def isiB (K : Frg) (x : Str) : Bool := clsB K x && (eqO (PySem.W.findIn K (.ref (ga K x)) "__class__") (some (some (.builtin "object.__class__"))) &&
  (eqO (PySem.W.specialIn K (.builtin "object.__class__") "__get__") (some (some (.builtin "getset_descriptor.__get__"))) && (decide (PySem.W.takesIn K (.builtin "object.__class__") = some true) && decide (PySem.W.mroIn K (ga K x) (.type "object") = some true))))
theorem isiB_ok {K : Frg} {x : Str} (h : isiB K x = true) : IsiC K (ga K x) := by
  obtain ⟨h0, h⟩ := ba h
  obtain ⟨h1, h⟩ := ba h
  obtain ⟨h2, h⟩ := ba h
  obtain ⟨h3, h4⟩ := ba h
  exact ⟨cls_ok h0, eqO_ok h1, eqO_ok h2, of_decide_eq_true h3, of_decide_eq_true h4⟩
theorem IsiC.ty {K : Frg} {C : Addr} (c : IsiC K C) {H : Hp} {a dx : Addr} {fs : List (Str × V)} (e : H a = some (.ins C dx fs)) : TyX K H (.ref a) (.ref C) := .base (.ins e c.cl c.ca c.cn c.ct c.cm)
def neB (K : Frg) (x : Str) : Bool := eqO (PySem.W.findIn K (.ref (ga K x)) "__ne__") (some (some (.builtin "object.__ne__"))) && decide (PySem.W.mroIn K (ga K x) (.type "object") = some true)
theorem neB_ok {K : Frg} {x : Str} (h : neB K x = true) : NoNe K (ga K x) := by
  obtain ⟨h1, h2⟩ := ba h
  exact ⟨eqO_ok h1, of_decide_eq_true h2⟩
def kitB1 (K : Frg) (t c : Value) (b : Bool) : Bool := decide (PySem.W.kitOne K t c = some b)
end RS

set_option maxRecDepth 100000
set_option maxHeartbeats 4000000
/-! ### own exceptions whose __init__ calls the base's by super() -/
namespace PySem.RSX
open PySem PySem.W PySem.F PySem.Calls PyProof.Rows PySem.ESX
section
variable {prog : Program} {w : World} {A : Around} {E : Value → Shared → Prop} {h : Heap} {g : Array GenState} {d : Drawn} {t : Nat} {os : OsState}
variable {nm q : Str} {C N : Addr} {bs bm : List Value} {hdct : Bool} {sn : List Str} {sub : List Value} {ab : Bool} {col : Option Bool} {dd : Option Addr} {k0 k1 k2 k3 k5 : Option Value}
theorem call_mw {u e t0 : Addr} {rest : List Value} {Q : Value → Shared → Prop}
    (hC : h.get? C = some (excClassObj nm q C N bs bm hdct sn sub ab col dd k0 k1 k2 k3 k5 "ValueError.__new__")) (he : h.get? e = some (HandSPX.excO C t0)) (hu : h.get? u = some (kxs_mw "ValueError.__init__" e)) (hrest : rest.length ≤ sizeLine)
    (hq : ∀ h' t1, (∀ b o, b ≠ e → h.get? b = some o → h'.get? b = some o) → h'.get? e = some (HandSPX.excO C t1) → Q .none ⟨h', g, d, t, os⟩) :
    wpAny (model prog w) A (call (.ref u) rest) Q E ⟨h, g, d, t, os⟩ := by
  refine wpAny_call (codeAny_of_tree ?_)
  show wpAny _ A.in1 (callAny (.ref u) ⟨rest, []⟩) _ _ _
  simp only [callAny]
  refine wpAny_bind (wpAny_load hu ?_)
  simp only [kxs_mw, show (Value.type "method-wrapper" == Value.type "method" || Value.type "method-wrapper" == Value.type "builtin_function_or_method" || Value.type "method-wrapper" == Value.type "method-wrapper") = true by decide, if_true]
  refine W.KFB.if_so (by decide) ?_
  refine wpAny_bind (check_bound F.excBase_ValueError hC he rfl ?_)
  refine wpAny_bind (wpAny_pure (wpAny_pure ?_))
  refine ⟨Code.quiet_builtin _ (by decide +kernel), codeAny_builtin F.excBase_ValueError.initEntry ?_⟩
  rw [Around.under_plainId F.excBase_ValueError.init.plain _]
  wp_walk
  refine hq _ h.objs.size (fun b o hb ho => ?_) ?_
  · rw [Heap.get?_update_other _ _ (Ne.symm hb)]
    exact Heap.get?_push_of_some _ ho
  · rw [Heap.get?_update_self _ (Heap.get?_push_of_some _ he) rfl]
    rfl
end
end PySem.RSX
namespace RS
open PySem PySem.Spec PyProof.Rows L2 NdefX
/-- the class at C: an own exception (its __init__ says super().__init__(..)) -/
structure SupC (K : Frg) (C : Addr) : Prop where
  ox : OexC K C
  sup : PySem.W.ks_superIn K C C "__init__" = some (some (.builtin "ValueError.__init__"))
  op : PySem.W.nsIn K cStatics "thirdparty.any" = some none
  ve : PySem.W.mroIn K C (.type "ValueError") = some true
  me : PySem.W.mroIn K C (.ref C) = some true
/-- the def at f: closed over the cell of its class C -/
structure FunX (K : Frg) (P : Program) (name qual : Str) (params : Arguments) (body : List Stmt) (scope : Scope) (C : Addr) (f : Addr) (fd : FuncData) : Prop where
  ex : ∃ (oc : Value) (od : Option Addr) (doc pm ct : Value) (an : Option Addr) (cda cc : Addr) (osl : Array (Option Value)),
    fd = PySem.W.fnX name qual params body scope [("__class__", cc)] .none .none doc pm an (.ref cda) ct ∧ K.lookup f = some ⟨oc, od, .func fd, osl⟩ ∧ PySem.W.codeIn K (.ref cda) qual = true ∧
    (∃ ccl cdd vs ccs file tf, K.lookup cda = some ⟨ccl, cdd, .fields vs, ccs⟩ ∧ vs[2]? = some (.str file tf) ∧ (P.main.file == file) = true) ∧ ∃ cl cld csl, K.lookup cc = some ⟨cl, cld, .cell (some (.ref C)), csl⟩
  kp : PySem.W.keepIn K (.ref f) = true
abbrev supCall (p0 p1 ap cp pc : Pos) (j : Nat) (msg : Str) : Expr := .Call (.Attribute (.Call (.Name "super" p0) [] [] p1) "__init__" ap) [.Constant (.str msg) j pc] [] cp
section
variable {P : Program} {w : World} {K : Frg} {mg : Str → Option Value} {base : Heap} {CX : CXT} {k : Nat} {x qual s0 msg : Str} {params : Arguments} {rest : List Stmt} {scope : Scope} {C f : Addr} {fd : FuncData} {N ps : List Str} {sp : Sp} {p0 p1 ap cp pc sp0 : Pos} {j : Nat} {ar : Arg}
theorem fnx_of (F : FunX K P x qual params (.Expr (supCall p0 p1 ap cp pc j msg) sp0 :: rest) scope C f fd) (S : NScope N (s0 :: ps) ["__class__"] scope) (T : SupC K C)
    (hp : (params.posonlyargs ++ params.args).head? = some ar) (har : ar.arg = s0) (hs : scope.names.lookup ("super" : Str) = some .globalImplicit) (hmg : mg "super" = none) (htop : (P.main.scope.names.lookup ("super" : Str)).isSome = false)
    (hev : ∀ L cda cc : Addr, ∃ pl : Sem Bool, eval (supCall p0 p1 ap cp pc j msg) (PySem.W.envX qual scope L f (.ref cda) [("__class__", cc)]) = (do
      let ov ← attributeBase (.Call (.Name "super" p0) [] [] p1) "__init__" (PySem.W.envX qual scope L f (.ref cda) [("__class__", cc)]) (eval (.Call (.Name "super" p0) [] [] p1) (PySem.W.envX qual scope L f (.ref cda) [("__class__", cc)]))
      standAt ap.atName
      let (g, first) ← holding [ov] (getMethod ov "__init__" pl)
      callWith cp g first (backTo cp (starEach [.Constant (.str msg) j pc] (PySem.W.envX qual scope L f (.ref cda) [("__class__", cc)]))) []))
    (hsw : ∀ L cda cc : Addr, swapsWith (supCall p0 p1 ap cp pc j msg) none sp0.line (PySem.W.envX qual scope L f (.ref cda) [("__class__", cc)]) = pure false)
    (len : ∀ vs H Q E, sp vs H Q E → vs.length = (s0 :: ps).length)
    (hbody : ∀ (cda cc : Addr) (A : Around) (outer : List Env) (s : Shared) (H : Hp) (vs : List V) (Q : VK) (E : XK), Room k (A.deeper (envF ⟨x, qual, params, [], scope, [("__class__", cc)], cda⟩ f s.heap.objs.size)) → sp vs H Q E →
      ∃ (a : Addr) (ws : List V) (t : TS), vs = .ref a :: ws ∧ H a = some (exo a C none) ∧ PSs (ncx CX P w K mg base N ⟨x, qual, params, [], scope, [("__class__", cc)], cda⟩ f A outer s H E) rest t ∧
        t { nx := fun _ H' => Q .non H', rt := Q } (startF N vs [some (.ref C)]) H) :
    FnOk P w K mg base CX (k + 1) f fd (s0 :: ps) sp := by
  obtain ⟨oc, od, doc, pm, ct, an, cda, cc, osl, rfl, lk, hcd, ⟨ccl, cdd, vs0, ccs, file, tf, hcode, hvs, hfile⟩, ⟨cl, cld, csl, hcell⟩⟩ := F.ex
  refine ⟨len, fun A outer s H args us vs Q E hr e0 hb r hsp => ?_⟩
  have hl := len _ _ _ _ hsp
  have KX : K.In s.heap := e0.mod.kin.keeps fun b o e => (e0.bs b o e).1
  have lim : s.heap.NoLimit := e0.mod.nolimit.keeps fun b o e => (e0.bs b o e).1
  refine ks_codeAny_call_defAt (body := (.Expr (supCall p0 p1 ap cp pc j msg) sp0 :: rest)) (binds := (s0 :: ps).zip us) hr.depth (KX _ _ lk) rfl lim (PySem.W.codeRec_of KX hcd) rfl hb S.nocell (fun y hy => S.par y.1 (List.of_mem_zip hy).1) (fun h₁ hns kp => ?_) S.co S.gen S.kind
  have CA : CellsAt [("__class__", cc)] ["__class__"] [some (.ref C)] s.heap H := by
    have e1 : s.heap.IsCell cc (some (.ref C)) := ⟨_, KX _ _ hcell, rfl⟩
    have e2 : H cc = none := (e0.bs cc _ (e0.mod.kin _ _ hcell)).2
    have lk1 : ∀ {y : Str} {c : Addr}, List.lookup y [(("__class__" : Str), cc)] = some c → y = "__class__" ∧ c = cc := fun {y c} z => by
      have z2 := PySem.mem_of_lookup z
      simp at z2
      exact z2
    refine ⟨rfl, fun y c z => ?_, fun y z c h1 h2 => ?_, fun i y h => ?_⟩
    · obtain ⟨_, rfl⟩ := lk1 z
      exact ⟨e2, _, e1⟩
    · rw [(lk1 h1).1, (lk1 h2).1]
    · have hi : i < 1 := (List.getElem?_eq_some_iff.mp h).1
      obtain rfl : i = 0 := by omega
      obtain rfl := Option.some.inj h
      refine ⟨cc, by simp [List.lookup], fun v hv => ?_⟩
      obtain rfl := Option.some.inj (Option.some.inj hv)
      exact ⟨_, rfl, e1⟩
  obtain ⟨a, ws, tt, rfl, ha, ht, hq⟩ := hbody cda cc A outer s H vs Q E (hr.deeper _) hsp
  have I : Inv (ncx CX P w K mg base N ⟨x, qual, params, [], scope, [("__class__", cc)], cda⟩ f A outer s H E) [] (startF N (.ref a :: ws) [some (.ref C)]) H { s with heap := h₁, toks := s.toks + ((s0 :: ps).zip us).length } := inv_startN S hr.hd e0 hl r CA hns kp
  obtain ⟨us0, rfl⟩ : ∃ us0, us = .ref a :: us0 := by
    cases r with
    | @cons _ u0 _ ur ra rw' =>
      obtain rfl : u0 = Value.ref a := ra
      exact ⟨ur, rfl⟩
  refine PySem.ks_wpAt_mono (Q := SP (ncx CX P w K mg base N ⟨x, qual, params, [], scope, [("__class__", cc)], cda⟩ f A outer s H E) [] { nx := fun _ H' => Q .non H', rt := Q }) (E := (ncx CX P w K mg base N ⟨x, qual, params, [], scope, [("__class__", cc)], cda⟩ f A outer s H E).xe) ?_ (fun fl s' hs => ?_) fun e s' hs => hs
  · have hc0 : ∃ cd, PySem.W.clsIn K C = some cd := by
      cases q : PySem.W.clsIn K C with
      | none =>
        have z := T.sup
        unfold PySem.W.ks_superIn at z
        rw [q] at z
        cases z
      | some cd => exact ⟨cd, rfl⟩
    obtain ⟨cd, hcd2⟩ := hc0
    have hal : PySem.W.alongIn K "__init__" ((cd.mro.dropWhile (· != .ref C)).drop 1) = some (some (.builtin "ValueError.__init__")) := by
      have z := T.sup
      unfold PySem.W.ks_superIn at z
      rw [hcd2] at z
      exact z
    have KX1 : K.In h₁ := I.kIn
    obtain ⟨oD, hD1, hD2⟩ : ∃ oD, h₁.get? C = some oD ∧ oD.data = .cls cd := by
      unfold PySem.W.clsIn at hcd2
      split at hcd2
      · rename_i c d cd' sl ho
        cases hcd2
        exact ⟨_, KX1 _ _ ho, rfl⟩
      · cases hcd2
    obtain ⟨t1, hax⟩ := exo_at I.hok ha
    have hself : scope.names.lookup s0 = some .local := S.par s0 (List.mem_cons_self ..)
    have IA : PySem.W.InstAt h₁ a { cls := .ref C, dict := none, data := .fields #[.ref t1, .none, .none, .none, .bool false, .none] } C none := ⟨hax, rfl, rfl, trivial⟩
    obtain ⟨pl, he⟩ := hev s.heap.objs.size cda cc
    refine PySem.ks_wpAt_execs_cons (PySem.ks_wpAt_Expr_any (PySem.ks_wpAt_MethodCall (pl := pl) ?_ he) I.quiet (hsw s.heap.objs.size cda cc))
    have kfr : scope.names.lookup ("__class__" : Str) = some .free := S.frk _ (List.mem_cons_self ..)
    refine PySem.ks_wpAt_super_base (f := f) hs kfr (by decide) rfl (KX1 _ _ lk) rfl hp rfl (KX1 _ _ hcode) rfl hvs hfile htop ?_
    obtain ⟨mb, hb1, hb2⟩ := I.mod.blt
    refine PySem.W.ks_loadName_global S.kind hs (PySem.Calls.loadGlobal_builtin (I.mod.glob.keeps I.bk) hmg (hb1.keeps I.bk) ((hb2 _ (by decide)).trans (by decide +kernel : bootBuiltins "super" = some (.type "super"))) ⟨rfl, ?_⟩)
    refine wpAny_loadName_free S.kind kfr rfl ⟨_, KX1 _ _ hcell, rfl⟩ ?_
    have ndP : (s0 :: ps).Nodup := by
      have q := S.nd.sublist (List.take_sublist ((s0 :: ps).length + (["__class__"] : List Str).length) N)
      rw [S.pre] at q
      exact (List.nodup_append.mp q).1
    refine wpAny_loadName_local (v := .ref a) S.kind (by rw [har]; exact hself) hns (by rw [har]; exact zip_look (i := 0) (us := Value.ref a :: us0) ndP rfl rfl) ?_
    refine PySem.ks_wpAny_isType_cls hD1 hD2 ⟨rfl, ?_⟩
    refine PySem.ks_wpAny_call_super hD1 hD2 hax rfl (fun c e => by cases e) (PySem.W.looks_mroIn KX1 T.me) (fun h2 e2 k2 => ?_)
    have I2 : Inv (ncx CX P w K mg base N ⟨x, qual, params, [], scope, [("__class__", cc)], cda⟩ f A outer s H E) [] (startF N (.ref a :: ws) [some (.ref C)]) H { s with heap := h2, toks := s.toks + ((s0 :: ps).zip (Value.ref a :: us0)).length } := I.kept k2
    have hC2 : PySem.W.Looks (model P w) h2 (mroOf (.ref C)) cd.mro := fun A Q E s k q => wpAny_bind ((PySem.W.looks_clsIn I2.kIn hcd2) A _ E s k (wpAny_pure q))
    have IA2 : PySem.W.InstAt h2 a { cls := .ref C, dict := none, data := .fields #[.ref t1, .none, .none, .none, .bool false, .none] } C none := ⟨k2 _ _ hax, rfl, rfl, trivial⟩
    refine PySem.W.kxs_getMethod PySem.W.kxs_ValueError e2 (PySem.W.looks_opaque I2.kIn T.op) hC2 rfl I2.kIn hal (IA2.type.andThen (PySem.W.looks_mroIn I2.kIn T.ve)) (PySem.W.ks_ne KX1 IA hcd2) (by decide) ?_
    -- the call of the bound __init__
    have hu0 : (h2.push (PySem.W.kxs_mw "ValueError.__init__" a)).get? h2.objs.size = some (PySem.W.kxs_mw "ValueError.__init__" a) := by heap_get
    have hn0 : H h2.objs.size = none := I2.hok.fresh (Nat.le_refl _)
    have I3 : Inv (ncx CX P w K mg base N ⟨x, qual, params, [], scope, [("__class__", cc)], cda⟩ f A outer s H E) [(h2.objs.size, PySem.W.kxs_mw "ValueError.__init__" a)] (startF N (.ref a :: ws) [some (.ref C)]) H
        { s with heap := h2.push (PySem.W.kxs_mw "ValueError.__init__" a), toks := s.toks + ((s0 :: ps).zip (Value.ref a :: us0)).length + 1 } := by
      have I3' : Inv (ncx CX P w K mg base N ⟨x, qual, params, [], scope, [("__class__", cc)], cda⟩ f A outer s H E) [] (startF N (.ref a :: ws) [some (.ref C)]) H
        { s with heap := h2.push (PySem.W.kxs_mw "ValueError.__init__" a), toks := s.toks + ((s0 :: ps).zip (Value.ref a :: us0)).length + 1 } := I2.kept (fun b o e => Heap.get?_push_of_some _ e)
      refine I3'.pins_of fun p hp => ?_
      obtain rfl : p = (h2.objs.size, PySem.W.kxs_mw "ValueError.__init__" a) := by simpa using hp
      exact ⟨hu0, hn0, Nat.ne_of_gt I2.lt, I2.nofs (Nat.le_refl _), fun v z => by cases z⟩
    refine PySem.W.kxs_callWith (i := "ValueError.__init__") (x := a) (by rfl) ?_
    have pst : ∀ X : Cx, PA X [.Constant (.str msg) j pc] (tCons (tC (.str msg)) tNil) := fun X => pa_cons pe_str pa_nil
    have ha3 := (pst (ncx CX P w K mg base N ⟨x, qual, params, [], scope, [("__class__", cc)], cda⟩ f A outer s H E)).run cp _ _ _ H (fun vs H' => vs = [.str msg] ∧ H' = H) I3 ⟨rfl, rfl⟩
    refine PySem.Calls.evalArgs_plain (thn ha3 fun vs s1 hh => ?_)
    obtain ⟨xs, H', I4, rv, rfl, rfl⟩ := hh
    have hu4 : s1.heap.get? h2.objs.size = some (PySem.W.kxs_mw "ValueError.__init__" a) := (I4.pin _ (List.mem_append_right _ (List.mem_singleton.mpr rfl))).1
    have hlen : vs.length ≤ sizeLine := by
      rw [← Paired.length rv, sizeLine_eq]
      show 1 ≤ 16777216; decide
    refine ⟨hu4, ?_⟩
    obtain ⟨nm, q, N', bs, bm, sn, sub, ab, col, dd, k0, k1, k2', k3, k5, hC, hbm⟩ := T.ox.cls
    obtain ⟨t4, hax4⟩ := exo_at I4.hok ha
    obtain ⟨hp4, g4, d4, tk4, os4⟩ := s1
    refine PySem.RSX.call_mw (I4.kIn _ _ hC) hax4 hu4 hlen fun h5 t5 k5 hx5 => ?_
    have I4' := I4.pins_of (pins' := []) (fun p hp => absurd hp (by simp))
    have J := I4'.write (t' := tk4) (x := a) (e := a) (o := exo a C none) (by rw [ha]; exact True.intro) (.inl rfl) k5 ⟨_, hx5⟩ (exo_ok hx5)
    have eu : upd H' a (exo a C none) = H' := by
      funext b
      by_cases hb : b = a
      · rw [hb, upd_same, ha]
      · rw [upd_ne hb]
    rw [eu] at J
    exact wpAt_of_wpAny (ht.run [] _ _ _ _ J hq)
  · have fin : ∀ {σ' : L2.St} {H' : Hp} {v : V} {u : Value}, Inv (ncx CX P w K mg base N ⟨x, qual, params, [], scope, [("__class__", cc)], cda⟩ f A outer s H E) [] σ' H' s' → RelV v u → Q v H' → CE outer P w H s Q u s' :=
      fun {σ' H' v u} J rv q => ⟨v, H', J.os, J.bare, J.base, J.hok, rv, q⟩
    cases fl with
    | ret u =>
      obtain ⟨v, σ', H', J, rv, q⟩ := hs
      exact fin J rv q
    | next =>
      obtain ⟨σ', H', J, q⟩ := hs
      exact fin (v := V.non) (u := Value.none) J rfl q
    | brk =>
      obtain ⟨_, _, _, q⟩ := hs
      exact False.elim q
    | cont =>
      obtain ⟨_, _, _, q⟩ := hs
      exact False.elim q
end
end RS

set_option maxRecDepth 100000
set_option maxHeartbeats 4000000
namespace RS
open PySem PySem.Spec PyProof.Rows L2
/-! ### the second family's source of draws: what its dict holds, and the draw's promise -/
/-- all that was tracked is as it was, but for the object at a -/
def Sav (a : Addr) (H H' : Hp) : Prop := ∀ b o, b ≠ a → H b = some o → H' b = some o
theorem Sav.refl (a : Addr) (H : Hp) : Sav a H H := fun _ _ _ h => h
theorem Sav.trans {a : Addr} {H H1 H2 : Hp} (x : Sav a H H1) (y : Sav a H1 H2) : Sav a H H2 := fun b o n h => y b o n (x b o n h)
theorem Sav.at {a b : Addr} {H H' : Hp} {o : HO} (x : Sav a H H') (n : b ≠ a) (h : H b = some o) : H' b = some o := x b o n h
theorem Sav.new {a p : Addr} {H : Hp} {o : HO} (h : H p = none) : Sav a H (upd H p o) := fun b u _ e => by rw [upd_ne (ne_of_none e h)]; exact e
theorem Sav.own {a : Addr} {H : Hp} {o : HO} : Sav a H (upd H a o) := fun b u n e => by rw [upd_ne n]; exact e
theorem Sav.free {a b : Addr} {H H' : Hp} (x : Sav a H H') (n : b ≠ a) (h : H' b = none) : H b = none := by
  cases q : H b with
  | none => rfl
  | some o => rw [x b o n q] at h; cases h
theorem Same.sav {a : Addr} {H H' : Hp} (x : Same H H') : Sav a H H' := fun b o _ h => x b o h
theorem upd_old {H : Hp} {p q : Addr} {o u : HO} (hp : H p = none) (hq : H q = some o) : upd H p u q = some o := by rw [upd_ne (ne_of_none hq hp)]; exact hq

def bagD (c : Addr) (a d n f : Int) : List (Key × V) := [(.inr "cells", .ref c), (.inr "at", .int a), (.inr "digits", .int d), (.inr "count", .int n), (.inr "fold", .int f)]
theorem n_cells_at : ¬ (("cells" : Str) = "at") := by decide +kernel
theorem n_cells_digits : ¬ (("cells" : Str) = "digits") := by decide +kernel
theorem n_cells_count : ¬ (("cells" : Str) = "count") := by decide +kernel
theorem n_cells_fold : ¬ (("cells" : Str) = "fold") := by decide +kernel
theorem n_at_cells : ¬ (("at" : Str) = "cells") := by decide +kernel
theorem n_at_digits : ¬ (("at" : Str) = "digits") := by decide +kernel
theorem n_at_count : ¬ (("at" : Str) = "count") := by decide +kernel
theorem n_at_fold : ¬ (("at" : Str) = "fold") := by decide +kernel
theorem n_digits_cells : ¬ (("digits" : Str) = "cells") := by decide +kernel
theorem n_digits_at : ¬ (("digits" : Str) = "at") := by decide +kernel
theorem n_digits_count : ¬ (("digits" : Str) = "count") := by decide +kernel
theorem n_digits_fold : ¬ (("digits" : Str) = "fold") := by decide +kernel
theorem n_count_cells : ¬ (("count" : Str) = "cells") := by decide +kernel
theorem n_count_at : ¬ (("count" : Str) = "at") := by decide +kernel
theorem n_count_digits : ¬ (("count" : Str) = "digits") := by decide +kernel
theorem n_count_fold : ¬ (("count" : Str) = "fold") := by decide +kernel
theorem n_fold_cells : ¬ (("fold" : Str) = "cells") := by decide +kernel
theorem n_fold_at : ¬ (("fold" : Str) = "at") := by decide +kernel
theorem n_fold_digits : ¬ (("fold" : Str) = "digits") := by decide +kernel
theorem n_fold_count : ¬ (("fold" : Str) = "count") := by decide +kernel
theorem bag_cells (c : Addr) (a d n f : Int) : valV (bagD c a d n f) (Sum.inr "cells") = some (.ref c) := by simp [valV, bagD, n_cells_at, n_cells_digits, n_cells_count, n_cells_fold, n_at_cells, n_at_digits, n_at_count, n_at_fold, n_digits_cells, n_digits_at, n_digits_count, n_digits_fold, n_count_cells, n_count_at, n_count_digits, n_count_fold, n_fold_cells, n_fold_at, n_fold_digits, n_fold_count]
theorem bag_at (c : Addr) (a d n f : Int) : valV (bagD c a d n f) (Sum.inr "at") = some (.int a) := by simp [valV, bagD, n_cells_at, n_cells_digits, n_cells_count, n_cells_fold, n_at_cells, n_at_digits, n_at_count, n_at_fold, n_digits_cells, n_digits_at, n_digits_count, n_digits_fold, n_count_cells, n_count_at, n_count_digits, n_count_fold, n_fold_cells, n_fold_at, n_fold_digits, n_fold_count]
theorem bag_digits (c : Addr) (a d n f : Int) : valV (bagD c a d n f) (Sum.inr "digits") = some (.int d) := by simp [valV, bagD, n_cells_at, n_cells_digits, n_cells_count, n_cells_fold, n_at_cells, n_at_digits, n_at_count, n_at_fold, n_digits_cells, n_digits_at, n_digits_count, n_digits_fold, n_count_cells, n_count_at, n_count_digits, n_count_fold, n_fold_cells, n_fold_at, n_fold_digits, n_fold_count]
theorem bag_count (c : Addr) (a d n f : Int) : valV (bagD c a d n f) (Sum.inr "count") = some (.int n) := by simp [valV, bagD, n_cells_at, n_cells_digits, n_cells_count, n_cells_fold, n_at_cells, n_at_digits, n_at_count, n_at_fold, n_digits_cells, n_digits_at, n_digits_count, n_digits_fold, n_count_cells, n_count_at, n_count_digits, n_count_fold, n_fold_cells, n_fold_at, n_fold_digits, n_fold_count]
theorem bag_fold (c : Addr) (a d n f : Int) : valV (bagD c a d n f) (Sum.inr "fold") = some (.int f) := by simp [valV, bagD, n_cells_at, n_cells_digits, n_cells_count, n_cells_fold, n_at_cells, n_at_digits, n_at_count, n_at_fold, n_digits_cells, n_digits_at, n_digits_count, n_digits_fold, n_count_cells, n_count_at, n_count_digits, n_count_fold, n_fold_cells, n_fold_at, n_fold_digits, n_fold_count]
theorem put_at (c : Addr) (a d n f z : Int) : putK (bagD c a d n f) (Sum.inr "at") (.int z) = bagD c z d n f := by simp [putK, bagD, n_cells_at, n_cells_digits, n_cells_count, n_cells_fold, n_at_cells, n_at_digits, n_at_count, n_at_fold, n_digits_cells, n_digits_at, n_digits_count, n_digits_fold, n_count_cells, n_count_at, n_count_digits, n_count_fold, n_fold_cells, n_fold_at, n_fold_digits, n_fold_count]
theorem put_digits (c : Addr) (a d n f z : Int) : putK (bagD c a d n f) (Sum.inr "digits") (.int z) = bagD c a z n f := by simp [putK, bagD, n_cells_at, n_cells_digits, n_cells_count, n_cells_fold, n_at_cells, n_at_digits, n_at_count, n_at_fold, n_digits_cells, n_digits_at, n_digits_count, n_digits_fold, n_count_cells, n_count_at, n_count_digits, n_count_fold, n_fold_cells, n_fold_at, n_fold_digits, n_fold_count]
theorem put_count (c : Addr) (a d n f z : Int) : putK (bagD c a d n f) (Sum.inr "count") (.int z) = bagD c a d z f := by simp [putK, bagD, n_cells_at, n_cells_digits, n_cells_count, n_cells_fold, n_at_cells, n_at_digits, n_at_count, n_at_fold, n_digits_cells, n_digits_at, n_digits_count, n_digits_fold, n_count_cells, n_count_at, n_count_digits, n_count_fold, n_fold_cells, n_fold_at, n_fold_digits, n_fold_count]
theorem put_fold (c : Addr) (a d n f z : Int) : putK (bagD c a d n f) (Sum.inr "fold") (.int z) = bagD c a d n z := by simp [putK, bagD, n_cells_at, n_cells_digits, n_cells_count, n_cells_fold, n_at_cells, n_at_digits, n_at_count, n_at_fold, n_digits_cells, n_digits_at, n_digits_count, n_digits_fold, n_count_cells, n_count_at, n_count_digits, n_count_fold, n_fold_cells, n_fold_at, n_fold_digits, n_fold_count]
section
variable {H : Hp} {p c : Addr} {a d n f z : Int}
theorem dg_cells (h : H p = some (.dK (bagD c a d n f))) : DGet H p (.str "cells") (some (.ref c)) := by rw [← bag_cells c a d n f]; exact DGet.k (k := Sum.inr "cells") h
theorem dg_at (h : H p = some (.dK (bagD c a d n f))) : DGet H p (.str "at") (some (.int a)) := by rw [← bag_at c a d n f]; exact DGet.k (k := Sum.inr "at") h
theorem dg_digits (h : H p = some (.dK (bagD c a d n f))) : DGet H p (.str "digits") (some (.int d)) := by rw [← bag_digits c a d n f]; exact DGet.k (k := Sum.inr "digits") h
theorem dg_count (h : H p = some (.dK (bagD c a d n f))) : DGet H p (.str "count") (some (.int n)) := by rw [← bag_count c a d n f]; exact DGet.k (k := Sum.inr "count") h
theorem dg_fold (h : H p = some (.dK (bagD c a d n f))) : DGet H p (.str "fold") (some (.int f)) := by rw [← bag_fold c a d n f]; exact DGet.k (k := Sum.inr "fold") h
theorem dp_at (h : H p = some (.dK (bagD c a d n f))) : DPut H p (.str "at") (.int z) (upd H p (.dK (bagD c z d n f))) := by
  rw [← put_at c a d n f z]; exact DPut.k (k := Sum.inr "at") h (by show 5 < sizeLine; rw [sizeLine_eq]; decide)
theorem dp_digits (h : H p = some (.dK (bagD c a d n f))) : DPut H p (.str "digits") (.int z) (upd H p (.dK (bagD c a z n f))) := by
  rw [← put_digits c a d n f z]; exact DPut.k (k := Sum.inr "digits") h (by show 5 < sizeLine; rw [sizeLine_eq]; decide)
theorem dp_count (h : H p = some (.dK (bagD c a d n f))) : DPut H p (.str "count") (.int z) (upd H p (.dK (bagD c a d z f))) := by
  rw [← put_count c a d n f z]; exact DPut.k (k := Sum.inr "count") h (by show 5 < sizeLine; rw [sizeLine_eq]; decide)
theorem dp_fold (h : H p = some (.dK (bagD c a d n f))) : DPut H p (.str "fold") (.int z) (upd H p (.dK (bagD c a d n z))) := by
  rw [← put_fold c a d n f z]; exact DPut.k (k := Sum.inr "fold") h (by show 5 < sizeLine; rw [sizeLine_eq]; decide)
end
/-- a bag stands at p, good for b more draws -/
structure Pen (H : Hp) (p c : Addr) (b : Nat) : Prop where
  ex : ∃ (cs : List Int) (a d n f : Int), H p = some (.dK (bagD c a d n f)) ∧ H c = some (.lst (cs.map V.int)) ∧ 0 ≤ a ∧ 0 ≤ d ∧ 0 ≤ n ∧ n + b ≤ 2 ^ 50 ∧ 0 ≤ f ∧ f < 2 ^ 32
theorem Pen.mono {H : Hp} {p c : Addr} {b b' : Nat} (x : Pen H p c b) (h : b' ≤ b) : Pen H p c b' := by
  obtain ⟨cs, a, d, n, f, h1, h2, h3, h4, h5, h6, h7⟩ := x.ex
  exact ⟨cs, a, d, n, f, h1, h2, h3, h4, h5, by omega, h7⟩
theorem Pen.dk {H : Hp} {p c : Addr} {b : Nat} (x : Pen H p c b) : ∃ kvs, H p = some (.dK kvs) := let ⟨_, _, _, _, _, h, _⟩ := x.ex; ⟨_, h⟩
/-- what stands at q is not the pen -/
theorem Pen.ne {H : Hp} {p c q : Addr} {b : Nat} {o : HO} (x : Pen H p c b) (h : H q = some o) (d : ∀ kvs, o ≠ .dK kvs) : q ≠ p := by
  obtain ⟨kvs, e⟩ := x.dk
  exact ne_of h e (d kvs)
theorem Pen.fresh_ne {H : Hp} {p c q : Addr} {b : Nat} (x : Pen H p c b) (h : H q = none) : q ≠ p := by
  obtain ⟨kvs, e⟩ := x.dk
  exact (ne_of_none e h).symm
/-- a new object beside it -/
theorem Pen.fresh_ne2 {H : Hp} {p c q : Addr} {b : Nat} (x : Pen H p c b) (h : H q = none) : q ≠ c := by
  obtain ⟨cs, a, d, n, f, h1, h2, _⟩ := x.ex
  exact (ne_of_none h2 h).symm
/-- an object that is neither the pen nor its list is written -/
theorem Pen.mut {H : Hp} {p c q : Addr} {b : Nat} {o : HO} (x : Pen H p c b) (h1 : q ≠ p) (h2 : q ≠ c) : Pen (upd H q o) p c b := by
  obtain ⟨cs, a, d, n, f, e1, e2, h3⟩ := x.ex
  exact ⟨cs, a, d, n, f, by rw [upd_ne h1.symm]; exact e1, by rw [upd_ne h2.symm]; exact e2, h3⟩
theorem Pen.old {H H' : Hp} {p c : Addr} {b : Nat} (x : Pen H p c b) (k : Same H H') : Pen H' p c b := by
  obtain ⟨cs, a, d, n, f, h1, h2, h3⟩ := x.ex
  exact ⟨cs, a, d, n, f, k _ _ h1, k _ _ h2, h3⟩
theorem Same.new {H : Hp} {p : Addr} {o : HO} (h : H p = none) : Same H (upd H p o) := fun b u e => by rw [upd_ne (ne_of_none e h)]; exact e
theorem Pen.new {H : Hp} {p c q : Addr} {b : Nat} {o : HO} (x : Pen H p c b) (h : H q = none) : Pen (upd H q o) p c b := x.old (Same.new h)
def spPen (K : PySem.W.Frag) : Sp := fun vs H Q _ => ∃ (a : Addr) (ns : List Int), vs = [.ref a] ∧ SqL K H a (ns.map V.int) ∧ ns.length ≤ 63 ∧ ∀ p c H', Same H H' → H p = none → H c = none → Pen H' p c (2 ^ 49) → Q (.ref p) H'
def spDraw : Sp := fun vs H Q _ => ∃ (p c : Addr) (m : Int) (b : Nat), vs = [.ref p, .int m] ∧ 0 < m ∧ m.natAbs.log2 < 9000 ∧ Pen H p c (b + 1) ∧
  ∀ d H', 0 ≤ d → d < m → Pen H' p c b → Sav p H H' → Q (.int d) H'
theorem dp_ints {K : PySem.W.Frag} {H : Hp} : ∀ cs : List Int, DpAll K H (cs.map V.int) (cs.map PyData.int)
  | [] => .nil
  | c :: cs => .cons (.int c) (dp_ints cs)
theorem shaped_ints (cs : List Int) : SeqAt.shaped (.list (cs.map PyData.int)) = true := PySem.W.shaped_ints cs
theorem eqv_nil (cs : List Int) : (!PyData.eqv (.list (cs.map PyData.int)) (.list [])) = !cs.isEmpty := by cases cs <;> rfl
theorem at_mod {cs : List Int} {a : Int} (h : 0 < cs.length) : ∃ z, atI (cs.map V.int) (a % (((cs.map V.int).length : Nat) : Int)) = some (.int z) := by
  rw [List.length_map]
  have h1 : 0 ≤ a % (cs.length : Int) := Int.emod_nonneg a (by omega)
  have h2 : a % (cs.length : Int) < cs.length := Int.emod_lt_of_pos a (by omega)
  generalize a % (cs.length : Int) = j at *
  obtain ⟨n, rfl⟩ : ∃ n : Nat, j = (n : Int) := ⟨j.toNat, by omega⟩
  have hn : n < cs.length := by omega
  exact ⟨cs[n], atI_nat (by rw [List.getElem?_map, List.getElem?_eq_getElem hn]; rfl)⟩
theorem mul_mod {x y m : Int} (h : 0 < m) (h2 : m < 2 ^ 64) : CMul (x % m) y := .inl ⟨by have := Int.emod_nonneg x (show m ≠ 0 by omega); omega, by have := Int.emod_lt_of_pos x h; omega⟩
theorem Same.mut {H H' : Hp} {p : Addr} {o : HO} (e : Same H H') (h : H p = none) : Same H (upd H' p o) := fun a u ha => by
  rw [upd_ne (ne_of_none ha h)]
  exact e a u ha
theorem cut63 (ns : List Int) : ∃ cs : List Int, cutV (ns.map V.int) none (some 63) = cs.map V.int ∧ cs.length ≤ 63 := by
  refine ⟨ns.take (min 63 ns.length), ?_, by rw [List.length_take]; omega⟩
  show ((ns.map V.int).drop 0).take (HT.sIx (ns.map V.int).length (ns.map V.int).length (some ((63 : Nat) : Int)) - 0) = _
  rw [HT.sIx_nat, List.drop_zero, Nat.sub_zero, List.length_map, List.map_take]
theorem ints_at {cs : List Int} {i : Nat} {x : V} (h : (cs.map V.int)[i]? = some x) : ∃ z, cs[i]? = some z ∧ x = .int z := by
  rw [List.getElem?_map] at h
  cases e : cs[i]? with
  | none => rw [e] at h; cases h
  | some z => rw [e] at h; exact ⟨z, rfl, (Option.some.inj h).symm⟩
theorem take_int {cs : List Int} {i : Nat} {z : Int} (h : cs[i]? = some z) : (cs.take (i + 1)).map V.int = (cs.take i).map V.int ++ [V.int z] := by
  rw [List.take_succ, h, List.map_append]
  rfl
theorem merge_bag (D : Addr) (f : Int) : mergeK [] [(Sum.inr ("cells" : Str), V.ref D), (Sum.inr "at", .int 0), (Sum.inr "digits", .int 0), (Sum.inr "count", .int 0), (Sum.inr "fold", .int f)] = bagD D 0 0 0 f := by
  simp [mergeK, putK, bagD, n_cells_at, n_cells_digits, n_cells_count, n_cells_fold, n_at_cells, n_at_digits, n_at_count, n_at_fold, n_digits_cells, n_digits_at, n_digits_count, n_digits_fold, n_count_cells, n_count_at, n_count_digits, n_count_fold, n_fold_cells, n_fold_at, n_fold_digits, n_fold_count]
theorem free2 {H : Hp} {p q D : Addr} {o u : HO} (hp : H p = none) (hq : (upd H p o) q = none) (hD : (upd (upd H p o) q u) D = none) : H D = none := by
  have n1 : D ≠ q := fun z => by rw [z, upd_same] at hD; cases hD
  rw [upd_ne n1] at hD
  have n2 : D ≠ p := fun z => by rw [z, upd_same] at hD; cases hD
  rw [upd_ne n2] at hD
  exact hD
theorem mod_in {x m : Int} (h : 0 < m) : 0 ≤ x % m ∧ x % m < m := ⟨Int.emod_nonneg x (by omega), Int.emod_lt_of_pos x h⟩
end RS

set_option maxRecDepth 100000
set_option maxHeartbeats 4000000
namespace RS
open PySem PySem.Spec PyProof.Rows L2 NdefX He
/-! ### the facts of an own exception class, as Bools -/
def oexB (K : Frg) (C : Addr) : Bool := match K.lookup C with
  | some ⟨.type "type", _, .cls cd, sl⟩ => (match cd.mro, sl.toList with
    | .ref C' :: bm, [_, _, _, _, some (.builtin n), _] => C' == C && n == "ValueError.__new__" && !cd.hasDel && cd.hasDict && PySem.HandSPX.refsVE bm
    | _, _ => false)
  | _ => false
theorem oexB_ok {K : Frg} {C : Addr} (q : oexB K C = true) : ∃ nm q N bs bm sn sub ab col dd k0 k1 k2 k3 k5, K.lookup C = some (excClassObj nm q C N bs bm true sn sub ab col dd k0 k1 k2 k3 k5 "ValueError.__new__") ∧ PySem.HandSPX.refsVE bm = true := by
  unfold oexB at q
  split at q
  · rename_i dd cd sl ho
    split at q
    · rename_i C' bm k0 k1 k2 k3 n k5 hm hs
      simp only [Bool.and_eq_true, beq_iff_eq, Bool.not_eq_true'] at q
      obtain ⟨⟨⟨⟨rfl, rfl⟩, hdel⟩, hdc⟩, ht⟩ := q
      obtain ⟨nm, bs, mro, ns, qn, hd, sn, sub, ab, col, del⟩ := cd
      dsimp only at hm hdel hdc
      subst hm hdel hdc
      have hsl : sl = #[k0, k1, k2, k3, some (.builtin "ValueError.__new__"), k5] := by
        obtain ⟨l⟩ := sl
        simp only at hs
        rw [hs]
      subst hsl
      exact ⟨nm, qn, ns, bs, bm, sn, sub, ab, col, dd, k0, k1, k2, k3, k5, ho, ht⟩
    · cases q
  · cases q
/-- C: an own exception class, with the names of its fields -/
structure ExcT (K : Frg) (C : Addr) : Prop where
  sup : SupC K C
  xf : XfC K C
  is : ExcC K C
def excB (K : Frg) (x : Str) : Bool := oexB K (ga K x) && (eqO (PySem.W.findIn K (.ref (ga K x)) "__setattr__") (some (some (.builtin "object.__setattr__"))) && (decide (PySem.W.subIn K (.ref (ga K x)) (.type "BaseException") = some true) &&
  (decide (PySem.W.typeIn K (.ref (ga K x)) = some (.type "type")) && (PySem.W.keepIn K (.ref (ga K x)) && (eqO (PySem.W.ks_superIn K (ga K x) (ga K x) "__init__") (some (some (.builtin "ValueError.__init__"))) &&
  (eqO (PySem.W.nsIn K cStatics "thirdparty.any") (some none) && (decide (PySem.W.mroIn K (ga K x) (.type "ValueError") = some true) && (decide (PySem.W.mroIn K (ga K x) (.ref (ga K x)) = some true) && (xfB K (ga K x) &&
  (eqO (PySem.W.findIn K (.ref (ga K x)) "__class__") (some (some (.builtin "object.__class__"))) && (eqO (PySem.W.specialIn K (.builtin "object.__class__") "__get__") (some (some (.builtin "getset_descriptor.__get__"))) &&
  (decide (PySem.W.takesIn K (.builtin "object.__class__") = some true) && decide (PySem.W.mroIn K (ga K x) (.type "object") = some true)))))))))))))
theorem excB_ok {K : Frg} {x : Str} (h : excB K x = true) : ExcT K (ga K x) := by
  obtain ⟨h1, h⟩ := ba h
  obtain ⟨h2, h⟩ := ba h
  obtain ⟨h3, h⟩ := ba h
  obtain ⟨h4, h⟩ := ba h
  obtain ⟨h5, h⟩ := ba h
  obtain ⟨h6, h⟩ := ba h
  obtain ⟨h7, h⟩ := ba h
  obtain ⟨h8, h⟩ := ba h
  obtain ⟨h9, h⟩ := ba h
  obtain ⟨h10, h⟩ := ba h
  obtain ⟨h11, h⟩ := ba h
  obtain ⟨h12, h⟩ := ba h
  obtain ⟨h13, h14⟩ := ba h
  have X := xfB_ok h10
  exact ⟨⟨⟨oexB_ok h1, eqO_ok h2, of_decide_eq_true h3, of_decide_eq_true h4, h5⟩, eqO_ok h6, eqO_ok h7, of_decide_eq_true h8, of_decide_eq_true h9⟩, X, ⟨X.ga, X.gg, X.exC, X.hdC, eqO_ok h11, eqO_ok h12, of_decide_eq_true h13, of_decide_eq_true h14⟩⟩
/-- the __init__ of such a class: it stands in the fragment, closed over the class's cell -/
def inA (K : Frg) (x : Str) : Addr := ma K (ga K x) "__init__"
def clxB (K : Frg) (x file : Str) : Bool := PySem.W.keepIn K (.ref (inA K x)) && (eqO (PySem.W.findIn K (.ref (ga K x)) "__init__") (some (some (.ref (inA K x)))) && (decide (PySem.W.typeIn K (.ref (inA K x)) = some (.type "function")) &&
  (match K.lookup (inA K x) with
  | some ⟨_, _, .func fd, _⟩ => eqO (some (some fd.defaults)) (some (some .none)) && (eqO (some (some fd.kwdefaults)) (some (some .none)) && (match fd.code with
    | .ref c => PySem.W.codeIn K (.ref c) fd.qualname && (match K.lookup c with
      | some ⟨_, _, .fields vs, _⟩ => (match vs[2]? with | some (Value.str fl _) => decide (fl = file) | _ => false)
      | _ => false)
    | _ => false) && (match fd.closure with
    | [(_, cc)] => (match K.lookup cc with
      | some ⟨_, _, .cell (some (.ref C)), _⟩ => decide (C = ga K x)
      | _ => false)
    | _ => false))
  | _ => false)))
theorem clxB_ok {K : Frg} {x file : Str} {d : DefR} {P : Program} (h : clxB K x file = true) (ha : d.adr K = inA K x) (e : fnA K (d.adr K) = d.val) (hclo : d.clo = (["__class__"] : List Str)) (hf : P.main.file = file) :
    ∃ fd, FunX K P d.name d.qual d.params d.body d.scope (ga K x) (inA K x) fd ∧ PySem.W.findIn K (.ref (ga K x)) "__init__" = some (some (.ref (inA K x))) ∧ PySem.W.typeIn K (.ref (inA K x)) = some (.type "function") := by
  obtain ⟨h1, h⟩ := ba h
  obtain ⟨h2, h⟩ := ba h
  obtain ⟨h3, c2⟩ := ba h
  rw [ha] at e
  unfold fnA at e
  cases q : K.lookup (inA K x) with
  | none =>
    rw [q] at c2
    cases c2
  | some o =>
    obtain ⟨oc, od, dt, osl⟩ := o
    rw [q] at c2 e
    cases dt with
    | func fd =>
      obtain ⟨n1, n2, n3, n4, n5, n6, n7, n8, n9, n10, n11, n12, n13, n14, n15⟩ := fd
      have e2 : (some (n1, n2, n3, n4, n5, n6, n7.map (·.1), n15) : FnZ) = some (d.name, d.qual, d.params, .stmts d.body, d.scope, mainGlobals, d.clo, builtinsNs) := e
      rw [hclo] at e2
      simp only [Option.some.injEq, Prod.mk.injEq] at e2
      obtain ⟨g1, g2, g3, g4, g5, g6, g7, g8⟩ := e2
      subst g1 g2 g3 g4 g5 g6 g8
      obtain ⟨c3, c4⟩ := ba c2
      have d8 : n8 = .none := Option.some.inj (Option.some.inj (eqO_ok c3))
      obtain ⟨c6, c8⟩ := ba c4
      obtain ⟨c5, c7⟩ := ba c6
      have d9 : n9 = .none := Option.some.inj (Option.some.inj (eqO_ok c5))
      subst d8 d9
      dsimp only at c7 c8
      split at c7
      · rename_i c
        obtain ⟨c9, c10⟩ := ba c7
        split at c10
        · rename_i _ _ vs _ hc
          split at c10
          · rename_i fl _ hv
            split at c8
            · rename_i nm cc
              simp only [List.map_cons, List.map_nil, List.cons.injEq, and_true] at g7
              subst g7
              split at c8
              · rename_i _ _ CC _ hcc
                have z := of_decide_eq_true c8
                subst z
                refine ⟨_, ⟨⟨oc, od, _, _, _, _, c, cc, osl, rfl, q, c9, ⟨_, _, vs, _, fl, _, hc, hv, ?_⟩, _, _, _, hcc⟩, h1⟩, eqO_ok h2, of_decide_eq_true h3⟩
                rw [hf, of_decide_eq_true c10]
                simp
              · cases c8
            · cases c8
          · cases c10
        · cases c10
      · cases c7
    | _ => cases c2
end RS

set_option maxRecDepth 100000
set_option maxHeartbeats 4000000
namespace PySem.RSX
open PySem PySem.Spec PySem.W PySem.Calls PyProof.Rows
section
variable {prog : Program} {w : World} {A : Around} {E : Value → Shared → Prop} {s : Shared} {K : Frag} {x D : Addr} {ox : Obj} {odx : Option Obj}
theorem findObj_dataX {C : Addr} {name : Str} {a g : Value} {od : Option Obj} (hc : (clsIn K C).isSome = true) (ha : findIn K (.ref C) name = some (some a)) (hg : specialIn K a "__get__" = some (some g)) (ht : takesIn K a = some true) : findObj K C od name = some (.bind g a) := by
  obtain ⟨cd, hc⟩ := Option.isSome_iff_exists.mp hc
  unfold findObj
  rw [hc, Option.bind_some, ha, Option.bind_some]
  simp [hg, ht]
theorem kin_classX {Q : Option Value → Shared → Prop} (hga : findIn K (.ref D) "__getattribute__" = some (some (.builtin "BaseException.__getattribute__"))) (hgt : findIn K (.ref D) "__getattr__" = some none) (hsub : subIn K (.ref D) (.type "BaseException") = some true)
    (hdct : hasDictIn K D = true) (ha : findIn K (.ref D) "__class__" = some (some (.builtin "object.__class__")))
    (hn : specialIn K (.builtin "object.__class__") "__get__" = some (some (.builtin "getset_descriptor.__get__"))) (htk : takesIn K (.builtin "object.__class__") = some true) (hm : mroIn K D (.type "object") = some true)
    (X : K.In s.heap) (I : InstAt s.heap x ox D odx) (h : Q (some (.ref D)) { s with toks := s.toks + 1 }) : wpAny (model prog w) A (getAttr? (.ref x) "__class__") Q E s := by
  have hf : findObj K D odx "__class__" = some (.bind (.builtin "getset_descriptor.__get__") (.builtin "object.__class__")) := findObj_dataX (by obtain ⟨cd, hc, _⟩ := any_some hdct; rw [hc]; rfl) ha hn htk
  obtain ⟨hp, g, d, t, os⟩ := s
  have L0 := I.type (M := model prog w)
  have L1 := looks_findIn (M := model prog w) X hga
  have L2 := looks_findIn (M := model prog w) X hgt
  have L3 := looks_find (M := model prog w) X I hf
  have sub : Looks (model prog w) hp (isInstance (.ref x) (.type "BaseException")) true := L0.andThen (looks_subIn X hsub)
  have hx0 : (false && onTheHeap (Value.builtin "BaseException.__getattribute__")) = false := rfl
  have hx2 : (Value.builtin "BaseException.__getattribute__" == Value.builtin "object.__getattribute__") = false := by decide +kernel
  have hx1 : (onTheHeap (Value.ref D) && Value.builtin "BaseException.__getattribute__" == Value.builtin "object.__getattribute__") = false := by rw [hx2]; rfl
  unfold getAttr? getAttrBy? getAttrBy
  refine wpAny_bind (wpAny_mkText (wpAny_bind (wpAny_attempt (wpAny_holding (wpAny_bind (L0.at (wpAny_bind (L1.at ?_))))))))
  show wpAny _ _ (if (onTheHeap (Value.ref D) && Value.builtin "BaseException.__getattribute__" == Value.builtin "object.__getattribute__") = true then _ else _) _ _ _
  rw [hx1, if_neg Bool.false_ne_true]
  unfold getAttrByItsOwn hookBefore
  refine wpAny_bind ?_
  rw [if_pos (show onTheHeap (Value.ref D) = true from rfl)]
  refine L2.at ?_
  refine wpAny_bind (wpAny_attempt (wpAny_holding ?_))
  unfold callGetattribute
  rw [hx0, if_neg Bool.false_ne_true]
  unfold boundAndCalled
  rw [PySem.F.excAttr_ValueError.ga.bind (.ref x)]
  refine wpAny_bind (wpAny_pure ?_)
  show wpAny _ _ (call (.builtin "BaseException.__getattribute__") [.ref x, .str "__class__" t]) _ _ _
  refine wpAny_call (codeAny_call_builtin PySem.F.excAttr_ValueError.ga.plain PySem.F.entry_bexc_ga ?_)
  refine @check_slot (model prog w) _ _ ⟨hp, g, d, t + 1, os⟩ "BaseException.__getattribute__" "BaseException" "__getattribute__" (.ref x) [.str "__class__" t] [] _ (by decide +kernel) (by decide +kernel) sub (PySem.F.args_bexc_ga (.ref x) (.str "__class__" t)) ?_
  unfold Builtin.«object.__getattribute__»
  refine wpAny_bind (wpAny_of_eq (a := ((Value.ref x : Value), [Value.str "__class__" t])) (by first | rfl | (simp only [slotArgs]; rfl)) ?_)
  refine wpAny_bind (wpAny_pure (wpAny_bind (L0.at (wpAny_bind (L3.at ?_)))))
  show wpAny _ _ (holding [Value.builtin "object.__class__"] (call (.builtin "getset_descriptor.__get__") [.builtin "object.__class__", .ref x, .ref D]) >>= ret) _ _ _
  refine wpAny_bind (wpAny_holding (wpAny_call (class_get (s := ⟨hp, g, d, t + 1, os⟩) (ox := ox) (od := odx) X I hm ?_)))
  refine wpAny_pure ?_
  show wpAny _ _ (handedOut (.ref D)) _ _ _
  rw [handedOut_of (v := .ref D) rfl]
  first
    | exact wpAny_pure (wpAny_pure h)
    | exact wpAny_pure h
    | exact wpAny_pure (wpAny_bind (wpAny_pure (wpAny_pure h)))
theorem kitx_excX (hga : findIn K (.ref D) "__getattribute__" = some (some (.builtin "BaseException.__getattribute__"))) (hgt : findIn K (.ref D) "__getattr__" = some none) (hsub : subIn K (.ref D) (.type "BaseException") = some true) (hdct : hasDictIn K D = true) (ha : findIn K (.ref D) "__class__" = some (some (.builtin "object.__class__")))
    (hn : specialIn K (.builtin "object.__class__") "__get__" = some (some (.builtin "getset_descriptor.__get__"))) (htk : takesIn K (.builtin "object.__class__") = some true) (hm : mroIn K D (.type "object") = some true) :
    KitX K (.ref x) (.ref D) (fun h => ∃ odx, InstAt h x ox D odx) where
  ty := fun _ _ _ ⟨_, I⟩ => I.type
  it := fun _ _ X _ => by
    obtain ⟨cdD, hcD, _⟩ := any_some hdct
    unfold clsIn at hcD
    split at hcD
    · rename_i c' d' cd' sl' ho
      intro A' Q' E' s' k q
      unfold isType loadHead
      exact wpAny_bind (wpAny_loadPart (k _ _ (X _ _ ho)) (wpAny_pure q))
    · cases hcD
  ne := fun h tp dd its n sl X htp => by
    obtain ⟨cdD, hcD, _⟩ := any_some hdct
    refine Bool.eq_false_iff.mpr fun q => ?_
    have e : D = tp := Value.ref.inj (beq_iff_eq.mp q)
    subst e
    unfold clsIn at hcD
    split at hcD
    · rename_i c' d' cd' sl' ho
      have z := (X _ _ ho).symm.trans htp
      cases z
    · cases hcD
  ca := fun X ⟨_, I⟩ k => kin_classX hga hgt hsub hdct ha hn htk hm X I k
end
end PySem.RSX
namespace RS
open PySem PySem.Spec PyProof.Rows L2 NdefX He
/-- isinstance(e, c), e the exception that the suite holds, with its fields or without -/
theorem call_isX {X : Cx} {a D : Addr} {cls : Value} {oe : Obj} {d : Option Addr} {pn : List (Addr × Obj)} (C : ExcC X.K D) (hz : Zc cls d oe) (hf : ∃ vs, oe.data = .fields vs) : CallR (X.suite a ((a, oe) :: pn)) (.builtin "isinstance") (fun xs H Q => cls = .ref D ∧ (∀ dd, d = some dd → ∃ fs, H dd = some (.xd fs)) ∧ rIsE X.K D a xs H Q) := by
  intro pins s σ H xs us Q I r h
  obtain ⟨rfl, hd, c, cv, b, rfl, hcv, e, q⟩ := h
  cases r with
  | cons rx rr =>
    cases rr with
    | cons rt rr =>
      cases rr
      cases rx
      have ec := hcv _ rt
      subst ec
      obtain ⟨hget, _⟩ := I.pin (a, oe) (List.mem_append.mpr (.inl List.mem_cons_self))
      obtain ⟨vs, hv⟩ := hf
      have J : ∃ odx, PySem.W.InstAt s.heap a oe D odx := by
        obtain ⟨oc, od, oda, osl⟩ := oe
        obtain ⟨h1, h2⟩ := hz
        dsimp only at h1 h2 hv
        subst h1 h2 hv
        cases od with
        | none => exact ⟨none, hget, rfl, rfl, trivial⟩
        | some dd =>
          obtain ⟨fs, e⟩ := hd dd rfl
          have hx : ObjOk X.prog X.w H s.heap dd (.xd fs) := I.hok dd _ e
          obtain ⟨mA, hns, hr⟩ := hx
          obtain ⟨od, ho, hl⟩ := lookIn_ns hns
          exact ⟨some od, hget, rfl, rfl, ho⟩
      exact PySem.W.kia_one (PySem.RSX.kitx_excX C.hg C.hk C.hs C.hd C.ha C.hn C.ht C.hm) I.kIn J e (fun z => nomatch z) fun tk => ⟨.bl b, H, I.kept (t' := tk) fun _ _ z => z, rfl, q⟩
/-! ### the promise of an own exception's __init__: names, its fields -/
def spEx (C : Addr) (names : List Str) : Sp := fun vs H Q _ => ∃ (a : Addr) (ws : List V), vs = .ref a :: ws ∧ ws.length = names.length ∧ H a = some (exo a C none) ∧ (names = [] → Q .non H) ∧
  (names ≠ [] → ∀ dx H2, H dx = none → dx ≠ a → H2 a = some (exo a C (some dx)) → H2 dx = some (exd dx ((names.zip ws).reverse)) → (∀ b, b ≠ a → b ≠ dx → H2 b = H b) → Q .non H2)
theorem mkEx {C : Addr} {names : List Str} {vs : List V} {H1 : Hp} {Q : XK} (hl : vs.length = names.length) (hn : names ≠ []) (h2 : vs.length ≤ 1000) (k : ∀ d, H1 d = none → Q (.ref C) (some d) (upd H1 d (.xd ((names.zip vs).reverse)))) :
    vs.length ≤ 1000 ∧ ∀ a, H1 a = none → spEx C names (.ref a :: (vs ++ [])) (upd H1 a (exo a C none))
      (fun v H2 => v = .non ∧ ∃ (d : Addr) (fs : List (Str × V)), H2 a = some (exo a C (some d)) ∧ H2 d = some (exd d fs) ∧ H1 d = none ∧ Q (.ref C) (some d) (upd (del H2 a) d (.xd fs))) (fun _ _ _ => False) := by
  refine ⟨h2, fun a ha => ⟨a, vs, by rw [List.append_nil], hl, upd_same, fun z => absurd z hn, fun _ dx H2 hd hne e1 e2 e3 => ⟨rfl, dx, _, e1, e2, ?_, ?_⟩⟩⟩
  · rw [upd_ne hne] at hd
    exact hd
  · have e : upd (del H2 a) dx (.xd ((names.zip vs).reverse)) = upd H1 dx (.xd ((names.zip vs).reverse)) := by
      funext b
      by_cases hb : b = dx
      · rw [hb, upd_same, upd_same]
      · rw [upd_ne hb, upd_ne hb]
        by_cases hba : b = a
        · rw [hba, del_same, ha]
        · rw [del_ne hba, e3 b hba hb, upd_ne hba]
    rw [e]
    refine k dx ?_
    rw [upd_ne hne] at hd
    exact hd
/-- the exception class x, at C, by name -/
structure Exk (P : Program) (w : World) (K : Frg) (mg : Str → Option Value) (base : Heap) (x : Str) (C : Addr) (names : List Str) : Prop where
  ex : ∃ (fI : Addr) (fd : FuncData) (ps : List Str), FnOk P w K mg base CX0 1 fI fd ps (spEx C names) ∧ Binds K fd ps [] ∧ PySem.W.findIn K (.ref C) "__init__" = some (some (.ref fI)) ∧ PySem.W.typeIn K (.ref fI) = some (.type "function")
  g : mg x = some (.ref C)
  T : ExcT K C
theorem FunX.bindsN {P : Program} {K : Frg} {x qual : Str} {params : Arguments} {body : List Stmt} {scope : Scope} {C f : Addr} {fd : FuncData} {ps : List Str} (F : FunX K P x qual params body scope C f fd)
    (h : ∀ (doc pm ct : Value) (an : Option Addr) (cda cc : Addr) (us : List Value), us.length = ps.length → bindArgs (PySem.W.fnX x qual params body scope [("__class__", cc)] .none .none doc pm an (.ref cda) ct) ⟨us, []⟩ = pure (ps.zip us)) : Binds K fd ps [] := by
  obtain ⟨oc, od, doc, pm, ct, an, cda, cc, osl, rfl, _⟩ := F.ex
  exact .all (h doc pm ct an cda cc)
section
variable {X : Cx} {x : Str} {C : Addr} {names : List Str} {e : Expr} {es : List Expr} {ta : TA} {p pos : Pos}
/-- x(e, ..) to be raised -/
theorem pmk_ex (F : Exk X.prog X.w X.K X.mg X.base x C names) (hr : Room 2 X.A) (ha : PA X (e :: es) ta) (hg : Gl X x := by rfl)
    (hdb : (x == ("__debug__" : Str)) = false := by decide) (he : starEach (e :: es) X.env = (false, eval e X.env) :: starEach es X.env := by rfl) (hpl : (backTo pos (starEach es X.env)).any (·.1) = false := by rfl) :
    PMk X (.Call (.Name x p) (e :: es) [] pos) (tMkO C (spEx C names) [] ta) := by
  obtain ⟨fI, fd, ps, G, b, i, t⟩ := F.ex
  exact pmk_oex F.T.sup.ox i t G hr b .nil pass0 hg F.g ha hdb he hpl
/-- x(e, ..) in a try's body, x a def that may raise -/
theorem pe_fnS {CX : CXT} {lv : Nat} {ps : List Str} {sp : Sp} {E : L2.St → XK} (F : Cal X.prog X.w X.K X.mg X.base CX lv x ps [] sp) (hr : Room lv X.A) (hx : ∀ σ, PassesAt CX X σ (E σ)) (ha : PA X (e :: es) ta) (hg : Gl X x := by rfl) (hdb : (x == ("__debug__" : Str)) = false := by decide)
    (he : starEach (e :: es) X.env = (false, eval e X.env) :: starEach es X.env := by rfl) (hpl : (backTo pos (starEach es X.env)).any (·.1) = false := by rfl) : PE X (.Call (.Name x p) (e :: es) [] pos) (tCallS sp E ta) := by
  obtain ⟨f, fd, ds, G, m, k, v, b⟩ := F.ex
  cases v
  exact pe_callS G hr hg m k b hx ha hdb he hpl
/-- == and != of data, the fragment named (within an except suite) -/
theorem op_eqDs {K : Frg} (hk : X.K = K) (hu : X.A.units + 64 < cLine) : OpR X (compareOp .Eq) (rEqD K) := hk ▸ op_eqD hu
theorem op_neDs {K : Frg} (hk : X.K = K) (hu : X.A.units + 64 < cLine) : OpR X (compareOp .NotEq) (rNeD K) := hk ▸ op_neD hu
/-- // by a divisor that is not 0, of up to 9000 bits -/
theorem op_fdivNW : OpR X (binaryOp .FloorDiv) (rI (fun _ j => j ≠ 0 ∧ j.natAbs.log2 < 9000) fun i j => .int (i.fdiv j)) := opI fun _ _ _ _ _ _ _ hc q => floordiv_int hc.1 q (.inl (PyProof.noPylong_of_log2 hc.2))
end
end RS

set_option maxRecDepth 100000
set_option maxHeartbeats 4000000
namespace RS
open PySem PySem.Spec PyProof.Rows L2 NdefX He PySem.W
/-! ### data of tuples, with a Lean type -/
mutual
inductive Td (H : Hp) : V → PyData → Prop
  | non : Td H .non .none
  | bl (b : Bool) : Td H (.bl b) (.bool b)
  | int (i : Int) : Td H (.int i) (.int i)
  | str (x : Str) : Td H (.str x) (.str x)
  | tup {a : Addr} {xs : List V} {ds : List PyData} : H a = some (.tup xs) → TdAll H xs ds → Td H (.ref a) (.tuple ds)
inductive TdAll (H : Hp) : List V → List PyData → Prop
  | nil : TdAll H [] []
  | cons {v : V} {vs : List V} {d : PyData} {ds : List PyData} : Td H v d → TdAll H vs ds → TdAll H (v :: vs) (d :: ds)
end
/-- all tuples stand as they were -/
def TK (H H' : Hp) : Prop := ∀ r xs, H r = some (.tup xs) → H' r = some (.tup xs)
theorem TK.refl (H : Hp) : TK H H := fun _ _ h => h
theorem TK.trans {H H1 H2 : Hp} (x : TK H H1) (y : TK H1 H2) : TK H H2 := fun r xs h => y r xs (x r xs h)
theorem Same.tk {H H' : Hp} (x : L2.Same H H') : TK H H' := fun r xs h => x _ _ h
mutual
theorem Td.keep {H H' : Hp} (k : TK H H') : ∀ {v : V} {d : PyData}, Td H v d → Td H' v d
  | _, _, .non => .non
  | _, _, .bl b => .bl b
  | _, _, .int i => .int i
  | _, _, .str x => .str x
  | _, _, .tup e a => .tup (k _ _ e) (TdAll.keep k a)
theorem TdAll.keep {H H' : Hp} (k : TK H H') : ∀ {vs : List V} {ds : List PyData}, TdAll H vs ds → TdAll H' vs ds
  | _, _, .nil => .nil
  | _, _, .cons x y => .cons (Td.keep k x) (TdAll.keep k y)
end
mutual
theorem Td.dp {K : Frg} {H : Hp} : ∀ {v : V} {d : PyData}, Td H v d → Dp K H v d
  | _, _, .non => .non
  | _, _, .bl b => .bl b
  | _, _, .int i => .int i
  | _, _, .str x => .str x
  | _, _, .tup e a => .tup (SqT.of e) (TdAll.dp a)
theorem TdAll.dp {K : Frg} {H : Hp} : ∀ {vs : List V} {ds : List PyData}, TdAll H vs ds → DpAll K H vs ds
  | _, _, .nil => .nil
  | _, _, .cons x y => .cons (Td.dp x) (TdAll.dp y)
end
theorem TdAll.len {H : Hp} : ∀ {vs : List V} {ds : List PyData}, TdAll H vs ds → vs.length = ds.length
  | _, _, .nil => rfl
  | _, _, .cons _ y => by rw [List.length_cons, List.length_cons, TdAll.len y]
theorem TdAll.snoc {H : Hp} : ∀ {vs : List V} {ds : List PyData} {v : V} {d : PyData}, TdAll H vs ds → Td H v d → TdAll H (vs ++ [v]) (ds ++ [d])
  | _, _, _, _, .nil, x => .cons x .nil
  | _, _, _, _, .cons y ys, x => .cons y (TdAll.snoc ys x)
theorem TdAll.at {H : Hp} : ∀ {vs : List V} {ds : List PyData} {i : Nat} {v : V}, TdAll H vs ds → vs[i]? = some v → ∃ d, ds[i]? = some d ∧ Td H v d
  | _, _, i, _, .nil, h => by simp at h
  | _, _, 0, _, .cons y _, h => by
    simp at h
    subst h
    exact ⟨_, rfl, y⟩
  | _, _, i + 1, _, .cons _ ys, h => by
    simp at h
    obtain ⟨d, e, t⟩ := TdAll.at ys h
    exact ⟨d, by simpa using e, t⟩
section
variable {X : Cx}
/-- == and != of such data -/
def rEqT (α : Type) [DecidableEq α] [Datum α] (K : Frg) : R2 := fun x y H Q => ∃ a b : α, Dp K H x (Datum.toD a) ∧ Dp K H y (Datum.toD b) ∧ Q (.bl (decide (a = b))) H
def rNeT (α : Type) [DecidableEq α] [Datum α] (K : Frg) : R2 := fun x y H Q => ∃ a b : α, Dp K H x (Datum.toD a) ∧ Dp K H y (Datum.toD b) ∧ Q (.bl (!decide (a = b))) H
theorem op_eqT (α : Type) [DecidableEq α] [Datum α] (hu : X.A.units + 64 < cLine) (hd : Datum.depth α ≤ 64 := by decide) : OpR X (compareOp .Eq) (rEqT α X.K) := by
  intro pins s σ H x y v u Q I rx ry h
  obtain ⟨d, e, hd', he, q⟩ := h
  obtain ⟨as, r1⟩ := Dp.reads I _ x v hd' rx
  obtain ⟨bs, r2⟩ := Dp.reads I _ y u he ry
  exact eq_datum ⟨as, r1⟩ ⟨bs, r2⟩ (by omega) ⟨.bl _, H, I, rfl, q⟩
theorem op_neT (α : Type) [DecidableEq α] [Datum α] (hu : X.A.units + 64 < cLine) (hd : Datum.depth α ≤ 64 := by decide) : OpR X (compareOp .NotEq) (rNeT α X.K) := by
  intro pins s σ H x y v u Q I rx ry h
  obtain ⟨d, e, hd', he, q⟩ := h
  obtain ⟨as, r1⟩ := Dp.reads I _ x v hd' rx
  obtain ⟨bs, r2⟩ := Dp.reads I _ y u he ry
  exact ne_datum ⟨as, r1⟩ ⟨bs, r2⟩ (by omega) ⟨.bl (!decide (d = e)), H, I, by show _ = Value.bool _; rw [← decide_not], q⟩
/-- either of two rules -/
theorem opOr {f : Value → Value → Sem Value} {r r' : R2} (h : OpR X f r) (h' : OpR X f r') : OpR X f (fun x y H Q => r x y H Q ∨ r' x y H Q) := by
  intro pins s σ H x y v u Q I rx ry q
  rcases q with q | q
  · exact h pins s σ H x y v u Q I rx ry q
  · exact h' pins s σ H x y v u Q I rx ry q
/-- a, b, .. = a tuple, the fragment named (within a comprehension) -/
theorem pg_tupK {K : Frg} (hk : X.K = K) {es : List Expr} {k : Nat} {t : TGs} {n : Nat} {pos : Pos} (hc : X.calm = true) (h : PGs X es t)
    (hn : (assignEach es X.env).length = n := by rfl) (hst : (assignEach es X.env).findIdx? (·.1) = none := by rfl) : PG X (.Tuple es k pos) (gTup K n t) := by
  subst hk
  exact pg_tup hc h hn hst
/-- a, b, .. = a tuple or a list -/
def gUnp (K : Frg) (n : Nat) (t : TGs) : TG := fun v σ H Q => ∃ a xs, v = .ref a ∧ (SqT K H a xs ∨ SqL K H a xs) ∧ xs.length = n ∧ t xs σ H Q
theorem pg_unp {K : Frg} (hk : X.K = K) {es : List Expr} {k : Nat} {t : TGs} {n : Nat} {pos : Pos} (hc : X.calm = true) (h : PGs X es t)
    (hn : (assignEach es X.env).length = n := by rfl) (hst : (assignEach es X.env).findIdx? (·.1) = none := by rfl) : PG X (.Tuple es k pos) (gUnp K n t) := by
  subst hk
  refine ⟨fun pins s σ H v u Q I r hw => ?_⟩
  obtain ⟨a, xs, e1, hq | hq, hl, hw⟩ := hw
  · exact (pg_tup hc h hn hst).run pins s σ H v u Q I r ⟨a, xs, e1, hq, hl, hw⟩
  · exact (pg_lst hc h hn hst).run pins s σ H v u Q I r ⟨a, xs, e1, hq, hl, hw⟩
/-- list(x) within a comprehension -/
theorem call_listK {K : Frg} (hk : X.K = K) : CallR X (.type "list") (fun xs H Q => ∃ p ys, xs = [.ref p] ∧ (SqL K H p ys ∨ SqT K H p ys) ∧ ∀ l, H l = none → Q (.ref l) (upd H l (.lst ys))) := by
  subst hk
  exact call_list_of
/-- a sign n times -/
theorem rep_sign (c : Nat) : ∀ n : Nat, (List.replicate n #[c]).foldl (· ++ ·) #[] = (List.replicate n c).toArray := fun n => by
  have key : ∀ (n : Nat) (a : Array Nat), (List.replicate n #[c]).foldl (· ++ ·) a = a ++ (List.replicate n c).toArray := by
    intro n
    induction n with
    | zero => intro a; simp
    | succ n ih =>
      intro a
      rw [List.replicate_succ, List.foldl_cons, ih, List.replicate_succ]
      apply Array.ext'
      simp
  rw [key n #[]]
  simp
theorem op_mulS : OpR X (binaryOp .Mult) (fun x y H Q => ∃ (c : Nat) (n : Int), x = .str ⟨#[c]⟩ ∧ y = .int n ∧ 1 ≤ n ∧ n ≤ 1000 ∧ Q (.str ⟨(List.replicate n.toNat c).toArray⟩) H) := by
  intro pins s σ H x y v u Q I rx ry h
  obtain ⟨c, n, rfl, rfl, h1, h2, q⟩ := h
  obtain ⟨t, rfl⟩ := rx
  obtain ⟨t', rfl⟩ := ry
  refine PySem.P.mul_str ?_ (fun _ _ => ?_) (fun _ _ => ?_) ?_
  · rw [decide_eq_false (by omega), decide_eq_false (by omega)]
    rfl
  · show ¬ (((1 : Nat) : Int) > (2 ^ 63 - 1) / n)
    have : 1 ≤ (2 ^ 63 - 1) / n := (Int.le_ediv_iff_mul_le (by omega)).mpr (by omega)
    omega
  · exact decide_eq_false (show ¬ (1 * n.toNat > sizeLine) by rw [sizeLine_eq]; omega)
  · rw [if_neg (by omega)]
    split
    · rename_i hn
      have e : n = 1 := by
        rcases Bool.or_eq_true_iff.mp hn with z | z
        · exact beq_iff_eq.mp z
        · exact absurd (beq_iff_eq.mp z) (by show ¬ (1 = 0); decide)
      subst e
      exact ⟨.str ⟨#[c]⟩, H, I, ⟨_, rfl⟩, q⟩
    · rw [rep_sign]
      refine ⟨?_, ⟨.str _, H, I.tok _, ⟨_, rfl⟩, q⟩⟩
      show (List.replicate n.toNat c).toArray.size ≤ sizeLine
      rw [sizeLine_eq]
      simp
      omega
/-- a row that is not reached -/
theorem ps_never {st : Stmt} : PS X st (fun _ _ _ => False) := ⟨fun _ _ _ _ _ _ h => h.elim⟩
end
/-! ### a class whose __init__ may raise, called in a try's body -/
def tMakeS (C : Addr) (sp : Sp) (E : L2.St → XK) (t : TA) : TE := fun σ H Q => t σ H fun vs H1 => ∀ x dx, H1 x = none → H1 dx = none → dx ≠ x → sp (.ref x :: vs) (upd (upd H1 dx (.own x)) x (.ins C dx [])) (fun v H2 => v = .non ∧ Q (.ref x) H2) (E σ)
theorem pe_mkS {X : Cx} {CX : CXT} {lv : Nat} {x : Str} {C : Addr} {ps : List Str} {sp : Sp} {E : L2.St → XK} {p pos : Pos} {e : Expr} {es : List Expr} {t : TA} (F : Mkr X.prog X.w X.K X.mg X.base CX lv x C ps [] sp) (hr : Room (lv + 1) X.A)
    (hx : ∀ (σ : L2.St) (pins : List (Addr × Obj)) (H : Hp) (s : Shared) (e : Value) (s' : Shared), Inv X pins σ H s → CX X.stack H s (E σ) e s' → X.xe e s') (ha : PA X (e :: es) t) (hg : Gl X x := by rfl) (hdb : (x == ("__debug__" : Str)) = false := by decide)
    (he : starEach (e :: es) X.env = (false, eval e X.env) :: starEach es X.env := by rfl) (hpl : (backTo pos (starEach es X.env)).any (·.1) = false := by rfl) : PE X (.Call (.Name x p) (e :: es) [] pos) (tMakeS C sp E t) := by
  obtain ⟨f, fd, ds, G, M, hm, v, b⟩ := F.ex
  cases v
  refine ⟨fun pins s σ H Q I h => ?_⟩
  refine wpAny_Call_Name_kw (ld_glob I hg hm ?_ hdb)
  refine PySem.W.callWith_K (h₀ := X.base) I.ok.mod.kin M.kp (thn (ha.run pos pins s σ H _ I h) fun us s1 ⟨vs, H1, I1, r, h1⟩ => ⟨I1.kIn, ?_⟩) he hpl
  have hq := h1 (s1.heap.objs.size + 1) s1.heap.objs.size (I1.hok.fresh (Nat.le_succ _)) (I1.hok.fresh (Nat.le_refl _)) (Nat.ne_of_lt (Nat.lt_succ_self _))
  have I2 := Inv.made (C := C) I1
  have r2 : Vals (V.ref (s1.heap.objs.size + 1) :: vs) (Value.ref (s1.heap.objs.size + 1) :: us) := .cons rfl r
  have hl : (Value.ref (s1.heap.objs.size + 1) :: us).length = ps.length := by
    have e := r2.length
    rw [G.len _ _ _ _ hq] at e
    exact e.symm
  have bb := b _ (Value.ref (s1.heap.objs.size + 1) :: us) I2.kIn (by rw [List.append_nil]; exact hl)
  rw [List.append_nil] at bb
  refine wpAny_call (make_map (f := f) I1.kIn M.makes M.init (beq_iff_eq.mp M.fn) (codeAny_mono (G.run _ X.stack _ _ ⟨Value.ref (s1.heap.objs.size + 1) :: us, []⟩ (Value.ref (s1.heap.objs.size + 1) :: us) _ _ (E σ) (hr.make C us [])
    (I2.env0.make C us []) bb r2 hq) fun r s' hq' => ?_))
  cases r with
  | error e => exact hx σ pins _ _ e s' I2 hq'
  | ok fl =>
    cases fl with
    | ret u =>
      obtain ⟨v, H', I3, rv, ev, q3⟩ := I2.after hq'
      subst ev
      exact ⟨rv, ⟨V.ref (s1.heap.objs.size + 1), H', I3, rfl, q3⟩⟩
    | next => exact False.elim hq'
    | brk => exact False.elim hq'
    | cont => exact False.elim hq'
/-! ### an instance that is called -/
theorem fnR_of {P : Program} {w : World} {K : Frg} {mg : Str → Option Value} {base : Heap} {CX : CXT} {k : Nat} {f : Addr} {fd : FuncData} {ps : List Str} {sp : Sp} {ds : List Value} {dvs : List V} (F : FnOk P w K mg base CX k f fd ps sp) (hb : Binds K fd ps ds) (hd : Vals dvs ds) :
    FnR P w K mg base CX k f (fun vs H Q E => sp (vs ++ dvs) H Q E) := fun A outer s H us vs Q E hr e0 r hs => by
  have r2 : Vals (vs ++ dvs) (us ++ ds) := r.append hd
  have hl : (us ++ ds).length = ps.length := by rw [← r2.length]; exact F.len _ _ _ _ hs
  have KX : K.In s.heap := e0.mod.kin.keeps fun b o e => (e0.bs b o e).1
  exact F.run A outer s H ⟨us, []⟩ (us ++ ds) (vs ++ dvs) Q E hr e0 (hb s us KX hl) r2 hs
/-- instances of C may be called -/
structure Clo (P : Program) (w : World) (K : Frg) (mg : Str → Option Value) (base : Heap) (CX : CXT) (lv : Nat) (C : Addr) (sp : Sp) : Prop where
  ex : ∃ g, StX.CallO K C g ∧ FnR P w K mg base CX lv g sp
theorem pe_cl {X : Cx} {CX : CXT} {lv : Nat} {C : Addr} {sp : Sp} {E : XK} {fe e : Expr} {es : List Expr} {tf : TE} {t : TA} {pos : Pos} (F : Clo X.prog X.w X.K X.mg X.base CX lv C sp) (hr : Room lv X.A) (hx : Passes CX X E) (hf : PE X fe tf) (ha : PA X (e :: es) t)
    (ht : eval (.Call fe (e :: es) [] pos) X.env = (do callWith pos (← eval fe X.env) [] (backTo pos (starEach (e :: es) X.env)) (backToKw pos (keywordEach [] X.env))) := by rfl)
    (he : starEach (e :: es) X.env = (false, eval e X.env) :: starEach es X.env := by rfl) (hpl : (backTo pos (starEach es X.env)).any (·.1) = false := by rfl) : PE X (.Call fe (e :: es) [] pos) (StX.tCallO X C sp E tf t) := by
  obtain ⟨g, c, G⟩ := F.ex
  exact StX.pe_callO hf c G hr hx ha ht he hpl
/-- over the signs of a text -/
theorem lc_str {x : Str} {g : TG} {tt : TT} {te : TE} {vs : List Nat} {σ : L2.St} {H1 : Hp} {D : Addr} {Qd : Hp → Prop} (Pv : Nat → Hp → Prop) (h0 : Pv 0 (upd H1 D (.lst [])))
    (hs : ∀ i c H, x.cps[i]? = some c → Pv i H → g (.str ⟨#[c]⟩) (wipe σ vs) H fun σ2 H2 => wipe σ2 vs = wipe σ vs ∧ tt σ2 H2 fun b H3 =>
      if b = true then te σ2 H3 fun y H4 => ∃ acc, H4 D = some (.lst acc) ∧ acc.length < sizeLine ∧ Pv (i + 1) (upd H4 D (.lst (acc ++ [y]))) else Pv (i + 1) H3) (hd : ∀ H, Pv x.cps.size H → Qd H) :
    ∃ W : Nat → Nat → Hp → Prop, (∃ m, W 0 m (upd H1 D (.lst []))) ∧ ∀ i m H, W i m H →
      ((L2.Its x).stop i H ∧ Qd H) ∨ ((L2.Its x).go i H ∧ ∃ Nx : Hp → Prop, (∀ H', Nx H' → ∃ m', m' < m ∧ W (i + 1) m' H') ∧ ∀ v H', (L2.Its x).yld i H v H' → g v (wipe σ vs) H' fun σ2 H2 => wipe σ2 vs = wipe σ vs ∧ tt σ2 H2 fun b H3 =>
        if b = true then te σ2 H3 fun y H4 => ∃ acc, H4 D = some (.lst acc) ∧ acc.length < sizeLine ∧ Nx (upd H4 D (.lst (acc ++ [y]))) else Nx H3) := by
  refine ⟨fun i m H => m = x.cps.size - i ∧ i ≤ x.cps.size ∧ Pv i H, ⟨x.cps.size, by simp, Nat.zero_le _, h0⟩, ?_⟩
  rintro i m H ⟨rfl, hi, p⟩
  by_cases hlt : i < x.cps.size
  · refine .inr ⟨hlt, Pv (i + 1), fun H' p' => ⟨x.cps.size - (i + 1), by omega, rfl, hlt, p'⟩, ?_⟩
    rintro v H' ⟨rfl, c, hc, rfl⟩
    exact hs i c _ hc p
  · have e : i = x.cps.size := by omega
    subst e
    exact .inl ⟨Nat.le_refl _, hd H p⟩
end RS

set_option maxRecDepth 100000
set_option maxHeartbeats 4000000
namespace RS
open PySem PySem.Spec PyProof.Rows L2 NdefX He PySem.W
/-! ### walking a list or a tuple, not known which -/
def SqLT (K : Frg) (H : Hp) (a : Addr) (xs : List V) : Prop := SqL K H a xs ∨ SqT K H a xs
def iSq (K : Frg) (tl : TE) : TI := fun σ H R => tl σ H fun x H1 => ∃ a, x = .ref a ∧ (((∃ xs, SqL K H1 a xs) ∧ R (Itl K a) H1) ∨ ((∃ xs, SqT K H1 a xs) ∧ R (Itt K a) H1))
theorem pi_sq {X : Cx} {tg : Expr} {l : Expr} {tl : TE} (hl : PE X l tl) : PI X tg l (iSq X.K tl) := by
  refine ⟨fun pins s σ H R I h => ?_⟩
  refine thn (hl.run pins s σ H _ I h) fun v s1 ⟨x, H1, I1, r1, q1⟩ => ?_
  obtain ⟨a, e, ⟨⟨xs, hq⟩, q⟩ | ⟨⟨xs, hq⟩, q⟩⟩ := q1
  · subst e
    cases r1
    obtain ⟨its, rv, p, hz⟩ := I1.list hq
    refine wpAny_pyIter_list p.isList ?_
    refine ⟨s1.heap.objs.size, [s1.heap.objs.size], _, _, H1, rfl, I1.kept (t' := s1.toks) fun b o e => Heap.get?_push_of_some _ e, turn_list a _, ⟨_, Heap.get?_push_size _ rfl, rfl, rfl⟩, fun b hb => ?_, q⟩
    have e : b = s1.heap.objs.size := by simpa using hb
    subst e
    exact I1.fpOk (Nat.le_refl _) (I1.hok.fresh (Nat.le_refl _))
  · subst e
    cases r1
    obtain ⟨its, rv, p, hz⟩ := I1.tuple hq
    refine wpAny_pyIter_tuple (show s1.heap.IsTuple a its.toArray from p) ?_
    refine ⟨s1.heap.objs.size, [s1.heap.objs.size], _, _, H1, rfl, I1.kept (t' := s1.toks) fun b o e => Heap.get?_push_of_some _ e, turn_tuple a _, ⟨_, Heap.get?_push_size _ rfl, rfl, rfl⟩, fun b hb => ?_, q⟩
    have e : b = s1.heap.objs.size := by simpa using hb
    subst e
    exact I1.fpOk (Nat.le_refl _) (I1.hok.fresh (Nat.le_refl _))
/-- a list or a tuple, or a tuple of the module (a default) -/
def SqO (K : Frg) (H : Hp) (a : Addr) (xs : List V) : Prop := H a = some (.lst xs) ∨ H a = some (.tup xs) ∨ ∀ H', SqT K H' a xs
theorem SqO.old {K : Frg} {H H' : Hp} {a : Addr} {xs : List V} (x : SqO K H a xs) (k : ∀ o, H a = some o → H' a = some o) : SqO K H' a xs := x.imp (k _) (Or.imp (k _) id)
theorem SqO.sq {K : Frg} {H : Hp} {r : Addr} {ys : List V} (x : SqO K H r ys) : SqL K H r ys ∨ SqT K H r ys := x.imp SqL.of fun z => z.elim SqT.of fun k => k H
theorem for_sq {K : Frg} {a : Addr} {xs : List V} {g : TG} {tb : TS} {D : Ends} {σ : L2.St} {H0 H : Hp} (hq : SqO K H0 a xs) (Pv : Nat → L2.St → Hp → Prop) (h0 : Pv 0 σ H)
    (hl : ∀ i σ H', i ≤ xs.length → Pv i σ H' → ∀ o, H0 a = some o → H' a = some o)
    (hs : ∀ i x σ H, xs[i]? = some x → Pv i σ H → g x σ H fun σ2 H2 => tb { D with nx := Pv (i + 1), ct := Pv (i + 1), bk := D.nx } σ2 H2) (hd : ∀ σ H, Pv xs.length σ H → D.nx σ H) :
    ((∃ xs, SqL K H a xs) ∧ ∃ W : Nat → Nat → L2.St → Hp → Prop, (∃ m, W 0 m σ H) ∧ ∀ i m σ H, W i m σ H →
      ((Itl K a).stop i H ∧ D.nx σ H) ∨ ((Itl K a).go i H ∧ ∃ N : L2.St → Hp → Prop, (∀ σ' H', N σ' H' → ∃ m', m' < m ∧ W (i + 1) m' σ' H') ∧ ∀ x H', (Itl K a).yld i H x H' → g x σ H' fun σ2 H2 => tb { D with nx := N, ct := N, bk := D.nx } σ2 H2)) ∨
    ((∃ xs, SqT K H a xs) ∧ ∃ W : Nat → Nat → L2.St → Hp → Prop, (∃ m, W 0 m σ H) ∧ ∀ i m σ H, W i m σ H →
      ((Itt K a).stop i H ∧ D.nx σ H) ∨ ((Itt K a).go i H ∧ ∃ N : L2.St → Hp → Prop, (∀ σ' H', N σ' H' → ∃ m', m' < m ∧ W (i + 1) m' σ' H') ∧ ∀ x H', (Itt K a).yld i H x H' → g x σ H' fun σ2 H2 => tb { D with nx := N, ct := N, bk := D.nx } σ2 H2)) := by
  rcases hq with h | h | h
  · exact .inl ⟨⟨_, SqL.of (hl 0 σ H (Nat.zero_le _) h0 _ h)⟩, for_list Pv h0 (fun i σ H' hi p => SqL.of (hl i σ H' hi p _ h)) hs hd⟩
  · exact .inr ⟨⟨_, SqT.of (hl 0 σ H (Nat.zero_le _) h0 _ h)⟩, for_tup Pv h0 (fun i σ H' hi p => SqT.of (hl i σ H' hi p _ h)) hs hd⟩
  · exact .inr ⟨⟨_, h H⟩, for_tup Pv h0 (fun i σ H' hi p => h H') hs hd⟩
end RS

set_option maxRecDepth 100000
set_option maxHeartbeats 4000000
namespace RS
open PySem PySem.Spec PyProof.Rows L2 NdefX He PySem.W
/-! ### len(x), x[k], str(x) of an instance by its own defs -/
section
variable {X : Cx} {CX : CXT} {lv : Nat} {C : Addr} {ps : List Str} {sp : Sp} {E : XK}
def rLenOwn (C : Addr) (sp : Sp) (E : XK) : List V → Hp → VK → Prop := fun xs H Q => ∃ a dx fs, xs = [.ref a] ∧ H a = some (.ins C dx fs) ∧ sp [.ref a] H (fun v H' => ∃ n : Int, v = .int n ∧ 0 ≤ n ∧ n < 2 ^ 63 ∧ Q (.int n) H') E
theorem call_lenOwn (F : Mtd X.prog X.w X.K X.mg X.base CX lv C "__len__" ps [] sp) (hr : Room (lv + 1) X.A) (hx : Passes CX X E) : CallR X (.builtin "len") (rLenOwn C sp E) := by
  intro pins s σ H xs us Q I r h
  obtain ⟨a, dx, fs, rfl, ea, q⟩ := h
  obtain ⟨f, fd, ds, G, k, vd, bb⟩ := F.ex
  cases vd
  obtain ⟨u, rfl, ru⟩ := vals1 r
  cases (show u = Value.ref a from ru)
  obtain ⟨od, J⟩ := inst_at I ea
  obtain ⟨mm, hF⟩ := I.fr
  refine PySem.W.len_K hF I.ok.mod.kin J k.at_ k.fn ?_
  refine thn (run_in1 (us := [.ref a]) (vs := [.ref a]) G hr bb hx I (.cons rfl .nil) q) fun w s' ⟨z, H', I', rz, n, ez, h0, h1, qz⟩ => ?_
  subst ez
  obtain ⟨t, rfl⟩ := rz
  exact ⟨⟨h0, h1⟩, .int n, H', I'.tok _, ⟨_, rfl⟩, qz⟩
def rStrOwn (C : Addr) (sp : Sp) (E : XK) : List V → Hp → VK → Prop := fun xs H Q => ∃ a dx fs, xs = [.ref a] ∧ H a = some (.ins C dx fs) ∧ sp [.ref a] H (fun v H' => ∃ x : Str, v = .str x ∧ Q (.str x) H') E
theorem call_strOwn (F : Mtd X.prog X.w X.K X.mg X.base CX lv C "__str__" ps [] sp) (hr : Room (lv + 2) X.A) (hx : Passes CX X E) : CallR X (.type "str") (rStrOwn C sp E) := by
  intro pins s σ H xs us Q I r h
  obtain ⟨a, dx, fs, rfl, ea, q⟩ := h
  obtain ⟨f, fd, ds, G, k, vd, bb⟩ := F.ex
  cases vd
  obtain ⟨u, rfl, ru⟩ := vals1 r
  cases (show u = Value.ref a from ru)
  obtain ⟨od, J⟩ := inst_at I ea
  have hr2 : Room lv X.A.in1.in1 := (show Room (lv + 1) X.A.in1 from Room.in1 hr).in1
  refine PySem.W.kso_call (by have := hr2.units; omega) I.kIn J k.at_ k.fn ?_
  have hl : (([.ref a] : List Value) ++ []).length = ps.length := (G.len _ _ _ _ q)
  have hb2 := bb s [.ref a] I.kIn hl
  rw [List.append_nil] at hb2
  refine wpAny_call (codeAny_mono (G.run X.A.in1.in1 X.stack s H ⟨[.ref a], []⟩ [.ref a] [.ref a] _ E hr2 I.env0.in1.in1 hb2 (.cons rfl .nil) q) fun r s' hq => ?_)
  cases r with
  | error e => exact hx pins σ H s e s' I hq
  | ok fl =>
    cases fl with
    | ret u =>
      obtain ⟨z, H', I', rz, x, ez, qz⟩ := I.after hq
      subst ez
      obtain ⟨t, rfl⟩ := (show ∃ t, u = Value.str x t from rz)
      exact ⟨.str x, H', I', ⟨t, rfl⟩, qz⟩
    | next => exact False.elim hq
    | brk => exact False.elim hq
    | cont => exact False.elim hq
/-- the own __getitem__ is a def -/
def getIn (K : Frg) (C : Addr) : Bool := match PySem.W.findIn K (.ref C) "__getitem__" with
  | some (some (.ref f)) => PySem.W.fnIn K f
  | _ => false
theorem getIn_of {K : Frg} {C f : Addr} (h : getIn K C = true) (e : PySem.W.findIn K (.ref C) "__getitem__" = some (some (.ref f))) : PySem.W.fnIn K f = true := by
  unfold getIn at h
  rw [e] at h
  exact h
def rIxOwn (C : Addr) (sp : Sp) (E : XK) : R2 := fun x y H Q => ∃ a dx fs, x = .ref a ∧ H a = some (.ins C dx fs) ∧ sp [.ref a, y] H Q E
theorem pe_ixOwn {a b : Expr} {ta tb : TE} {pos : Pos} (g : getIn X.K C = true) (F : Mtd X.prog X.w X.K X.mg X.base CX lv C "__getitem__" ps [] sp) (hr : Room (lv + 1) X.A) (hx : Passes CX X E) (ha : PE X a ta) (hb : PE X b tb)
    (hs : ∀ o i, subscripted b true o i = runValue (.builtin "lifetime.subscript" ⟨[o, i], []⟩) := by intro _ _; with_unfolding_all rfl) : PE X (.Subscript a b pos) (tOp (rIxOwn C sp E) ta tb) := by
  refine ⟨fun pins s σ H Q I h => ?_⟩
  refine Subscript_ (binT ha hb I h fun v u s2 x y H2 I2 rx ry q => ?_)
  obtain ⟨p, dx, fs, rfl, ea, q⟩ := q
  obtain ⟨f, fd, ds, G, k, vd, bb⟩ := F.ex
  cases vd
  cases (show v = Value.ref p from rx)
  obtain ⟨od, J⟩ := inst_at I2 ea
  obtain ⟨mm, hF⟩ := I2.fr
  refine PySem.W.sub_K hF I2.ok.mod.kin J k.at_ (getIn_of g k.at_) k.fn ?_ (hs _ _)
  exact run_in1 (us := [.ref p, u]) (vs := [.ref p, y]) G hr bb hx I2 (.cons rfl (.cons ry .nil)) q
end
end RS

namespace RS
/-- the tables of code objects of the law's defs that make lambdas: where, and the lambda's qualified name -/
class Tbls where
  tls : List (PySem.Addr × PySem.Str)
abbrev TL [t : Tbls] : List (PySem.Addr × PySem.Str) := t.tls
end RS

set_option maxRecDepth 100000
set_option maxHeartbeats 4000000
namespace RS
open PySem PySem.Spec PyProof.Rows L2 NdefX He PySem.W
/-! ### values as data: what does not change is a tree, what changes stands at an address -/
/-- built-in types that are asked by name -/
inductive BT where
  | int | bool | str | tuple | list | dict | none | verr
def BT.name : BT → String
  | .int => "int" | .bool => "bool" | .str => "str" | .tuple => "tuple" | .list => "list" | .dict => "dict" | .none => "NoneType" | .verr => "ValueError"
inductive D where
  | non | bl (b : Bool) | int (i : Int) | str (x : Str) | ty (n : BT) | ref (a : Addr)
  | tup (xs : List D) | lst (xs : List D) | dct (ks : List (Key × D)) | ins (C : Addr) (fs : List (Str × D))
  /-- the exception at a that is handled, its own dict at d -/
  | exc (a : Addr) (d : Option Addr) (C : Addr) (fs : List (Str × D))
  /-- the script -/
  | scr (ns : List Int)
mutual
inductive Rv (K : Frg) (F : Hp) : V → D → Prop
  | non : Rv K F .non .non
  | bl (b : Bool) : Rv K F (.bl b) (.bl b)
  | int (i : Int) : Rv K F (.int i) (.int i)
  | str (x : Str) : Rv K F (.str x) (.str x)
  | ty (n : BT) : Rv K F (.ty n.name) (.ty n)
  | ref (a : Addr) : Rv K F (.ref a) (.ref a)
  | tup {a : Addr} {vs : List V} {ds : List D} : SqT K F a vs → Rvs K F vs ds → Rv K F (.ref a) (.tup ds)
  | lst {a : Addr} {vs : List V} {ds : List D} : F a = some (.lst vs) → Rvs K F vs ds → Rv K F (.ref a) (.lst ds)
  | dct {a : Addr} {kvs : List (Key × V)} {ks : List (Key × D)} : F a = some (.dK kvs) → Rks K F kvs ks → Rv K F (.ref a) (.dct ks)
  | ins {a C dx : Addr} {fs : List (Str × V)} {gs : List (Str × D)} : F a = some (.ins C dx fs) → Rfs K F fs gs → (gs.map (·.1)).Nodup → Rv K F (.ref a) (.ins C gs)
  | exc0 (a C : Addr) : Rv K F (.ref a) (.exc a none C [])
  | exc1 {a C d : Addr} {fs : List (Str × V)} {gs : List (Str × D)} : F d = some (.xd fs) → Rfs K F fs gs → Rv K F (.ref a) (.exc a (some d) C gs)
  | scr {a : Addr} {ns : List Int} : SqL K F a (ns.map V.int) → Rv K F (.ref a) (.scr ns)
inductive Rvs (K : Frg) (F : Hp) : List V → List D → Prop
  | nil : Rvs K F [] []
  | cons {v : V} {vs : List V} {d : D} {ds : List D} : Rv K F v d → Rvs K F vs ds → Rvs K F (v :: vs) (d :: ds)
inductive Rks (K : Frg) (F : Hp) : List (Key × V) → List (Key × D) → Prop
  | nil : Rks K F [] []
  | cons {k : Key} {v : V} {vs : List (Key × V)} {d : D} {ds : List (Key × D)} : Rv K F v d → Rks K F vs ds → Rks K F ((k, v) :: vs) ((k, d) :: ds)
inductive Rfs (K : Frg) (F : Hp) : List (Str × V) → List (Str × D) → Prop
  | nil : Rfs K F [] []
  | cons {k : Str} {v : V} {vs : List (Str × V)} {d : D} {ds : List (Str × D)} : Rv K F v d → Rfs K F vs ds → Rfs K F ((k, v) :: vs) ((k, d) :: ds)
end
theorem Same.sqT {K : Frg} {H H' : Hp} {a : Addr} {xs : List V} (e : L2.Same H H') (h : SqT K H a xs) : SqT K H' a xs := by
  rcases h with (h | ⟨o, h⟩) | h
  · exact .inl (.inl (e _ _ h))
  · exact .inl (.inr ⟨o, e _ _ h⟩)
  · exact .inr h
mutual
theorem Rv.mono {K : Frg} {F F' : Hp} (k : L2.Same F F') : ∀ {v : V} {d : D}, Rv K F v d → Rv K F' v d
  | _, _, .non => .non
  | _, _, .bl b => .bl b
  | _, _, .int i => .int i
  | _, _, .str x => .str x
  | _, _, .ty n => .ty n
  | _, _, .ref a => .ref a
  | _, _, .tup e a => .tup (Same.sqT k e) (Rvs.mono k a)
  | _, _, .lst e a => .lst (k _ _ e) (Rvs.mono k a)
  | _, _, .dct e a => .dct (k _ _ e) (Rks.mono k a)
  | _, _, .ins e a n => .ins (k _ _ e) (Rfs.mono k a) n
  | _, _, .exc0 a C => .exc0 a C
  | _, _, .exc1 e a => .exc1 (k _ _ e) (Rfs.mono k a)
  | _, _, .scr e => .scr (k.seq e)
theorem Rvs.mono {K : Frg} {F F' : Hp} (k : L2.Same F F') : ∀ {v : List V} {d : List D}, Rvs K F v d → Rvs K F' v d
  | _, _, .nil => .nil
  | _, _, .cons x y => .cons (Rv.mono k x) (Rvs.mono k y)
theorem Rks.mono {K : Frg} {F F' : Hp} (k : L2.Same F F') : ∀ {v : List (Key × V)} {d : List (Key × D)}, Rks K F v d → Rks K F' v d
  | _, _, .nil => .nil
  | _, _, .cons x y => .cons (Rv.mono k x) (Rks.mono k y)
theorem Rfs.mono {K : Frg} {F F' : Hp} (k : L2.Same F F') : ∀ {v : List (Str × V)} {d : List (Str × D)}, Rfs K F v d → Rfs K F' v d
  | _, _, .nil => .nil
  | _, _, .cons x y => .cons (Rv.mono k x) (Rfs.mono k y)
end
section
variable {K : Frg} {F : Hp}
theorem Rvs.len : ∀ {vs : List V} {ds : List D}, Rvs K F vs ds → vs.length = ds.length
  | _, _, .nil => rfl
  | _, _, .cons _ y => by rw [List.length_cons, List.length_cons, Rvs.len y]
theorem Rks.len : ∀ {vs : List (Key × V)} {ds : List (Key × D)}, Rks K F vs ds → vs.length = ds.length
  | _, _, .nil => rfl
  | _, _, .cons _ y => by rw [List.length_cons, List.length_cons, Rks.len y]
theorem Rfs.len : ∀ {vs : List (Str × V)} {ds : List (Str × D)}, Rfs K F vs ds → vs.length = ds.length
  | _, _, .nil => rfl
  | _, _, .cons _ y => by rw [List.length_cons, List.length_cons, Rfs.len y]
theorem Rfs.keys : ∀ {vs : List (Str × V)} {ds : List (Str × D)}, Rfs K F vs ds → vs.map (·.1) = ds.map (·.1)
  | _, _, .nil => rfl
  | _, _, .cons _ y => by rw [List.map_cons, List.map_cons, Rfs.keys y]
theorem Rvs.append : ∀ {vs ws : List V} {ds es : List D}, Rvs K F vs ds → Rvs K F ws es → Rvs K F (vs ++ ws) (ds ++ es)
  | _, _, _, _, .nil, x => x
  | _, _, _, _, .cons y ys, x => .cons y (Rvs.append ys x)
theorem Rvs.snoc {vs : List V} {ds : List D} {v : V} {d : D} (x : Rvs K F vs ds) (y : Rv K F v d) : Rvs K F (vs ++ [v]) (ds ++ [d]) := x.append (.cons y .nil)
theorem Rvs.at : ∀ {vs : List V} {ds : List D} {i : Nat} {v : V}, Rvs K F vs ds → vs[i]? = some v → ∃ d, ds[i]? = some d ∧ Rv K F v d
  | _, _, i, _, .nil, h => by simp at h
  | _, _, 0, _, .cons y _, h => by
    simp at h
    subst h
    exact ⟨_, rfl, y⟩
  | _, _, i + 1, _, .cons _ ys, h => by
    simp at h
    obtain ⟨d, e, t⟩ := Rvs.at ys h
    exact ⟨d, by simpa using e, t⟩
theorem Rvs.atD : ∀ {vs : List V} {ds : List D} {i : Nat} {d : D}, Rvs K F vs ds → ds[i]? = some d → ∃ v, vs[i]? = some v ∧ Rv K F v d
  | _, _, i, _, .nil, h => by simp at h
  | _, _, 0, _, .cons y _, h => by
    simp at h
    subst h
    exact ⟨_, rfl, y⟩
  | _, _, i + 1, _, .cons _ ys, h => by
    simp at h
    obtain ⟨d, e, t⟩ := Rvs.atD ys h
    exact ⟨d, by simpa using e, t⟩
theorem Rvs.take : ∀ {vs : List V} {ds : List D} (n : Nat), Rvs K F vs ds → Rvs K F (vs.take n) (ds.take n)
  | _, _, 0, _ => .nil
  | _, _, _ + 1, .nil => .nil
  | _, _, n + 1, .cons x y => .cons x (Rvs.take n y)
theorem Rvs.drop : ∀ {vs : List V} {ds : List D} (n : Nat), Rvs K F vs ds → Rvs K F (vs.drop n) (ds.drop n)
  | _, _, 0, x => x
  | _, _, _ + 1, .nil => .nil
  | _, _, n + 1, .cons x y => Rvs.drop n y
theorem Rvs.set {v : V} {d : D} (r : Rv K F v d) : ∀ {vs : List V} {ds : List D} (n : Nat), Rvs K F vs ds → Rvs K F (vs.set n v) (ds.set n d)
  | _, _, _, .nil => .nil
  | _, _, 0, .cons x y => .cons r y
  | _, _, n + 1, .cons x y => .cons x (Rvs.set r n y)
theorem Rvs.dropLast : ∀ {vs : List V} {ds : List D}, Rvs K F vs ds → Rvs K F vs.dropLast ds.dropLast
  | _, _, .nil => .nil
  | _, _, .cons x .nil => .nil
  | _, _, .cons x (.cons y z) => .cons x (Rvs.dropLast (.cons y z))
theorem Rvs.ints : ∀ (ns : List Int), Rvs K F (ns.map V.int) (ns.map D.int)
  | [] => .nil
  | n :: ns => .cons (.int n) (Rvs.ints ns)
end
/-! ### what changes -/
inductive MO where
  | lst (xs : List D) | dct (ks : List (Key × D)) | ins (C : Addr) (fs : List (Str × D))
def MO.d : MO → D
  | .lst xs => .lst xs
  | .dct ks => .dct ks
  | .ins C fs => .ins C fs
abbrev MS := Addr → Option MO
def updM (M : MS) (a : Addr) (m : MO) : MS := fun b => if b = a then some m else M b
def delM (M : MS) (a : Addr) : MS := fun b => if b = a then none else M b
theorem updM_same {M : MS} {a : Addr} {m : MO} : updM M a m a = some m := if_pos rfl
theorem updM_ne {M : MS} {a b : Addr} {m : MO} (h : b ≠ a) : updM M a m b = M b := if_neg h
theorem delM_same {M : MS} {a : Addr} : delM M a a = none := if_pos rfl
theorem delM_ne {M : MS} {a b : Addr} (h : b ≠ a) : delM M a b = M b := if_neg h
theorem updM_updM {M : MS} {a : Addr} {m n : MO} : updM (updM M a m) a n = updM M a n := by
  funext b; unfold updM; split <;> rfl
theorem updM_comm {M : MS} {a b : Addr} {m n : MO} (h : a ≠ b) : updM (updM M a m) b n = updM (updM M b n) a m := by
  funext c; unfold updM
  by_cases h1 : c = a
  · subst h1; rw [if_neg h, if_pos rfl, if_pos rfl]
  · rw [if_neg h1, if_neg h1]
theorem delM_updM {M : MS} {a : Addr} {m : MO} (h : M a = none) : delM (updM M a m) a = M := by
  funext b; unfold delM updM
  split
  · rename_i e; rw [e, h]
  · rfl
theorem delM_updM_ne {M : MS} {a b : Addr} {m : MO} (h : b ≠ a) : delM (updM M b m) a = updM (delM M a) b m := by
  funext c
  by_cases h1 : c = a
  · subst h1; rw [delM_same, updM_ne (Ne.symm h), delM_same]
  · rw [delM_ne h1]
    by_cases h2 : c = b
    · subst h2; rw [updM_same, updM_same]
    · rw [updM_ne h2, updM_ne h2, delM_ne h1]
def RepO (K : Frg) (F : Hp) : Option HO → MO → Prop
  | some (.lst vs), .lst ds => Rvs K F vs ds
  | some (.dK kvs), .dct ks => Rks K F kvs ks
  | some (.ins C _ fs), .ins C' gs => C = C' ∧ Rfs K F fs gs ∧ (gs.map (·.1)).Nodup
  | _, _ => False
theorem RepO.mono {K : Frg} {F F' : Hp} (k : L2.Same F F') {o : Option HO} {m : MO} (h : RepO K F o m) : RepO K F' o m := by
  unfold RepO at h ⊢
  split at h
  · exact h.mono k
  · exact h.mono k
  · exact ⟨h.1, h.2.1.mono k, h.2.2⟩
  · exact h.elim
theorem RepO.some {K : Frg} {F : Hp} {o : Option HO} {m : MO} (h : RepO K F o m) : ∃ u, o = some u := by
  cases o with
  | none => exact h.elim
  | some u => exact ⟨u, rfl⟩
/-- no table of code objects; neither that nor anything opaque -/
def Hd : HO → Prop
  | .tbl _ => False
  | _ => True
def Pl : HO → Prop
  | .tbl _ => False
  | .ext _ => False
  | _ => True
theorem RepO.hd {K : Frg} {F : Hp} {u : HO} {m : MO} (h : RepO K F (Option.some u) m) : Hd u ∧ Pl u := by
  cases u <;> first | exact ⟨True.intro, True.intro⟩ | exact h.elim
theorem Pl.hd {u : HO} (h : Pl u) : Hd u := by
  cases u <;> first | exact True.intro | exact h.elim
section
variable [Tbls]
theorem tabs_new {H : Hp} {p : Addr} {o : HO} (t : LamX.Tabs TL H) (h : H p = none) : LamX.Tabs TL (upd H p o) := t.ext fun b u e => by
  have hb : b ≠ p := by rintro rfl; rw [h] at e; cases e
  rw [upd_ne hb]; exact e
theorem tabs_but {H H' : Hp} {p : Addr} {u : HO} (t : LamX.Tabs TL H) (h : H p = some u) (pl : Pl u) (k : ∀ b o, b ≠ p → H b = some o → H' b = some o) : LamX.Tabs TL H' := fun q hq => by
  obtain ⟨ps, h1, h2, h3⟩ := t q hq
  have e1 : q.1 ≠ p := fun e => by
    rw [e, h] at h1; cases h1; exact pl
  refine ⟨ps, k _ _ e1 h1, h2, fun pos cv hc => ?_⟩
  obtain ⟨c, x, y⟩ := h3 pos cv hc
  have e2 : c ≠ p := fun e => by
    rw [e, h] at y
    have z := Option.some.inj y
    rw [z] at pl
    exact pl
  exact ⟨c, x, k _ _ e2 y⟩
theorem tabs_put {H : Hp} {p : Addr} {o u : HO} (t : LamX.Tabs TL H) (h : H p = some u) (pl : Pl u) : LamX.Tabs TL (upd H p o) := tabs_but t h pl fun b v hb e => by rw [upd_ne hb]; exact e
/-- frozen F, changing M, set aside G, all in the heap H -/
structure Rep (K : Frg) (F : Hp) (M : MS) (G H : Hp) : Prop where
  fz : L2.Same F H
  mu : ∀ a m, M a = some m → F a = none ∧ G a = none ∧ RepO K F (H a) m
  fr : ∀ a o, G a = some o → H a = some o ∧ F a = none
  nt : ∀ a o, F a = some o → Hd o
  ng : ∀ a o, G a = some o → Pl o
  tb : LamX.Tabs TL H
section
variable {K : Frg} {F : Hp} {M : MS} {G H : Hp} {p a : Addr} {o : HO} {m m' : MO}
theorem Rep.freeF (R : Rep K F M G H) (h : H p = none) : F p = none := by
  cases e : F p with
  | none => rfl
  | some o => rw [R.fz _ _ e] at h; cases h
theorem Rep.freeG (R : Rep K F M G H) (h : H p = none) : G p = none := by
  cases e : G p with
  | none => rfl
  | some o => rw [(R.fr _ _ e).1] at h; cases h
theorem Rep.freeM (R : Rep K F M G H) (h : H p = none) : M p = none := by
  cases e : M p with
  | none => rfl
  | some m =>
    obtain ⟨u, hu⟩ := (R.mu _ _ e).2.2.some
    rw [h] at hu; cases hu
theorem Rep.newF (R : Rep K F M G H) (h : H p = none) (hd : Hd o := by exact True.intro) : Rep K (upd F p o) M G (upd H p o) ∧ L2.Same F (upd F p o) := by
  have s : L2.Same F (upd F p o) := Same.new (R.freeF h)
  refine ⟨⟨fun b u e => ?_, fun b m e => ?_, fun b u e => ?_, fun b u e => ?_, R.ng, tabs_new R.tb h⟩, s⟩
  · by_cases hb : b = p
    · subst hb; rw [upd_same] at e ⊢; exact e
    · rw [upd_ne hb] at e ⊢; exact R.fz _ _ e
  · obtain ⟨x, y, z⟩ := R.mu b m e
    have hb : b ≠ p := by rintro rfl; rw [R.freeM h] at e; cases e
    rw [upd_ne hb, upd_ne hb]
    exact ⟨x, y, z.mono s⟩
  · obtain ⟨x, y⟩ := R.fr b u e
    have hb : b ≠ p := by rintro rfl; rw [R.freeG h] at e; cases e
    rw [upd_ne hb, upd_ne hb]
    exact ⟨x, y⟩
  · by_cases hb : b = p
    · subst hb; rw [upd_same] at e; cases e; exact hd
    · rw [upd_ne hb] at e; exact R.nt b u e
/-- something new that nobody holds -/
theorem Rep.newN (R : Rep K F M G H) (h : H p = none) : Rep K F M G (upd H p o) := by
  refine ⟨fun b u e => ?_, fun b m e => ?_, fun b u e => ?_, R.nt, R.ng, tabs_new R.tb h⟩
  · have hb : b ≠ p := by rintro rfl; rw [R.freeF h] at e; cases e
    rw [upd_ne hb]; exact R.fz _ _ e
  · have hb : b ≠ p := by rintro rfl; rw [R.freeM h] at e; cases e
    rw [upd_ne hb]; exact R.mu b m e
  · have hb : b ≠ p := by rintro rfl; rw [R.freeG h] at e; cases e
    rw [upd_ne hb]; exact R.fr b u e
theorem Rep.newM (R : Rep K F M G H) (h : H p = none) (ro : RepO K F (some o) m) : Rep K F (updM M p m) G (upd H p o) := by
  refine ⟨(R.newN h).fz, fun b n e => ?_, (R.newN (o := o) h).fr, R.nt, R.ng, tabs_new R.tb h⟩
  by_cases hb : b = p
  · subst hb
    rw [updM_same] at e; cases e
    rw [upd_same]
    exact ⟨R.freeF h, R.freeG h, ro⟩
  · rw [updM_ne hb] at e
    rw [upd_ne hb]
    exact R.mu b n e
theorem Rep.newG (R : Rep K F M G H) (h : H p = none) (pl : Pl o := by exact True.intro) : Rep K F M (upd G p o) (upd H p o) := by
  refine ⟨(R.newN h).fz, fun b n e => ?_, fun b u e => ?_, R.nt, fun b u e => ?_, tabs_new R.tb h⟩
  · have hb : b ≠ p := by rintro rfl; rw [R.freeM h] at e; cases e
    rw [upd_ne hb, upd_ne hb]; exact R.mu b n e
  · by_cases hb : b = p
    · subst hb
      rw [upd_same] at e ⊢; cases e
      exact ⟨rfl, R.freeF h⟩
    · rw [upd_ne hb] at e ⊢
      exact R.fr b u e
  · by_cases hb : b = p
    · subst hb; rw [upd_same] at e; cases e; exact pl
    · rw [upd_ne hb] at e; exact R.ng b u e
theorem Rep.putG {u : HO} (R : Rep K F M (upd G p u) H) (pl : Pl o := by exact True.intro) : Rep K F M (upd G p o) (upd H p o) := by
  have hp := R.fr p u upd_same
  refine ⟨fun b v e => ?_, fun b n e => ?_, fun b v e => ?_, R.nt, fun b v e => ?_, tabs_put R.tb hp.1 (R.ng p u upd_same)⟩
  · have hb : b ≠ p := by rintro rfl; rw [hp.2] at e; cases e
    rw [upd_ne hb]; exact R.fz _ _ e
  · obtain ⟨x, y, z⟩ := R.mu b n e
    have hb : b ≠ p := by rintro rfl; rw [upd_same] at y; cases y
    rw [upd_ne hb] at y
    rw [upd_ne hb, upd_ne hb]
    exact ⟨x, y, z⟩
  · by_cases hb : b = p
    · subst hb
      rw [upd_same] at e ⊢; cases e
      exact ⟨rfl, hp.2⟩
    · rw [upd_ne hb] at e ⊢
      exact R.fr b v (by rw [upd_ne hb]; exact e)
  · by_cases hb : b = p
    · subst hb; rw [upd_same] at e; cases e; exact pl
    · rw [upd_ne hb] at e; exact R.ng b v (by rw [upd_ne hb]; exact e)
/-- what was set aside is frozen -/
theorem Rep.frzG (R : Rep K F M (upd G p o) H) (h : G p = none) : Rep K (upd F p o) M G H ∧ L2.Same F (upd F p o) := by
  have hp := R.fr p o upd_same
  have s : L2.Same F (upd F p o) := Same.new hp.2
  refine ⟨⟨fun b v e => ?_, fun b n e => ?_, fun b v e => ?_, fun b v e => ?_, fun b v e => ?_, R.tb⟩, s⟩
  · by_cases hb : b = p
    · subst hb; rw [upd_same] at e; cases e; exact hp.1
    · rw [upd_ne hb] at e; exact R.fz _ _ e
  · obtain ⟨x, y, z⟩ := R.mu b n e
    have hb : b ≠ p := by rintro rfl; rw [upd_same] at y; cases y
    rw [upd_ne hb] at y
    rw [upd_ne hb]
    exact ⟨x, y, z.mono s⟩
  · have hb : b ≠ p := by rintro rfl; rw [h] at e; cases e
    rw [upd_ne hb]
    exact R.fr b v (by rw [upd_ne hb]; exact e)
  · by_cases hb : b = p
    · subst hb; rw [upd_same] at e; cases e; exact (R.ng b o upd_same).hd
    · rw [upd_ne hb] at e; exact R.nt b v e
  · have hb : b ≠ p := by rintro rfl; rw [h] at e; cases e
    exact R.ng b v (by rw [upd_ne hb]; exact e)
theorem Rep.put (R : Rep K F M G H) (e : M a = some m) (ro : RepO K F (some o) m') : Rep K F (updM M a m') G (upd H a o) := by
  obtain ⟨x, y, w⟩ := R.mu a m e
  obtain ⟨u0, hu⟩ := w.some
  rw [hu] at w
  refine ⟨fun b u z => ?_, fun b n z => ?_, fun b u z => ?_, R.nt, R.ng, tabs_put R.tb hu w.hd.2⟩
  · have hb : b ≠ a := by rintro rfl; rw [x] at z; cases z
    rw [upd_ne hb]; exact R.fz _ _ z
  · by_cases hb : b = a
    · subst hb
      rw [updM_same] at z; cases z
      rw [upd_same]
      exact ⟨x, y, ro⟩
    · rw [updM_ne hb] at z
      rw [upd_ne hb]
      exact R.mu b n z
  · have hb : b ≠ a := by rintro rfl; rw [y] at z; cases z
    rw [upd_ne hb]; exact R.fr b u z
theorem tabs_rep {H' : Hp} (R : Rep K F M G H) (e : M a = some m) (k : ∀ b o, b ≠ a → H b = some o → H' b = some o) : LamX.Tabs TL H' := by
  obtain ⟨_, _, w⟩ := R.mu a m e
  obtain ⟨u, hu⟩ := w.some
  rw [hu] at w
  exact tabs_but R.tb hu w.hd.2 k
theorem Rep.weak {M' : MS} (R : Rep K F M G H) (h : ∀ a m, M' a = some m → M a = some m) : Rep K F M' G H := ⟨R.fz, fun a m e => R.mu a m (h a m e), R.fr, R.nt, R.ng, R.tb⟩
/-- what changed is frozen -/
theorem Rep.frz (R : Rep K F M G H) (e : M a = some m) : ∃ F', L2.Same F F' ∧ Rep K F' (delM M a) G H ∧ Rv K F' (.ref a) m.d := by
  obtain ⟨x, y, z⟩ := R.mu a m e
  obtain ⟨u, hu⟩ := z.some
  have s : L2.Same F (upd F a u) := Same.new x
  refine ⟨upd F a u, s, ⟨fun b v q => ?_, fun b n q => ?_, fun b v q => ?_, fun b v q => ?_, R.ng, R.tb⟩, ?_⟩
  · by_cases hb : b = a
    · subst hb; rw [upd_same] at q; cases q; exact hu
    · rw [upd_ne hb] at q; exact R.fz _ _ q
  · have hb : b ≠ a := by rintro rfl; rw [delM_same] at q; cases q
    rw [delM_ne hb] at q
    obtain ⟨x', y', z'⟩ := R.mu b n q
    rw [upd_ne hb]
    exact ⟨x', y', z'.mono s⟩
  · have hb : b ≠ a := by rintro rfl; rw [y] at q; cases q
    rw [upd_ne hb]; exact R.fr b v q
  · by_cases hb : b = a
    · subst hb; rw [upd_same] at q; cases q; rw [hu] at z; exact z.hd.1
    · rw [upd_ne hb] at q; exact R.nt b v q
  · rw [hu] at z
    cases m with
    | lst ds =>
      cases u <;> try exact z.elim
      exact .lst upd_same (Rvs.mono s z)
    | dct ks =>
      cases u <;> try exact z.elim
      exact .dct upd_same (Rks.mono s z)
    | ins C gs =>
      cases u <;> try exact z.elim
      obtain ⟨rfl, z, n⟩ := z
      exact .ins upd_same (z.mono s) n
end
section
variable {K : Frg} {F : Hp} {M : MS} {G H : Hp} {a : Addr}
theorem Rvs.empty {vs : List V} {ds : List D} (r : Rvs K F vs ds) : vs.isEmpty = ds.isEmpty := by cases r <;> rfl
theorem Rks.empty {vs : List (Key × V)} {ds : List (Key × D)} (r : Rks K F vs ds) : vs.isEmpty = ds.isEmpty := by cases r <;> rfl
theorem Rep.lst (R : Rep K F M G H) {xs : List D} (e : M a = some (.lst xs)) : ∃ vs, H a = some (.lst vs) ∧ Rvs K F vs xs := by
  obtain ⟨_, _, z⟩ := R.mu a _ e
  obtain ⟨u, hu⟩ := z.some
  rw [hu] at z
  cases u <;> try exact z.elim
  exact ⟨_, hu, z⟩
theorem Rep.dct (R : Rep K F M G H) {ks : List (Key × D)} (e : M a = some (.dct ks)) : ∃ vs, H a = some (.dK vs) ∧ Rks K F vs ks := by
  obtain ⟨_, _, z⟩ := R.mu a _ e
  obtain ⟨u, hu⟩ := z.some
  rw [hu] at z
  cases u <;> try exact z.elim
  exact ⟨_, hu, z⟩
theorem Rep.ins (R : Rep K F M G H) {C : Addr} {gs : List (Str × D)} (e : M a = some (.ins C gs)) : ∃ dx fs, H a = some (.ins C dx fs) ∧ Rfs K F fs gs ∧ (gs.map (·.1)).Nodup := by
  obtain ⟨_, _, z⟩ := R.mu a _ e
  obtain ⟨u, hu⟩ := z.some
  rw [hu] at z
  cases u <;> try exact z.elim
  obtain ⟨rfl, z, n⟩ := z
  exact ⟨_, _, hu, z, n⟩
end
end
/-! ### slots -/
abbrev SD := List (Option D)
inductive Rs (K : Frg) (F : Hp) : L2.St → SD → Prop
  | nil : Rs K F [] []
  | cons {v : Option V} {vs : L2.St} {d : Option D} {ds : SD} : (∀ e, d = some e → ∃ u, v = some u ∧ Rv K F u e) → Rs K F vs ds → Rs K F (v :: vs) (d :: ds)
section
variable {K : Frg} {F F' : Hp}
theorem Rs.mono (k : L2.Same F F') : ∀ {σ : L2.St} {τ : SD}, Rs K F σ τ → Rs K F' σ τ
  | _, _, .nil => .nil
  | _, _, .cons x y => .cons (fun e h => let ⟨u, a, b⟩ := x e h; ⟨u, a, b.mono k⟩) (Rs.mono k y)
theorem Rs.at : ∀ {σ : L2.St} {τ : SD} {i : Nat} {d : D}, Rs K F σ τ → τ[i]? = some (some d) → ∃ v, σ[i]? = some (some v) ∧ Rv K F v d
  | _, _, i, _, .nil, h => by simp at h
  | _, _, 0, _, .cons x _, h => by
    simp at h
    obtain ⟨u, e, r⟩ := x _ h
    exact ⟨u, by simpa using e, r⟩
  | _, _, i + 1, _, .cons _ y, h => by
    simp at h
    obtain ⟨v, e, r⟩ := Rs.at y h
    exact ⟨v, by simpa using e, r⟩
theorem Rs.set {v : V} {d : D} (r : Rv K F v d) : ∀ {σ : L2.St} {τ : SD} (i : Nat), Rs K F σ τ → Rs K F (σ.set i (some v)) (τ.set i (some d))
  | _, _, _, .nil => .nil
  | _, _, 0, .cons _ y => .cons (fun e h => by cases h; exact ⟨v, rfl, r⟩) y
  | _, _, i + 1, .cons x y => .cons x (Rs.set r i y)
theorem Rs.none {v : Option V} : ∀ {σ : L2.St} {τ : SD} (i : Nat), Rs K F σ τ → Rs K F (σ.set i v) (τ.set i none)
  | _, _, _, .nil => .nil
  | _, _, 0, .cons _ y => .cons (fun e h => nomatch h) y
  | _, _, i + 1, .cons x y => .cons x (Rs.none i y)
theorem Rs.forget : ∀ {σ : L2.St} {τ : SD} (i : Nat), Rs K F σ τ → Rs K F σ (τ.set i Option.none)
  | _, _, _, .nil => .nil
  | _, _, 0, .cons _ y => .cons (fun e h => nomatch h) y
  | _, _, i + 1, .cons x y => .cons x (Rs.forget i y)
theorem Rs.start {N : List Str} {vs : List V} {ds : List D} (h : Rvs K F vs ds) : Rs K F (start N vs) (ds.map some ++ List.replicate (N.length - ds.length) Option.none) := by
  have nones : ∀ n : Nat, Rs K F (List.replicate n Option.none) (List.replicate n Option.none) := by
    intro n
    induction n with
    | zero => exact .nil
    | succ n ih => exact .cons (fun e h => nomatch h) ih
  have key : ∀ {vs : List V} {ds : List D} (n : Nat), Rvs K F vs ds → Rs K F (vs.map Option.some ++ List.replicate n Option.none) (ds.map Option.some ++ List.replicate n Option.none) := by
    intro vs ds n h
    induction vs generalizing ds with
    | nil => cases h; exact nones n
    | cons v vs ih =>
      cases h with
      | cons x y => exact .cons (fun e h => by cases h; exact ⟨v, rfl, x⟩) (ih y)
  unfold L2.start
  rw [h.len]
  exact key _ h
end
def wipeD (τ : SD) : List Nat → SD
  | [] => τ
  | i :: is => (wipeD τ is).set i none
theorem Rs.wipe {K : Frg} {F : Hp} {σ : L2.St} {τ : SD} (h : Rs K F σ τ) : ∀ vs : List Nat, Rs K F (L2.wipe σ vs) (wipeD τ vs)
  | [] => h
  | i :: is => Rs.none i (Rs.wipe h is)
end RS

set_option maxRecDepth 100000
set_option maxHeartbeats 4000000
namespace RS
open PySem PySem.Spec PyProof.Rows L2 NdefX He PySem.W
variable [Tbls]
/-! ### readings over data -/
abbrev XD := Addr → List (Str × D) → MS → Prop
abbrev TD := SD → MS → (D → MS → Prop) → XD → Prop
abbrev TTD := SD → MS → (Bool → MS → Prop) → XD → Prop
abbrev TAD := SD → MS → (List D → MS → Prop) → XD → Prop
structure EndsD where
  nx : SD → MS → Prop
  rt : D → MS → Prop
  bk : SD → MS → Prop := fun _ _ => False
  ct : SD → MS → Prop := fun _ _ => False
  ex : SD → XD := fun _ _ _ _ => False
abbrev TSD := EndsD → SD → MS → Prop
abbrev XF : XD := fun _ _ _ => False
/-- an exception's fields -/
def Rx (K : Frg) (F : Hp) (a : Option Addr) (fs : List (Str × D)) : Prop := match a with
  | none => fs = []
  | some d => ∃ gs, F d = some (.xd gs) ∧ Rfs K F gs fs
theorem Rx.mono {K : Frg} {F F' : Hp} (k : L2.Same F F') {a : Option Addr} {fs : List (Str × D)} (h : Rx K F a fs) : Rx K F' a fs := by
  cases a with
  | none => exact h
  | some d => obtain ⟨gs, e, r⟩ := h; exact ⟨gs, k _ _ e, r.mono k⟩
/-! ### wishes -/
def KQ (K : Frg) (F G : Hp) (R : D → MS → Prop) (Q : VK) : Prop := ∀ d M' F' H' v, R d M' → L2.Same F F' → Rep K F' M' G H' → Rv K F' v d → Q v H'
def KB (K : Frg) (F G : Hp) (R : Bool → MS → Prop) (Q : Bool → Hp → Prop) : Prop := ∀ b M' F' H', R b M' → L2.Same F F' → Rep K F' M' G H' → Q b H'
def KA (K : Frg) (F G : Hp) (R : List D → MS → Prop) (Q : List V → Hp → Prop) : Prop := ∀ ds M' F' H' vs, R ds M' → L2.Same F F' → Rep K F' M' G H' → Rvs K F' vs ds → Q vs H'
def KN (K : Frg) (F G : Hp) (n : SD → MS → Prop) (q : L2.St → Hp → Prop) : Prop := ∀ σ' τ' M' F' H', n τ' M' → L2.Same F F' → Rep K F' M' G H' → Rs K F' σ' τ' → q σ' H'
def KX (K : Frg) (F G : Hp) (W : XD) (E : XK) : Prop := ∀ C fs M' F' H' a, W C fs M' → L2.Same F F' → Rep K F' M' G H' → Rx K F' a fs → E (.ref C) a H'
def KE (K : Frg) (F G : Hp) (x : SD → XD) (E : L2.St → XK) : Prop := ∀ σ' τ' F', L2.Same F F' → Rs K F' σ' τ' → KX K F' G (x τ') (E σ')
section
variable {K : Frg} {F F' G : Hp}
theorem KQ.le {R : D → MS → Prop} {Q : VK} (k : L2.Same F F') (h : KQ K F G R Q) : KQ K F' G R Q := fun d M' F1 H' v r s => h d M' F1 H' v r (k.trans s)
theorem KB.le {R : Bool → MS → Prop} {Q : Bool → Hp → Prop} (k : L2.Same F F') (h : KB K F G R Q) : KB K F' G R Q := fun d M' F1 H' r s => h d M' F1 H' r (k.trans s)
theorem KA.le {R : List D → MS → Prop} {Q : List V → Hp → Prop} (k : L2.Same F F') (h : KA K F G R Q) : KA K F' G R Q := fun d M' F1 H' v r s => h d M' F1 H' v r (k.trans s)
theorem KN.le {n : SD → MS → Prop} {q : L2.St → Hp → Prop} (k : L2.Same F F') (h : KN K F G n q) : KN K F' G n q := fun σ' τ' M' F1 H' r s => h σ' τ' M' F1 H' r (k.trans s)
theorem KX.le {W : XD} {E : XK} (k : L2.Same F F') (h : KX K F G W E) : KX K F' G W E := fun C fs M' F1 H' a r s => h C fs M' F1 H' a r (k.trans s)
theorem KE.le {x : SD → XD} {E : L2.St → XK} (k : L2.Same F F') (h : KE K F G x E) : KE K F' G x E := fun σ' τ' F1 s => h σ' τ' F1 (k.trans s)
theorem KE.at {x : SD → XD} {E : L2.St → XK} (h : KE K F G x E) {σ : L2.St} {τ : SD} (r : Rs K F σ τ) : KX K F G (x τ) (E σ) := h σ τ F (L2.Same.refl F) r
theorem KX.none {E : XK} : KX K F G XF E := fun _ _ _ _ _ _ h => h.elim
end
/-- all wishes of a statement -/
structure LkS (K : Frg) (F G : Hp) (N : EndsD) (D : Ends) (E : L2.St → XK) : Prop where
  nx : KN K F G N.nx D.nx
  rt : KQ K F G N.rt D.rt
  bk : KN K F G N.bk D.bk
  ct : KN K F G N.ct D.ct
  ex : KE K F G N.ex E
theorem LkS.le {K : Frg} {F F' G : Hp} {N : EndsD} {D : Ends} {E : L2.St → XK} (k : L2.Same F F') (h : LkS K F G N D E) : LkS K F' G N D E := ⟨h.nx.le k, h.rt.le k, h.bk.le k, h.ct.le k, h.ex.le k⟩
/-! ### the judgements -/
def up (K : Frg) (E : L2.St → XK) (T : TD) : TE := fun σ H Q => ∃ F M G τ R W, Rs K F σ τ ∧ Rep K F M G H ∧ T τ M R W ∧ KQ K F G R Q ∧ KX K F G W (E σ)
def upT (K : Frg) (E : L2.St → XK) (T : TTD) : TT := fun σ H Q => ∃ F M G τ R W, Rs K F σ τ ∧ Rep K F M G H ∧ T τ M R W ∧ KB K F G R Q ∧ KX K F G W (E σ)
def upA (K : Frg) (E : L2.St → XK) (T : TAD) : TA := fun σ H Q => ∃ F M G τ R W, Rs K F σ τ ∧ Rep K F M G H ∧ T τ M R W ∧ KA K F G R Q ∧ KX K F G W (E σ)
def upS (K : Frg) (E : L2.St → XK) (T : TSD) : TS := fun D σ H => ∃ F M G τ N, Rs K F σ τ ∧ Rep K F M G H ∧ T N τ M ∧ LkS K F G N D E
structure DE (X : Cx) (E : L2.St → XK) (e : Expr) (T : TD) : Prop where
  p : PE X e (up X.K E T)
structure DT (X : Cx) (E : L2.St → XK) (e : Expr) (T : TTD) : Prop where
  p : PT X e (upT X.K E T)
/-- a test whatever its whole is -/
structure DW (X : Cx) (E : L2.St → XK) (e : Expr) (T : TTD) : Prop where
  p : PW X e (upT X.K E T)
structure DAs (X : Cx) (E : L2.St → XK) (es : List Expr) (T : TAD) : Prop where
  p : PA X es (upA X.K E T)
structure DS (X : Cx) (E : L2.St → XK) (st : Stmt) (T : TSD) : Prop where
  p : PS X st (upS X.K E T)
structure DSs (X : Cx) (E : L2.St → XK) (st : List Stmt) (T : TSD) : Prop where
  p : PSs X st (upS X.K E T)
theorem _root_.L2.PE.imp {X : Cx} {e : Expr} {t t' : TE} (h : PE X e t) (i : ∀ σ H Q, t' σ H Q → t σ H Q) : PE X e t' := ⟨fun pins s σ H Q I q => h.run pins s σ H Q I (i _ _ _ q)⟩
theorem _root_.L2.PT.imp {X : Cx} {e : Expr} {t t' : TT} (h : PT X e t) (i : ∀ σ H Q, t' σ H Q → t σ H Q) : PT X e t' := ⟨fun pins s σ H Q I q => h.run pins s σ H Q I (i _ _ _ q)⟩
theorem _root_.L2.PW.imp {X : Cx} {e : Expr} {t t' : TT} (h : PW X e t) (i : ∀ σ H Q, t' σ H Q → t σ H Q) : PW X e t' := ⟨fun wh pins s σ H Q I q => h.run wh pins s σ H Q I (i _ _ _ q)⟩
theorem _root_.L2.PA.imp {X : Cx} {e : List Expr} {t t' : TA} (h : PA X e t) (i : ∀ σ H Q, t' σ H Q → t σ H Q) : PA X e t' := ⟨fun pos pins s σ H Q I q => h.run pos pins s σ H Q I (i _ _ _ q)⟩
theorem _root_.L2.PS.imp {X : Cx} {e : Stmt} {t t' : TS} (h : PS X e t) (i : ∀ D σ H, t' D σ H → t D σ H) : PS X e t' := ⟨fun pins s σ H D I q => h.run pins s σ H D I (i _ _ _ q)⟩
theorem _root_.L2.PSs.imp {X : Cx} {e : List Stmt} {t t' : TS} (h : PSs X e t) (i : ∀ D σ H, t' D σ H → t D σ H) : PSs X e t' := ⟨fun pins s σ H D I q => h.run pins s σ H D I (i _ _ _ q)⟩
/-! ### names and constants -/
section
variable {X : Cx} {E : L2.St → XK} {pos : Pos}
def dVar (i : Nat) : TD := fun τ M R _ => match τ[i]? with
  | some (some d) => R d M
  | _ => False
theorem de_v (i : Nat) {x : Str} (hN : X.N[i]? = some x := by rfl) (hv : Vis X.env.scope x := by first | exact Or.inl rfl | exact Or.inr (Or.inl rfl) | exact Or.inr (Or.inr rfl)) (hd : (x == ("__debug__" : Str)) = false := by decide)
    (hcd : (x == ("__classdict__" : Str)) = false := by decide) : DE X E (.Name x pos) (dVar i) := by
  refine ⟨(pe_var hN hv hd hcd).imp fun σ H Q ⟨F, M, G, τ, R, W, rs, rep, h, k, kx⟩ => ?_⟩
  unfold dVar at h
  split at h
  · rename_i d e
    obtain ⟨v, ev, r⟩ := rs.at e
    exact ⟨v, ev, k d M F H v h (L2.Same.refl F) rep r⟩
  · exact h.elim
/-- a name whose object is frozen -/
def dVarF (i : Nat) : TD := fun τ M R _ => match τ[i]? with
  | some (some (.ref a)) => (match M a with
    | some m => R m.d (delM M a)
    | none => R (.ref a) M)
  | some (some d) => R d M
  | _ => False
theorem de_f (i : Nat) {x : Str} (hN : X.N[i]? = some x := by rfl) (hv : Vis X.env.scope x := by first | exact Or.inl rfl | exact Or.inr (Or.inl rfl) | exact Or.inr (Or.inr rfl)) (hd : (x == ("__debug__" : Str)) = false := by decide)
    (hcd : (x == ("__classdict__" : Str)) = false := by decide) : DE X E (.Name x pos) (dVarF i) := by
  refine ⟨(pe_var hN hv hd hcd).imp fun σ H Q ⟨F, M, G, τ, R, W, rs, rep, h, k, kx⟩ => ?_⟩
  unfold dVarF at h
  split at h
  · rename_i a e
    obtain ⟨v, ev, r⟩ := rs.at e
    split at h
    · rename_i m em
      cases r
      obtain ⟨F', s, rep', r'⟩ := rep.frz em
      exact ⟨_, ev, k _ _ F' H _ h s rep' r'⟩
    · exact ⟨v, ev, k _ M F H v h (L2.Same.refl F) rep r⟩
  · rename_i d _ e
    obtain ⟨v, ev, r⟩ := rs.at e
    exact ⟨v, ev, k d M F H v h (L2.Same.refl F) rep r⟩
  · exact h.elim
def dC (d : D) : TD := fun _ M R _ => R d M
theorem de_c {e : Expr} {v : V} {d : D} (h : PE X e (tC v)) (r : ∀ F, Rv X.K F v d) : DE X E e (dC d) :=
  ⟨h.imp fun σ H Q ⟨F, M, G, τ, R, W, rs, rep, h, k, kx⟩ => k d M F H v h (L2.Same.refl F) rep (r F)⟩
theorem de_int {i j} : DE X E (.Constant (.int i) j pos) (dC (.int i)) := de_c pe_int fun _ => .int i
theorem de_bl {i j} : DE X E (.Constant (.bool i) j pos) (dC (.bl i)) := de_c pe_bl fun _ => .bl i
theorem de_non {j} : DE X E (.Constant .none j pos) (dC .non) := de_c pe_non fun _ => .non
theorem de_str {i j} : DE X E (.Constant (.str i) j pos) (dC (.str i)) := de_c pe_str fun _ => .str i
/-- a class, a def of the module -/
theorem de_cls {x : Str} {C : Addr} (hm : X.mg x = some (.ref C)) (hg : Gl X x := by rfl) (hd : (x == ("__debug__" : Str)) = false := by decide) : DE X E (.Name x pos) (dC (.ref C)) := de_c (pe_glob (v := .ref C) hg hm rfl hd) fun _ => .ref C
/-- a constant of the module -/
theorem de_con {x : Str} {v : V} {u : Value} {d : D} (hm : X.mg x = some u) (r : RelV v u) (rd : ∀ F, Rv X.K F v d) (hg : Gl X x := by rfl) (hd : (x == ("__debug__" : Str)) = false := by decide) : DE X E (.Name x pos) (dC d) := de_c (pe_glob hg hm r hd) rd
/-- int, str, .. as a value -/
theorem de_ty {x : Str} {n : BT} (hm : X.mg x = none) (hv : bootBuiltins x = some (.type n.name)) (hg : Gl X x := by rfl) (hn : x ≠ "__name__" := by decide) (hd : (x == ("__debug__" : Str)) = false := by decide) : DE X E (.Name x pos) (dC (.ty n)) :=
  de_c (pe_bltn (v := .ty n.name) hg hm hv rfl hn hd) fun _ => .ty n
/-! ### arguments -/
def dNil : TAD := fun _ M R _ => R [] M
def dCons (T : TD) (U : TAD) : TAD := fun τ M R W => T τ M (fun d M1 => U τ M1 (fun ds M2 => R (d :: ds) M2) W) W
theorem da_nil : DAs X E [] dNil := ⟨(pa_nil).imp fun σ H Q ⟨F, M, G, τ, R, W, rs, rep, h, k, kx⟩ => k [] M F H [] h (L2.Same.refl F) rep .nil⟩
theorem da_cons {e : Expr} {es : List Expr} {T : TD} {U : TAD} (h1 : DE X E e T) (h2 : DAs X E es U) (hs : starEach (e :: es) X.env = (false, eval e X.env) :: starEach es X.env := by rfl) : DAs X E (e :: es) (dCons T U) := by
  refine ⟨(pa_cons h1.p h2.p hs).imp fun σ H Q ⟨F, M, G, τ, R, W, rs, rep, h, k, kx⟩ => ?_⟩
  refine ⟨F, M, G, τ, _, W, rs, rep, h, fun d M1 F1 H1 v q s1 rep1 r1 => ?_, kx⟩
  refine ⟨F1, M1, G, τ, _, W, rs.mono s1, rep1, q, fun ds M2 F2 H2 vs q2 s2 rep2 r2 => ?_, kx.le s1⟩
  exact k _ M2 F2 H2 _ q2 (s1.trans s2) rep2 (.cons (r1.mono s2) r2)
/-! ### operators -/
/-- an operator's answer over data -/
def RO (K : Frg) (r : R2) (f : D → D → MS → (D → MS → Prop) → XD → Prop) : Prop := ∀ F M G H x y v u R W Q, Rv K F v x → Rv K F u y → Rep K F M G H → f x y M R W → KQ K F G R Q → r v u H Q
def dBin (f : D → D → MS → (D → MS → Prop) → XD → Prop) (Ta Tb : TD) : TD := fun τ M R W => Ta τ M (fun x M1 => Tb τ M1 (fun y M2 => f x y M2 R W) W) W
theorem up_bin {a b : Expr} {Ta Tb : TD} {r : R2} {f : D → D → MS → (D → MS → Prop) → XD → Prop} (hf : RO X.K r f) {σ : L2.St} {H : Hp} {Q : VK} (h : up X.K E (dBin f Ta Tb) σ H Q) : tOp r (up X.K E Ta) (up X.K E Tb) σ H Q := by
  obtain ⟨F, M, G, τ, R, W, rs, rep, h, k, kx⟩ := h
  refine ⟨F, M, G, τ, _, W, rs, rep, h, fun d M1 F1 H1 v q s1 rep1 r1 => ?_, kx⟩
  refine ⟨F1, M1, G, τ, _, W, rs.mono s1, rep1, q, fun e M2 F2 H2 u q2 s2 rep2 r2 => ?_, kx.le s1⟩
  exact hf F2 M2 G H2 d e v u R W Q (r1.mono s2) r2 rep2 q2 (k.le (s1.trans s2))
theorem de_op {a b : Expr} {Ta Tb : TD} {op : Operator} {r : R2} {f : D → D → MS → (D → MS → Prop) → XD → Prop} (ho : OpR X (binaryOp op) r) (hf : RO X.K r f) (ha : DE X E a Ta) (hb : DE X E b Tb) : DE X E (.BinOp a op b pos) (dBin f Ta Tb) :=
  ⟨(pe_op ho ha.p hb.p).imp fun σ H Q h => up_bin (a := a) (b := b) hf h⟩
theorem de_cmp {a b : Expr} {Ta Tb : TD} {op : CmpOp} {r : R2} {f : D → D → MS → (D → MS → Prop) → XD → Prop} (ho : OpR X (compareOp op) r) (hf : RO X.K r f) (ha : DE X E a Ta) (hb : DE X E b Tb) (hm : behindInMarks op b = false) : DE X E (.Compare a [op] [b] pos) (dBin f Ta Tb) :=
  ⟨(pe_cmpR ho ha.p hb.p hm).imp fun σ H Q h => up_bin (a := a) (b := b) hf h⟩
/-- a value that is a bool, as a test -/
def dTB (T : TD) : TTD := fun τ M R W => T τ M (fun d M1 => match d with
  | .bl b => R b M1
  | _ => False) W
theorem dt_cmp {a b : Expr} {Ta Tb : TD} {op : CmpOp} {r : R2} {f : D → D → MS → (D → MS → Prop) → XD → Prop} (ho : OpR X (compareOp op) r) (hf : RO X.K r f) (ha : DE X E a Ta) (hb : DE X E b Tb) (hm : behindInMarks op b = false) : DT X E (.Compare a [op] [b] pos) (dTB (dBin f Ta Tb)) := by
  refine ⟨(pt_cmpR ho ha.p hb.p hm).imp fun σ H Q h => ?_⟩
  obtain ⟨F, M, G, τ, R, W, rs, rep, h, k, kx⟩ := h
  refine up_bin (a := a) (b := b) hf ⟨F, M, G, τ, _, W, rs, rep, h, fun d M1 F1 H1 v q s1 rep1 r1 => ?_, kx⟩
  cases d <;> try exact q.elim
  cases r1
  exact ⟨_, rfl, k _ M1 F1 H1 q s1 rep1⟩
/-- any expression that is a bool, as a test -/
theorem dt_val {e : Expr} {T : TD} (h : DE X E e T) (he : ∀ whole, isTrue e X.env whole = (do let v ← whole; standAt e.pos; holding [v] (truthy v)) := by intro _; rfl) : DT X E e (dTB T) := by
  refine ⟨(pt_val h.p he).imp fun σ H Q h => ?_⟩
  obtain ⟨F, M, G, τ, R, W, rs, rep, h, k, kx⟩ := h
  refine ⟨F, M, G, τ, _, W, rs, rep, h, fun d M1 F1 H1 v q s1 rep1 r1 => ?_, kx⟩
  cases d <;> try exact q.elim
  cases r1
  exact ⟨_, rfl, k _ M1 F1 H1 q s1 rep1⟩
/-- the truth of data -/
def dTru (M : MS) : D → (Bool → Prop) → Prop
  | .non, q => q false
  | .bl b, q => q b
  | .int i, q => q (i != 0)
  | .str x, q => x.length ≤ sizeLine ∧ q ((x.length : Int) != 0)
  | .tup xs, q => q (!xs.isEmpty)
  | .lst xs, q => q (!xs.isEmpty)
  | .dct ks, q => q (!ks.isEmpty)
  | .ref a, q => match M a with
    | some (.lst xs) => q (!xs.isEmpty)
    | some (.dct ks) => q (!ks.isEmpty)
    | _ => False
  | _, _ => False
def dTr (T : TD) : TTD := fun τ M R W => T τ M (fun d M1 => dTru M1 d (fun b => R b M1)) W
end
/-! ### tests -/
structure dIte (b : Bool) (p q : Prop) : Prop where
  t : b = true → p
  f : b = false → q
theorem dIte_t {p q : Prop} (h : p) : dIte true p q := ⟨fun _ => h, fun z => nomatch z⟩
theorem dIte_f {p q : Prop} (h : q) : dIte false p q := ⟨fun z => (nomatch z), fun _ => h⟩
theorem dIte_no {b : Bool} {p q : Prop} (h : b = true → False) (k : q) : dIte b p q := ⟨fun z => (h z).elim, fun _ => k⟩
theorem dIte_yes {b : Bool} {p q : Prop} (h : b = true) (k : p) : dIte b p q := ⟨fun _ => k, fun z => (by rw [h] at z; cases z)⟩
theorem dIte_d {c p q : Prop} [Decidable c] (h1 : c → p) (h2 : ¬ c → q) : dIte (decide c) p q := ⟨fun z => h1 (of_decide_eq_true z), fun z => h2 (of_decide_eq_false z)⟩
theorem dIte_nd {c p q : Prop} [Decidable c] (h1 : ¬ c → p) (h2 : c → q) : dIte (!decide c) p q := ⟨fun z => h1 (by simpa using z), fun z => h2 (by simpa using z)⟩
theorem dIte_T {c p q : Prop} [Decidable c] (hc : c) (h : p) : dIte (decide c) p q := ⟨fun _ => h, fun z => absurd hc (of_decide_eq_false z)⟩
theorem dIte_F {c p q : Prop} [Decidable c] (hc : ¬ c) (h : q) : dIte (decide c) p q := ⟨fun z => absurd (of_decide_eq_true z) hc, fun _ => h⟩
theorem dIte_nT {c p q : Prop} [Decidable c] (hc : ¬ c) (h : p) : dIte (!decide c) p q := ⟨fun _ => h, fun z => absurd (by simpa using z) hc⟩
theorem dIte_nF {c p q : Prop} [Decidable c] (hc : c) (h : q) : dIte (!decide c) p q := ⟨fun z => absurd hc (by simpa using z), fun _ => h⟩
theorem dIte_at {b c : Bool} {p q : Prop} (e : b = c) (h : if c then p else q) : dIte b p q := by
  subst e
  cases b with
  | true => exact dIte_t (by simpa using h)
  | false => exact dIte_f (by simpa using h)
theorem dIte.ite {b : Bool} {p q : Prop} (h : dIte b p q) : if b = true then p else q := by
  cases b with
  | true => exact iteT (h.1 rfl)
  | false => exact iteF (h.2 rfl)
section
variable {X : Cx} {E : L2.St → XK} {pos : Pos} {a b c : Expr} {rest : List Expr} {A B : TTD} {Ta Tb : TD}
def dAnd (A B : TTD) : TTD := fun τ M R W => A τ M (fun b M1 => dIte b (B τ M1 R W) (R false M1)) W
def dOr (A B : TTD) : TTD := fun τ M R W => A τ M (fun b M1 => dIte b (R true M1) (B τ M1 R W)) W
def dNot (A : TTD) : TTD := fun τ M R W => A τ M (fun b M1 => R (!b) M1) W
theorem DW.t (h : DW X E a A) : DT X E a A := ⟨h.p.pt⟩
theorem dw_and1 (h : DT X E a A) : DW X E (.BoolOp .And [a] pos) A := ⟨pw_and1 h.p⟩
theorem dw_or1 (h : DT X E a A) : DW X E (.BoolOp .Or [a] pos) A := ⟨pw_or1 h.p⟩
theorem dw_and (ha : DT X E a A) (hb : DW X E (.BoolOp .And (b :: rest) pos) B) : DW X E (.BoolOp .And (a :: b :: rest) pos) (dAnd A B) := by
  refine ⟨(pw_and ha.p hb.p).imp fun σ H Q ⟨F, M, G, τ, R, W, rs, rep, h, k, kx⟩ => ?_⟩
  refine ⟨F, M, G, τ, _, W, rs, rep, h, fun d M1 F1 H1 q s1 rep1 => ?_, kx⟩
  cases d with
  | true => exact iteT ⟨F1, M1, G, τ, R, W, rs.mono s1, rep1, q.1 rfl, k.le s1, kx.le s1⟩
  | false => exact iteF (k false M1 F1 H1 (q.2 rfl) s1 rep1)
theorem dw_or (ha : DT X E a A) (hb : DW X E (.BoolOp .Or (b :: rest) pos) B) : DW X E (.BoolOp .Or (a :: b :: rest) pos) (dOr A B) := by
  refine ⟨(pw_or ha.p hb.p).imp fun σ H Q ⟨F, M, G, τ, R, W, rs, rep, h, k, kx⟩ => ?_⟩
  refine ⟨F, M, G, τ, _, W, rs, rep, h, fun d M1 F1 H1 q s1 rep1 => ?_, kx⟩
  cases d with
  | true => exact iteT (k true M1 F1 H1 (q.1 rfl) s1 rep1)
  | false => exact iteF ⟨F1, M1, G, τ, R, W, rs.mono s1, rep1, q.2 rfl, k.le s1, kx.le s1⟩
theorem dt_not (ha : DT X E a A) : DT X E (.UnaryOp .Not a pos) (dNot A) := by
  refine ⟨(pt_not ha.p).imp fun σ H Q ⟨F, M, G, τ, R, W, rs, rep, h, k, kx⟩ => ?_⟩
  exact ⟨F, M, G, τ, _, W, rs, rep, h, fun d M1 F1 H1 q s1 rep1 => k (!d) M1 F1 H1 q s1 rep1, kx⟩
theorem dt_tru (ha : DE X E a Ta) (he : ∀ whole, isTrue a X.env whole = (do let v ← whole; standAt a.pos; holding [v] (truthy v)) := by intro _; rfl) : DT X E a (dTr Ta) := by
  refine ⟨(pt_truth ha.p he).imp fun σ H Q ⟨F, M, G, τ, R, W, rs, rep, h, k, kx⟩ => ?_⟩
  refine ⟨F, M, G, τ, _, W, rs, rep, h, fun d M1 F1 H1 v q s1 rep1 r1 => ?_, kx⟩
  unfold dTru at q
  cases r1 with
  | non => exact ⟨_, rfl, k _ M1 F1 H1 q s1 rep1⟩
  | bl b => exact ⟨_, rfl, k _ M1 F1 H1 q s1 rep1⟩
  | int i => exact ⟨_, rfl, k _ M1 F1 H1 q s1 rep1⟩
  | str x => exact ⟨_, ⟨q.1, rfl⟩, k _ M1 F1 H1 q.2 s1 rep1⟩
  | ty n => exact q.elim
  | tup e r =>
    refine ⟨_, .inr (.inl ⟨_, Same.sqT rep1.fz e, rfl⟩), ?_⟩
    rw [r.empty]
    exact k _ M1 F1 H1 q s1 rep1
  | lst e r =>
    refine ⟨_, .inl ⟨_, SqL.of (rep1.fz _ _ e), rfl⟩, ?_⟩
    rw [r.empty]
    exact k _ M1 F1 H1 q s1 rep1
  | dct e r =>
    refine ⟨_, .inr (.inr ⟨_, rep1.fz _ _ e, rfl⟩), ?_⟩
    rw [r.empty]
    exact k _ M1 F1 H1 q s1 rep1
  | ins e r => exact q.elim
  | exc0 a => exact q.elim
  | exc1 e r => exact q.elim
  | scr e => exact q.elim
  | ref a =>
    dsimp only at q
    split at q
    · rename_i xs em
      obtain ⟨vs, hv, r⟩ := rep1.lst em
      refine ⟨_, .inl ⟨_, SqL.of hv, rfl⟩, ?_⟩
      rw [r.empty]
      exact k _ M1 F1 H1 q s1 rep1
    · rename_i ks em
      obtain ⟨vs, hv, r⟩ := rep1.dct em
      refine ⟨_, .inr (.inr ⟨_, hv, rfl⟩), ?_⟩
      rw [r.empty]
      exact k _ M1 F1 H1 q s1 rep1
    · exact q.elim
end
end RS

set_option maxRecDepth 100000
set_option maxHeartbeats 4000000
namespace RS
open PySem PySem.Spec PyProof.Rows L2 NdefX He PySem.W
/-! ### plain data and its == -/
mutual
def D.py : D → PyData
  | .non => .none
  | .bl b => .bool b
  | .int i => .int i
  | .str x => .str x
  | .tup xs => .tuple (D.pys xs)
  | .lst xs => .list (D.pys xs)
  | .ty _ => .none
  | .ref _ => .none
  | .dct _ => .none
  | .ins _ _ => .none
  | .exc _ _ _ _ => .none
  | .scr _ => .none
def D.pys : List D → List PyData
  | [] => []
  | x :: xs => D.py x :: D.pys xs
end
def PD : Nat → D → Prop
  | _, .non => True
  | _, .bl _ => True
  | _, .int _ => True
  | _, .str _ => True
  | n + 1, .tup xs => ∀ x ∈ xs, PD n x
  | n + 1, .lst xs => ∀ x ∈ xs, PD n x
  | _, _ => False
theorem D.pys_map : ∀ xs : List D, D.pys xs = xs.map D.py
  | [] => rfl
  | x :: xs => by rw [D.pys, D.pys_map xs]; rfl
section
variable {K : Frg} {F H : Hp}
theorem rv_dp (s : L2.Same F H) : ∀ (n : Nat) {v : V} {d : D}, PD n d → Rv K F v d → Dp K H v d.py ∧ d.py.plain = true ∧ d.py.depth ≤ n := by
  intro n
  induction n with
  | zero =>
    intro v d p r
    cases r <;> first
      | exact p.elim
      | exact ⟨.non, rfl, Nat.le_refl _⟩
      | exact ⟨.bl _, rfl, Nat.le_refl _⟩
      | exact ⟨.int _, rfl, Nat.le_refl _⟩
      | exact ⟨.str _, rfl, Nat.le_refl _⟩
  | succ n ih =>
    have all : ∀ {vs : List V} {ds : List D}, (∀ x ∈ ds, PD n x) → Rvs K F vs ds → DpAll K H vs (D.pys ds) ∧ PyData.plainAll (D.pys ds) = true ∧ PyData.depthAll (D.pys ds) ≤ n := by
      intro vs ds
      induction ds generalizing vs with
      | nil => intro _ r; cases r; exact ⟨.nil, rfl, Nat.zero_le _⟩
      | cons d ds ihd =>
        intro p r
        cases r with
        | cons x y =>
          obtain ⟨a1, a2, a3⟩ := ih (p d (List.mem_cons_self ..)) x
          obtain ⟨b1, b2, b3⟩ := ihd (fun x hx => p x (List.mem_cons_of_mem _ hx)) y
          refine ⟨.cons a1 b1, ?_, ?_⟩
          · rw [D.pys, PyData.plainAll, a2, b2]; rfl
          · rw [D.pys, PyData.depthAll]; exact Nat.max_le.mpr ⟨a3, b3⟩
    intro v d p r
    cases r with
    | non => exact ⟨.non, rfl, Nat.zero_le _⟩
    | bl b => exact ⟨.bl _, rfl, Nat.zero_le _⟩
    | int i => exact ⟨.int _, rfl, Nat.zero_le _⟩
    | str x => exact ⟨.str _, rfl, Nat.zero_le _⟩
    | ty => exact p.elim
    | ref => exact p.elim
    | dct _ _ => exact p.elim
    | ins _ _ _ => exact p.elim
    | exc0 _ => exact p.elim
    | exc1 _ _ => exact p.elim
    | scr _ => exact p.elim
    | tup e r =>
      obtain ⟨b1, b2, b3⟩ := all p r
      refine ⟨.tup (Same.sqT s e) b1, ?_, ?_⟩
      · rw [D.py, PyData.plain]; exact b2
      · rw [D.py, PyData.depth]; exact Nat.succ_le_succ b3
    | lst e r =>
      obtain ⟨b1, b2, b3⟩ := all p r
      refine ⟨.lst (SqL.of (s _ _ e)) b1, ?_, ?_⟩
      · rw [D.py, PyData.plain]; exact b2
      · rw [D.py, PyData.depth]; exact Nat.succ_le_succ b3
end
/-- == of data -/
def dEqB : D → D → Bool
  | .int i, .int j => decide (i = j)
  | .str i, .str j => decide (i = j)
  | .bl i, .bl j => decide (i = j)
  | .non, .non => true
  | x, y => PyData.eqv x.py y.py
theorem dEqB_eq (x y : D) : dEqB x y = PyData.eqv x.py y.py := by
  unfold dEqB
  split
  · simp only [D.py]; exact (Datum.eqv (α := Int) _ _).symm
  · simp only [D.py]; exact (Datum.eqv (α := Str) _ _).symm
  · simp only [D.py]; exact (Datum.eqv (α := Bool) _ _).symm
  · simp only [D.py]; exact (Datum.eqv (α := Unit) () ()).symm
  · rfl
/-- data with a Lean type -/
class Dt (α : Type) [DecidableEq α] extends Datum α where
  d : α → D
  dpy : ∀ a, (d a).py = toDatum.toD a
  pd : ∀ a, PD toDatum.depth (d a)
theorem PD.up : ∀ {n m : Nat} {d : D}, n ≤ m → PD n d → PD m d := by
  intro n
  induction n with
  | zero =>
    intro m d _ p
    cases d <;> first | exact p.elim | (cases m <;> trivial)
  | succ n ih =>
    intro m d h p
    obtain ⟨m, rfl⟩ : ∃ k, m = k + 1 := ⟨m - 1, by omega⟩
    cases d <;> first | exact p.elim | trivial | (exact fun x hx => ih (by omega) (p x hx))
theorem dEqB_d {α : Type} [DecidableEq α] [Dt α] (a b : α) : dEqB (Dt.d a) (Dt.d b) = decide (a = b) := by
  rw [dEqB_eq, Dt.dpy, Dt.dpy, Datum.eqv]
instance : Dt Int where
  d := .int
  dpy _ := rfl
  pd _ := trivial
instance : Dt Bool where
  d := .bl
  dpy _ := rfl
  pd _ := trivial
instance : Dt Str where
  d := .str
  dpy _ := rfl
  pd _ := trivial
section
variable {α β : Type} [DecidableEq α] [Dt α] [DecidableEq β] [Dt β]
theorem pys_map (xs : List α) : D.pys (xs.map Dt.d) = xs.map Datum.toD := by
  rw [D.pys_map, List.map_map]
  exact List.map_congr_left fun a _ => Dt.dpy a
instance : Dt (List α) where
  d xs := .lst (xs.map Dt.d)
  dpy xs := by rw [D.py, pys_map]; rfl
  pd xs := fun x hx => by
    obtain ⟨a, _, rfl⟩ := List.mem_map.mp hx
    exact Dt.pd a
instance : Dt (Tup α) where
  d xs := .tup (xs.items.map Dt.d)
  dpy xs := by rw [D.py, pys_map]; rfl
  pd xs := fun x hx => by
    obtain ⟨a, _, rfl⟩ := List.mem_map.mp hx
    exact Dt.pd a
instance : Dt (α × β) where
  d p := .tup [Dt.d p.1, Dt.d p.2]
  dpy p := by
    rw [D.py, D.pys, D.pys, D.pys, Dt.dpy, Dt.dpy]
    rfl
  pd p := fun x hx => by
    rcases List.mem_cons.mp hx with rfl | hx
    · exact (Dt.pd p.1).up (by first | exact Nat.le_max_left _ _ | (show _ ≤ max _ _; exact Nat.le_max_left _ _))
    · rw [List.mem_singleton] at hx
      subst hx
      exact (Dt.pd p.2).up (by first | exact Nat.le_max_right _ _ | (show _ ≤ max _ _; exact Nat.le_max_right _ _))
end
section
variable {X : Cx}
def rEqP (K : Frg) (neg : Bool) : R2 := fun x y H Q => ∃ d e, Dp K H x d ∧ Dp K H y e ∧ d.plain = true ∧ e.plain = true ∧ d.depth ≤ 64 ∧ Q (.bl (if neg then !PyData.eqv d e else PyData.eqv d e)) H
theorem op_eqP (hu : X.A.units + 64 < cLine) : OpR X (compareOp .Eq) (rEqP X.K false) := by
  intro pins s σ H x y v u Q I rx ry h
  obtain ⟨d, e, hd, he, pd, pe, dp, q⟩ := h
  obtain ⟨as, r1⟩ := Dp.reads I _ x v hd rx
  obtain ⟨bs, r2⟩ := Dp.reads I _ y u he ry
  exact SeqAt.eq_plain r1 r2 pd pe (by omega) ⟨.bl _, H, I, rfl, q⟩
theorem op_neP (hu : X.A.units + 64 < cLine) : OpR X (compareOp .NotEq) (rEqP X.K true) := by
  intro pins s σ H x y v u Q I rx ry h
  obtain ⟨d, e, hd, he, pd, pe, dp, q⟩ := h
  obtain ⟨as, r1⟩ := Dp.reads I _ x v hd rx
  obtain ⟨bs, r2⟩ := Dp.reads I _ y u he ry
  exact SeqAt.ne_plain r1 r2 pd pe (by omega) ⟨.bl (!PyData.eqv d e), H, I, rfl, q⟩
end
/-- what a list that may change, or a frozen one, holds -/
def vw (M : MS) : D → D
  | .ref a => match M a with
    | some m => m.d
    | none => .ref a
  | d => d
variable [Tbls]
theorem rv_vw {K : Frg} {F : Hp} {M : MS} {G H : Hp} {v : V} {d : D} (R : Rep K F M G H) (r : Rv K F v d) : ∃ F', L2.Same F F' ∧ L2.Same F' H ∧ Rv K F' v (vw M d) := by
  unfold vw
  split
  · rename_i a
    split
    · rename_i m e
      obtain ⟨F', s, R', r'⟩ := R.frz e
      cases r
      exact ⟨F', s, R'.fz, r'⟩
    · exact ⟨F, L2.Same.refl F, R.fz, r⟩
  · exact ⟨F, L2.Same.refl F, R.fz, r⟩
section
variable {K : Frg} {F : Hp} {M : MS} {G H : Hp} {v : V} {d : D}
theorem vw_lst (R : Rep K F M G H) (r : Rv K F v d) {ds : List D} (e : vw M d = .lst ds) : ∃ a vs, v = .ref a ∧ H a = some (.lst vs) ∧ Rvs K F vs ds := by
  unfold vw at e
  split at e
  · rename_i a
    cases r
    split at e
    · rename_i m em
      cases m with
      | lst _ =>
        cases e
        obtain ⟨vs, h1, h2⟩ := R.lst em
        exact ⟨a, vs, rfl, h1, h2⟩
      | dct _ => cases e
      | ins _ _ => cases e
    · cases e
  · subst e
    cases r with
    | lst h1 h2 => exact ⟨_, _, rfl, R.fz _ _ h1, h2⟩
theorem vw_tup (R : Rep K F M G H) (r : Rv K F v d) {ds : List D} (e : vw M d = .tup ds) : ∃ a vs, v = .ref a ∧ SqT K F a vs ∧ Rvs K F vs ds := by
  unfold vw at e
  split at e
  · rename_i a
    cases r
    split at e
    · rename_i m em
      cases m <;> exact nomatch e
    · cases e
  · subst e
    cases r with
    | tup h1 h2 => exact ⟨_, _, rfl, h1, h2⟩
theorem vw_dct (R : Rep K F M G H) (r : Rv K F v d) {ks : List (Key × D)} (e : vw M d = .dct ks) : ∃ a kvs, v = .ref a ∧ H a = some (.dK kvs) ∧ Rks K F kvs ks := by
  unfold vw at e
  split at e
  · rename_i a
    cases r
    split at e
    · rename_i m em
      cases m with
      | lst _ => cases e
      | dct _ =>
        cases e
        obtain ⟨vs, h1, h2⟩ := R.dct em
        exact ⟨a, vs, rfl, h1, h2⟩
      | ins _ _ => cases e
    · cases e
  · subst e
    cases r with
    | dct h1 h2 => exact ⟨_, _, rfl, R.fz _ _ h1, h2⟩
theorem vw_ins (R : Rep K F M G H) (r : Rv K F v d) {C : Addr} {gs : List (Str × D)} (e : vw M d = .ins C gs) : ∃ a dx fs, v = .ref a ∧ H a = some (.ins C dx fs) ∧ Rfs K F fs gs ∧ (gs.map (·.1)).Nodup := by
  unfold vw at e
  split at e
  · rename_i a
    cases r
    split at e
    · rename_i m em
      cases m with
      | lst _ => cases e
      | dct _ => cases e
      | ins _ _ =>
        cases e
        obtain ⟨dx, fs, h1, h2, h3⟩ := R.ins em
        exact ⟨a, dx, fs, rfl, h1, h2, h3⟩
    · cases e
  · subst e
    cases r with
    | ins h1 h2 h3 => exact ⟨_, _, _, rfl, R.fz _ _ h1, h2, h3⟩
theorem vw_int (r : Rv K F v d) {i : Int} (e : vw M d = .int i) : v = .int i := by
  unfold vw at e
  split at e
  · split at e
    · rename_i m em
      cases m <;> exact nomatch e
    · cases e
  · subst e; cases r; rfl
theorem vw_str (r : Rv K F v d) {i : Str} (e : vw M d = .str i) : v = .str i := by
  unfold vw at e
  split at e
  · split at e
    · rename_i m em
      cases m <;> exact nomatch e
    · cases e
  · subst e; cases r; rfl
end
def dEq (neg : Bool) (x y : D) (M : MS) (R : D → MS → Prop) (_ : XD) : Prop := PD 64 (vw M x) ∧ PD 64 (vw M y) ∧ R (.bl (if neg then !dEqB (vw M x) (vw M y) else dEqB (vw M x) (vw M y))) M
theorem ro_eq {K : Frg} (neg : Bool) : RO K (rEqP K neg) (dEq neg) := fun F M G H x y v u R W Q rx ry rep h k => by
  obtain ⟨p1, p2, h⟩ := h
  obtain ⟨F1, _, s1, r1⟩ := rv_vw rep rx
  obtain ⟨F2, _, s2, r2⟩ := rv_vw rep ry
  obtain ⟨a1, a2, a3⟩ := rv_dp s1 64 p1 r1
  obtain ⟨b1, b2, b3⟩ := rv_dp s2 64 p2 r2
  refine ⟨_, _, a1, b1, a2, b2, a3, ?_⟩
  rw [dEqB_eq] at h
  exact k _ M F H _ h (L2.Same.refl F) rep (.bl _)
/-! ### numbers -/
def dII (f : Int → Int → D) (C : Int → Int → Prop) (x y : D) (M : MS) (R : D → MS → Prop) (_ : XD) : Prop := match x, y with
  | .int i, .int j => C i j ∧ R (f i j) M
  | _, _ => False
def dI0 (f : Int → Int → D) (x y : D) (M : MS) (R : D → MS → Prop) (_ : XD) : Prop := match x, y with
  | .int i, .int j => R (f i j) M
  | _, _ => False
theorem ro_ii {K : Frg} {C : Int → Int → Prop} {f : Int → Int → Int} : RO K (rI C fun i j => .int (f i j)) (dII (fun i j => .int (f i j)) C) := fun F M G H x y v u R W Q rx ry rep h k => by
  unfold dII at h
  split at h
  · cases rx; cases ry
    exact ⟨_, _, rfl, rfl, h.1, k _ M F H _ h.2 (L2.Same.refl F) rep (.int _)⟩
  · exact h.elim
theorem ro_i0 {K : Frg} {f : Int → Int → Int} : RO K (rI0 fun i j => .int (f i j)) (dI0 fun i j => .int (f i j)) := fun F M G H x y v u R W Q rx ry rep h k => by
  unfold dI0 at h
  split at h
  · cases rx; cases ry
    exact ⟨_, _, rfl, rfl, k _ M F H _ h (L2.Same.refl F) rep (.int _)⟩
  · exact h.elim
theorem ro_b0 {K : Frg} {f : Int → Int → Bool} : RO K (rI0 fun i j => .bl (f i j)) (dI0 fun i j => .bl (f i j)) := fun F M G H x y v u R W Q rx ry rep h k => by
  unfold dI0 at h
  split at h
  · cases rx; cases ry
    exact ⟨_, _, rfl, rfl, k _ M F H _ h (L2.Same.refl F) rep (.bl _)⟩
  · exact h.elim
theorem RO.or {K : Frg} {r r' : R2} {f g : D → D → MS → (D → MS → Prop) → XD → Prop} (h : RO K r f) (h' : RO K r' g) : RO K (fun x y H Q => r x y H Q ∨ r' x y H Q) (fun x y M R W => f x y M R W ∨ g x y M R W) := fun F M G H x y v u R W Q rx ry rep z k => by
  rcases z with z | z
  · exact .inl (h F M G H x y v u R W Q rx ry rep z k)
  · exact .inr (h' F M G H x y v u R W Q rx ry rep z k)
theorem RO.imp {K : Frg} {r : R2} {f g : D → D → MS → (D → MS → Prop) → XD → Prop} (h : RO K r f) (i : ∀ x y M R W, g x y M R W → f x y M R W) : RO K r g := fun F M G H x y v u R W Q rx ry rep z k => h F M G H x y v u R W Q rx ry rep (i _ _ _ _ _ z) k
end RS

set_option maxRecDepth 100000
set_option maxHeartbeats 4000000
namespace RS
open PySem PySem.Spec PyProof.Rows L2 NdefX He PySem.W
variable [Tbls]
section
variable {K : Frg} {F : Hp} {M : MS} {G H : Hp}
/-- a new list, a new tuple -/
theorem new_lst {p : Addr} {vs : List V} {ds : List D} {R : D → MS → Prop} {Q : VK} (rep : Rep K F M G H) (hp : H p = none) (r : Rvs K F vs ds) (k : KQ K F G R Q) (h : R (.lst ds) M) : Q (.ref p) (upd H p (.lst vs)) := by
  obtain ⟨rep', s⟩ := rep.newF (o := .lst vs) hp
  exact k _ M _ _ _ h s rep' (.lst upd_same (r.mono s))
theorem new_tup {p : Addr} {vs : List V} {ds : List D} {R : D → MS → Prop} {Q : VK} (rep : Rep K F M G H) (hp : H p = none) (r : Rvs K F vs ds) (k : KQ K F G R Q) (h : R (.tup ds) M) : Q (.ref p) (upd H p (.tup vs)) := by
  obtain ⟨rep', s⟩ := rep.newF (o := .tup vs) hp
  exact k _ M _ _ _ h s rep' (.tup (SqT.of upd_same) (r.mono s))
theorem new_mlst {p : Addr} {vs : List V} {ds : List D} {R : D → MS → Prop} {Q : VK} (rep : Rep K F M G H) (hp : H p = none) (r : Rvs K F vs ds) (k : KQ K F G R Q) (h : ∀ q, M q = none → R (.ref q) (updM M q (.lst ds))) : Q (.ref p) (upd H p (.lst vs)) :=
  k _ _ F _ _ (h p (rep.freeM hp)) (L2.Same.refl F) (rep.newM (o := .lst vs) (m := .lst ds) hp r) (.ref p)
end
/-! ### + and * -/
def dAdd (x y : D) (M : MS) (R : D → MS → Prop) (_ : XD) : Prop := match vw M x, vw M y with
  | .int i, .int j => R (.int (i + j)) M
  | .str i, .str j => i.length + j.length ≤ sizeLine ∧ R (.str (i ++ j)) M
  | .lst i, .lst j => i.length + j.length ≤ sizeLine ∧ R (.lst (i ++ j)) M
  | .tup i, .tup j => i.length + j.length ≤ sizeLine ∧ R (.tup (i ++ j)) M
  | _, _ => False
def rAddD (K : Frg) : R2 := fun x y H Q => (∃ i j, x = .int i ∧ y = .int j ∧ Q (.int (i + j)) H) ∨ (∃ i j, x = .str i ∧ y = .str j ∧ i.length + j.length ≤ sizeLine ∧ Q (.str (i ++ j)) H) ∨ rCat x y H Q ∨ rCatA K x y H Q
theorem op_addD {X : Cx} : OpR X (binaryOp .Add) (rAddD X.K) := OpR.or op_add (OpR.or op_add_str (OpR.or op_cat op_catA))
theorem ro_add {K : Frg} : RO K (rAddD K) dAdd := fun F M G H x y v u R W Q rx ry rep h k => by
  unfold dAdd at h
  split at h
  · rename_i e1 e2
    cases vw_int rx e1; cases vw_int ry e2
    exact .inl ⟨_, _, rfl, rfl, k _ M F H _ h (L2.Same.refl F) rep (.int _)⟩
  · rename_i e1 e2
    cases vw_str rx e1; cases vw_str ry e2
    exact .inr (.inl ⟨_, _, rfl, rfl, h.1, k _ M F H _ h.2 (L2.Same.refl F) rep (.str _)⟩)
  · rename_i e1 e2
    obtain ⟨a, vs, rfl, h1, r1⟩ := vw_lst rep rx e1
    obtain ⟨b, ws, rfl, h2, r2⟩ := vw_lst rep ry e2
    exact .inr (.inr (.inl ⟨a, b, vs, ws, rfl, rfl, h1, h2, by rw [r1.len, r2.len]; exact h.1, fun p hp => new_lst rep hp (r1.append r2) k h.2⟩))
  · rename_i i j e1 e2
    obtain ⟨a, vs, rfl, h1, r1⟩ := vw_tup rep rx e1
    obtain ⟨b, ws, rfl, h2, r2⟩ := vw_tup rep ry e2
    refine .inr (.inr (.inr ⟨a, b, vs, ws, rfl, rfl, Same.sqT rep.fz h1, Same.sqT rep.fz h2, by rw [r1.len, r2.len]; exact h.1, fun e => ?_, fun _ e => ?_, fun _ _ p hp => new_tup rep hp (r1.append r2) k h.2⟩))
    · subst e
      cases r1
      exact k _ M F H _ h.2 (L2.Same.refl F) rep (.tup h2 r2)
    · subst e
      cases r2
      have := h.2
      rw [List.append_nil] at this
      exact k _ M F H _ this (L2.Same.refl F) rep (.tup h1 r1)
  · exact h.elim
theorem op_mulI {X : Cx} : OpR X (binaryOp .Mult) (rI IntMulOk fun i j => .int (i * j)) := opI fun _ _ _ _ _ _ _ hc q => mul_int q hc
def dMul (x y : D) (M : MS) (R : D → MS → Prop) (_ : XD) : Prop := match vw M x, vw M y with
  | .int i, .int j => IntMulOk i j ∧ R (.int (i * j)) M
  | .str s, .int n => ∃ c, s = ⟨#[c]⟩ ∧ 1 ≤ n ∧ n ≤ 1000 ∧ R (.str ⟨(List.replicate n.toNat c).toArray⟩) M
  | .lst xs, .int n => -(2 ^ 63) ≤ n ∧ n < 2 ^ 63 ∧ xs.length * n.toNat ≤ sizeLine ∧ R (.lst (List.replicate n.toNat xs).flatten) M
  | _, _ => False
def rMulD : R2 := fun x y H Q => rI IntMulOk (fun i j => .int (i * j)) x y H Q ∨ (∃ (c : Nat) (n : Int), x = .str ⟨#[c]⟩ ∧ y = .int n ∧ 1 ≤ n ∧ n ≤ 1000 ∧ Q (.str ⟨(List.replicate n.toNat c).toArray⟩) H) ∨ rRep x y H Q
theorem op_mulD {X : Cx} : OpR X (binaryOp .Mult) rMulD := OpR.or op_mulI (OpR.or op_mulS op_rep)
theorem Rvs.rep {K : Frg} {F : Hp} {vs : List V} {ds : List D} (r : Rvs K F vs ds) : ∀ n : Nat, Rvs K F (List.replicate n vs).flatten (List.replicate n ds).flatten
  | 0 => .nil
  | n + 1 => by
    rw [List.replicate_succ, List.replicate_succ, List.flatten_cons, List.flatten_cons]
    exact r.append (Rvs.rep r n)
theorem ro_mul {K : Frg} : RO K rMulD dMul := fun F M G H x y v u R W Q rx ry rep h k => by
  unfold dMul at h
  split at h
  · rename_i e1 e2
    cases vw_int rx e1; cases vw_int ry e2
    exact .inl ⟨_, _, rfl, rfl, h.1, k _ M F H _ h.2 (L2.Same.refl F) rep (.int _)⟩
  · rename_i e1 e2
    cases vw_str rx e1; cases vw_int ry e2
    obtain ⟨c, rfl, h1, h2, h⟩ := h
    exact .inr (.inl ⟨c, _, rfl, rfl, h1, h2, k _ M F H _ h (L2.Same.refl F) rep (.str _)⟩)
  · rename_i e1 e2
    obtain ⟨a, vs, rfl, h1, r1⟩ := vw_lst rep rx e1
    cases vw_int ry e2
    obtain ⟨b1, b2, b3, h⟩ := h
    exact .inr (.inr ⟨a, _, vs, rfl, rfl, h1, b1, b2, by rw [r1.len]; exact b3, fun p hp => new_lst rep hp (r1.rep _) k h⟩)
  · exact h.elim
def CDivW (i j : Int) : Prop := j ≠ 0 ∧ j.natAbs.log2 < 9000
/-! ### is None, in -/
def dNonB : D → Bool
  | .non => true
  | _ => false
def dIs (neg : Bool) (x y : D) (M : MS) (R : D → MS → Prop) (_ : XD) : Prop := match y with
  | .non => R (.bl (if neg then !dNonB x else dNonB x)) M
  | _ => False
theorem rv_non {K : Frg} {F : Hp} {v : V} {x : D} (r : Rv K F v x) : decide (v = .non) = dNonB x := by cases r <;> rfl
theorem ro_isN {K : Frg} : RO K (fun x y H Q => y = .non ∧ Q (.bl (decide (x = .non))) H) (dIs false) := fun F M G H x y v u R W Q rx ry rep h k => by
  unfold dIs at h
  split at h
  · cases ry
    refine ⟨rfl, ?_⟩
    rw [rv_non rx]
    exact k _ M F H _ h (L2.Same.refl F) rep (.bl _)
  · exact h.elim
theorem ro_notN {K : Frg} : RO K (fun x y H Q => y = .non ∧ Q (.bl (!decide (x = .non))) H) (dIs true) := fun F M G H x y v u R W Q rx ry rep h k => by
  unfold dIs at h
  split at h
  · cases ry
    refine ⟨rfl, ?_⟩
    rw [rv_non rx]
    exact k _ M F H _ h (L2.Same.refl F) rep (.bl _)
  · exact h.elim
def rInP (K : Frg) (neg : Bool) : R2 := fun x y H Q => ∃ d ds, Dp K H x d ∧ (Dp K H y (.list ds) ∨ Dp K H y (.tuple ds)) ∧ d.plain = true ∧ d.depth ≤ 63 ∧ PyData.plainAll ds = true ∧ Q (.bl (if neg then !ds.any fun z => PyData.eqv z d else ds.any fun z => PyData.eqv z d)) H
theorem op_inP {X : Cx} (hu : X.A.units + 64 < cLine) : OpR X (compareOp .In) (rInP X.K false) := by
  intro pins s σ H x y v u Q I rx ry h
  obtain ⟨d, ds, hd, he, pd, dd, pe, q⟩ := h
  obtain ⟨as, r1⟩ := Dp.reads I d x v hd rx
  rcases he with he | he
  · obtain ⟨bs, r2⟩ := Dp.reads I (.list ds) y u he ry
    exact SeqAt.in_list_data r2 r1 pe pd (by omega) ⟨.bl _, H, I, rfl, q⟩
  · obtain ⟨bs, r2⟩ := Dp.reads I (.tuple ds) y u he ry
    exact SeqAt.in_tuple_data r2 r1 pe pd (by omega) ⟨.bl _, H, I, rfl, q⟩
theorem op_notInP {X : Cx} (hu : X.A.units + 64 < cLine) : OpR X (compareOp .NotIn) (rInP X.K true) := by
  intro pins s σ H x y v u Q I rx ry h
  obtain ⟨d, ds, hd, he, pd, dd, pe, q⟩ := h
  obtain ⟨as, r1⟩ := Dp.reads I d x v hd rx
  rcases he with he | he
  · obtain ⟨bs, r2⟩ := Dp.reads I (.list ds) y u he ry
    exact SeqAt.notIn_list_data r2 r1 pe pd (by omega) ⟨.bl _, H, I, rfl, q⟩
  · obtain ⟨bs, r2⟩ := Dp.reads I (.tuple ds) y u he ry
    exact SeqAt.notIn_tuple_data r2 r1 pe pd (by omega) ⟨.bl _, H, I, rfl, q⟩
def inB (x : D) (xs : List D) : Bool := xs.any fun z => dEqB z x
def dIn (neg : Bool) (x y : D) (M : MS) (R : D → MS → Prop) (_ : XD) : Prop := match vw M y with
  | .lst ds => PD 63 x ∧ (∀ d ∈ ds, PD 63 d) ∧ R (.bl (if neg then !inB x ds else inB x ds)) M
  | .tup ds => PD 63 x ∧ (∀ d ∈ ds, PD 63 d) ∧ R (.bl (if neg then !inB x ds else inB x ds)) M
  | .str z => (match x with
    | .str c => ∃ k, c = ⟨#[k]⟩ ∧ R (.bl (if neg then !decide (k ∈ z.cps.toList) else decide (k ∈ z.cps.toList))) M
    | _ => False)
  | _ => False
def rInA (K : Frg) (neg : Bool) : R2 := fun x y H Q => rInP K neg x y H Q ∨ ∃ (c : Nat) (z : Str), x = .str ⟨#[c]⟩ ∧ y = .str z ∧ Q (.bl (if neg then !decide (c ∈ z.cps.toList) else decide (c ∈ z.cps.toList))) H
theorem op_inA {X : Cx} (hu : X.A.units + 64 < cLine) : OpR X (compareOp .In) (rInA X.K false) := OpR.or (op_inP hu) op_in_sign
theorem op_notInA {X : Cx} (hu : X.A.units + 64 < cLine) : OpR X (compareOp .NotIn) (rInA X.K true) := OpR.or (op_notInP hu) op_notIn_sign
theorem inB_eq (x : D) (ds : List D) : inB x ds = (D.pys ds).any fun z => PyData.eqv z x.py := by
  unfold inB
  rw [D.pys_map, List.any_map]
  congr 1
  funext z
  exact dEqB_eq z x
theorem ro_in {K : Frg} (neg : Bool) : RO K (rInA K neg) (dIn neg) := fun F M G H x y v u R W Q rx ry rep h k => by
  have key : ∀ ds, (vw M y = .lst ds ∨ vw M y = .tup ds) → PD 63 x ∧ (∀ d ∈ ds, PD 63 d) ∧ R (.bl (if neg then !inB x ds else inB x ds)) M → rInP K neg v u H Q := by
    intro ds e ⟨p1, p2, h⟩
    obtain ⟨F2, _, s2, r2⟩ := rv_vw rep ry
    obtain ⟨a1, a2, a3⟩ := rv_dp rep.fz 63 p1 rx
    rw [inB_eq] at h
    rcases e with e | e
    · rw [e] at r2
      obtain ⟨b1, b2, b3⟩ := rv_dp s2 64 (show PD 64 (.lst ds) from p2) r2
      exact ⟨_, _, a1, .inl b1, a2, by omega, b2, k _ M F H _ h (L2.Same.refl F) rep (.bl _)⟩
    · rw [e] at r2
      obtain ⟨b1, b2, b3⟩ := rv_dp s2 64 (show PD 64 (.tup ds) from p2) r2
      exact ⟨_, _, a1, .inr b1, a2, by omega, b2, k _ M F H _ h (L2.Same.refl F) rep (.bl _)⟩
  unfold dIn at h
  split at h
  · rename_i ds e
    exact .inl (key ds (.inl e) h)
  · rename_i ds e
    exact .inl (key ds (.inr e) h)
  · rename_i z e
    cases vw_str ry e
    split at h
    · obtain ⟨c, rfl, h⟩ := h
      cases rx
      exact .inr ⟨c, z, rfl, rfl, k _ M F H _ h (L2.Same.refl F) rep (.bl _)⟩
    · exact h.elim
  · exact h.elim
theorem inB_d {α : Type} [DecidableEq α] [Dt α] (x : α) (xs : List α) : inB (Dt.d x) (xs.map Dt.d) = decide (x ∈ xs) := by
  unfold inB
  rw [List.any_map, Bool.eq_iff_iff, List.any_eq_true, decide_eq_true_eq]
  constructor
  · rintro ⟨z, hz, e⟩
    rw [Function.comp, dEqB_d, decide_eq_true_eq] at e
    exact e ▸ hz
  · intro hx
    exact ⟨x, hx, by rw [Function.comp, dEqB_d]; exact decide_eq_true rfl⟩
/-! ### displays -/
section
variable {X : Cx} {E : L2.St → XK} {pos : Pos} {es : List Expr} {T : TAD}
def dTup (T : TAD) : TD := fun τ M R W => T τ M (fun ds M1 => ds.length ≤ sizeLine ∧ R (.tup ds) M1) W
def dLst (T : TAD) : TD := fun τ M R W => T τ M (fun ds M1 => ds.length ≤ sizeLine ∧ R (.lst ds) M1) W
/-- a list that will change -/
def dLstM (T : TAD) : TD := fun τ M R W => T τ M (fun ds M1 => ds.length ≤ sizeLine ∧ ∀ p, M1 p = none → R (.ref p) (updM M1 p (.lst ds))) W
theorem de_tup {x1} (h : DAs X E es T) : DE X E (.Tuple es x1 pos) (dTup T) := by
  refine ⟨(pe_tup h.p).imp fun σ H Q ⟨F, M, G, τ, R, W, rs, rep, h, k, kx⟩ => ?_⟩
  refine ⟨F, M, G, τ, _, W, rs, rep, h, fun ds M1 F1 H1 vs q s1 rep1 r1 => ?_, kx⟩
  exact ⟨by rw [r1.len]; exact q.1, fun p hp => new_tup rep1 hp r1 (k.le s1) q.2⟩
theorem de_lst (h : DAs X E es T) : DE X E (.List es pos) (dLst T) := by
  refine ⟨(pe_lst h.p).imp fun σ H Q ⟨F, M, G, τ, R, W, rs, rep, h, k, kx⟩ => ?_⟩
  refine ⟨F, M, G, τ, _, W, rs, rep, h, fun ds M1 F1 H1 vs q s1 rep1 r1 => ?_, kx⟩
  exact ⟨by rw [r1.len]; exact q.1, fun p hp => new_lst rep1 hp r1 (k.le s1) q.2⟩
theorem de_lstM (h : DAs X E es T) : DE X E (.List es pos) (dLstM T) := by
  refine ⟨(pe_lst h.p).imp fun σ H Q ⟨F, M, G, τ, R, W, rs, rep, h, k, kx⟩ => ?_⟩
  refine ⟨F, M, G, τ, _, W, rs, rep, h, fun ds M1 F1 H1 vs q s1 rep1 r1 => ?_, kx⟩
  exact ⟨by rw [r1.len]; exact q.1, fun p hp => new_mlst rep1 hp r1 (k.le s1) q.2⟩
end
/-! ### subscripts -/
def atD (xs : List D) (i : Int) : Option D := match ixN xs.length i with
  | some j => xs[j]?
  | none => none
theorem atD_at {K : Frg} {F : Hp} {vs : List V} {ds : List D} (r : Rvs K F vs ds) {i : Int} {d : D} (e : atD ds i = some d) : ∃ v, atI vs i = some v ∧ Rv K F v d := by
  unfold atD at e
  unfold atI
  rw [r.len]
  cases z : ixN ds.length i with
  | none => rw [z] at e; cases e
  | some j =>
    rw [z] at e
    obtain ⟨v, h1, h2⟩ := r.atD (show ds[j]? = some d from e)
    exact ⟨v, h1, h2⟩
def dIx (x y : D) (M : MS) (R : D → MS → Prop) (_ : XD) : Prop := match vw M x, y with
  | .lst xs, .int i => (match atD xs i with | some d => R d M | none => False)
  | .tup xs, .int i => (match atD xs i with | some d => R d M | none => False)
  | .str z, .int i => z.length ≤ sizeLine ∧ ∃ c, atI z.cps.toList i = some c ∧ R (.str ⟨#[c]⟩) M
  | _, _ => False
def rIxD (K : Frg) : R2 := fun x y H Q => rIxL K x y H Q ∨ rIxT K x y H Q ∨ rIxS x y H Q
theorem ix_D {X : Cx} : IxR X (rIxD X.K) := IxR.or ix_list (IxR.or ix_tup ix_str)
theorem ro_ix {K : Frg} : RO K (rIxD K) dIx := fun F M G H x y v u R W Q rx ry rep h k => by
  unfold dIx at h
  split at h
  · rename_i e1
    obtain ⟨a, vs, rfl, h1, r1⟩ := vw_lst rep rx e1
    cases ry
    split at h
    · rename_i d e
      obtain ⟨w, e2, rw'⟩ := atD_at r1 e
      exact .inl ⟨a, vs, _, w, rfl, rfl, SqL.of h1, e2, k _ M F H _ h (L2.Same.refl F) rep rw'⟩
    · exact h.elim
  · rename_i e1
    obtain ⟨a, vs, rfl, h1, r1⟩ := vw_tup rep rx e1
    cases ry
    split at h
    · rename_i d e
      obtain ⟨w, e2, rw'⟩ := atD_at r1 e
      exact .inr (.inl ⟨a, vs, _, w, rfl, rfl, Same.sqT rep.fz h1, e2, k _ M F H _ h (L2.Same.refl F) rep rw'⟩)
    · exact h.elim
  · rename_i e1
    cases vw_str rx e1
    cases ry
    obtain ⟨h0, c, e, h⟩ := h
    exact .inr (.inr ⟨_, _, c, rfl, rfl, h0, e, k _ M F H _ h (L2.Same.refl F) rep (.str _)⟩)
  · exact h.elim
section
variable {X : Cx} {E : L2.St → XK} {pos : Pos} {a b : Expr} {Ta Tb : TD}
theorem de_ix (ha : DE X E a Ta) (hb : DE X E b Tb) (hs : PlainIx b) : DE X E (.Subscript a b pos) (dBin dIx Ta Tb) :=
  ⟨(pe_ix ix_D ha.p hb.p hs).imp fun σ H Q h => up_bin (a := a) (b := b) ro_ix h⟩
/-! ### slices -/
abbrev TOD := SD → MS → (Option Int → MS → Prop) → XD → Prop
def upO (K : Frg) (E : L2.St → XK) (T : TOD) : TO := fun σ H Q => ∃ F M G τ R W, Rs K F σ τ ∧ Rep K F M G H ∧ T τ M R W ∧ (∀ o M' F' H', R o M' → L2.Same F F' → Rep K F' M' G H' → Q o H') ∧ KX K F G W (E σ)
structure DO (X : Cx) (E : L2.St → XK) (e : Option Expr) (T : TOD) : Prop where
  p : PO X e (upO X.K E T)
def dNoPart : TOD := fun _ M R _ => R none M
def dPart (T : TD) : TOD := fun τ M R W => T τ M (fun d M1 => match d with
  | .int i => R (some i) M1
  | _ => False) W
theorem _root_.L2.PO.imp {X : Cx} {e : Option Expr} {t t' : TO} (h : PO X e t) (i : ∀ σ H Q, t' σ H Q → t σ H Q) : PO X e t' := ⟨fun pins s σ H Q I q => h.run pins s σ H Q I (i _ _ _ q)⟩
theorem do_none : DO X E none dNoPart := ⟨po_none.imp fun σ H Q ⟨F, M, G, τ, R, W, rs, rep, h, k, kx⟩ => k none M F H h (L2.Same.refl F) rep⟩
theorem do_some (ha : DE X E a Ta) : DO X E (some a) (dPart Ta) := by
  refine ⟨(po_some ha.p).imp fun σ H Q ⟨F, M, G, τ, R, W, rs, rep, h, k, kx⟩ => ?_⟩
  refine ⟨F, M, G, τ, _, W, rs, rep, h, fun d M1 F1 H1 v q s1 rep1 r1 => ?_, kx⟩
  cases d <;> try exact q.elim
  cases r1
  exact ⟨_, rfl, k _ M1 F1 H1 q s1 rep1⟩
def cutD (xs : List D) (lo hi : Option Int) : List D := (xs.drop (HT.sIx xs.length 0 lo)).take (HT.sIx xs.length xs.length hi - HT.sIx xs.length 0 lo)
theorem Rvs.cut {K : Frg} {F : Hp} {vs : List V} {ds : List D} (r : Rvs K F vs ds) (lo hi : Option Int) : Rvs K F (cutV vs lo hi) (cutD ds lo hi) := by
  unfold cutV cutD
  rw [r.len]
  exact (r.drop _).take _
def dSl (T : TD) (U1 U2 : TOD) : TD := fun τ M R W => T τ M (fun d M1 => U1 τ M1 (fun lo M2 => U2 τ M2 (fun hi M3 => match vw M3 d with
  | .lst xs => R (.lst (cutD xs lo hi)) M3
  | .tup xs => R (.tup (cutD xs lo hi)) M3
  | _ => False) W) W) W
theorem HT.all_cut {xs : List V} {lo hi : Option Int} (h : HT.sIx xs.length 0 lo = 0 ∧ HT.sIx xs.length xs.length hi = xs.length) : cutV xs lo hi = xs := by
  unfold cutV
  rw [h.1, h.2]
  simp
theorem de_sl {lo hi : Option Expr} {p2 : Pos} {U1 U2 : TOD} (ha : DE X E a Ta) (h1 : DO X E lo U1) (h2 : DO X E hi U2) : DE X E (.Subscript a (.Slice lo hi none p2) pos) (dSl Ta U1 U2) := by
  refine ⟨(pe_slice (SlR.or sl_list sl_tupA) ha.p h1.p h2.p).imp fun σ H Q ⟨F, M, G, τ, R, W, rs, rep, h, k, kx⟩ => ?_⟩
  refine ⟨F, M, G, τ, _, W, rs, rep, h, fun d M1 F1 H1 v q s1 rep1 r1 => ?_, kx⟩
  refine ⟨F1, M1, G, τ, _, W, rs.mono s1, rep1, q, fun l M2 F2 H2 q2 s2 rep2 => ?_, kx.le s1⟩
  refine ⟨F2, M2, G, τ, _, W, (rs.mono s1).mono s2, rep2, q2, fun u M3 F3 H3 q3 s3 rep3 => ?_, (kx.le s1).le s2⟩
  have r3 := (r1.mono s2).mono s3
  split at q3
  · rename_i xs e
    obtain ⟨p, vs, rfl, e1, rr⟩ := vw_lst rep3 r3 e
    exact .inl ⟨p, vs, rfl, SqL.of e1, fun q hq => new_lst rep3 hq (rr.cut l u) (((k.le s1).le s2).le s3) q3⟩
  · rename_i xs e
    obtain ⟨p, vs, rfl, e1, rr⟩ := vw_tup rep3 r3 e
    refine .inr ⟨p, vs, rfl, Same.sqT rep3.fz e1, fun z => ?_, fun _ q hq => new_tup rep3 hq (rr.cut l u) (((k.le s1).le s2).le s3) q3⟩
    have rc := rr.cut l u
    rw [HT.all_cut z] at rc
    exact (((k.le s1).le s2).le s3) _ M3 F3 H3 _ q3 (L2.Same.refl F3) rep3 (.tup e1 rc)
  · exact q3.elim
/-! ### fields -/
/-- a field of instances of C may be read and stored plainly -/
structure AttrOK (K : Frg) (C : Addr) (f : Str) : Prop where
  c : Cls K C
  n : NoAttr K C f
theorem Rfs.look {K : Frg} {F : Hp} : ∀ {fs : List (Str × V)} {gs : List (Str × D)} {k : Nat} {f : Str} {d : D}, Rfs K F fs gs → (gs.map (·.1)).Nodup → gs[k]? = some (f, d) → ∃ v, fs.lookup f = some v ∧ Rv K F v d
  | _, _, k, f, d, .nil, _, e => by simp at e
  | _, _, 0, f, d, .cons x y, _, e => by
    simp at e
    obtain ⟨rfl, rfl⟩ := e
    exact ⟨_, by rw [List.lookup_cons, beq_self_eq_true], x⟩
  | _, _, k + 1, f, d, .cons (k := g) x y, n, e => by
    simp only [List.getElem?_cons_succ] at e
    rw [List.map_cons, List.nodup_cons] at n
    obtain ⟨v, h1, h2⟩ := Rfs.look y n.2 e
    refine ⟨v, ?_, h2⟩
    have hm : f ∈ List.map (fun x : Str × D => x.1) _ := List.mem_map.mpr ⟨_, List.mem_of_getElem? e, rfl⟩
    have ne : (f == g) = false := beq_eq_false_iff_ne.mpr fun z => n.1 (by rw [← z]; exact hm)
    rw [List.lookup_cons, ne]
    exact h1
def dFld (K : Frg) (f : Str) (i : Nat) (T : TD) : TD := fun τ M R W => T τ M (fun d M1 => match vw M1 d with
  | .ins C gs => AttrOK K C f ∧ (match gs[i]? with
    | some (g, x) => g = f ∧ R x M1
    | none => False)
  | _ => False) W
theorem de_fld {K : Frg} (hk : X.K = K) (f : Str) (i : Nat) (ha : DE X E a Ta) (hb : attributeBase a f X.env (eval a X.env) = eval a X.env := by rfl) : DE X E (.Attribute a f pos) (dFld K f i Ta) := by
  subst hk
  refine ⟨(pe_fld ha.p hb).imp fun σ H Q ⟨F, M, G, τ, R, W, rs, rep, h, k, kx⟩ => ?_⟩
  refine ⟨F, M, G, τ, _, W, rs, rep, h, fun d M1 F1 H1 v q s1 rep1 r1 => ?_, kx⟩
  dsimp only at q
  split at q
  · rename_i C gs e
    obtain ⟨a, dx, fs, rfl, e1, rr, n⟩ := vw_ins rep1 r1 e
    obtain ⟨ok, q⟩ := q
    split at q
    · rename_i g x e2
      obtain ⟨rfl, q⟩ := q
      obtain ⟨w, e3, rw'⟩ := rr.look n e2
      exact ⟨a, C, dx, fs, w, rfl, e1, ok.c, ok.n, e3, k _ M1 F1 H1 _ q s1 rep1 rw'⟩
    · exact q.elim
  · exact q.elim
theorem Rfs.put {K : Frg} {F : Hp} {y : V} {d : D} (ry : Rv K F y d) {f : Str} : ∀ {fs : List (Str × V)} {gs : List (Str × D)} {k : Nat} {x : D}, Rfs K F fs gs → (gs.map (·.1)).Nodup → gs[k]? = some (f, x) → Rfs K F (putF f y fs) (gs.set k (f, d))
  | _, _, k, x, .nil, _, e => by simp at e
  | _, _, 0, x, .cons z w, _, e => by
    simp at e
    obtain ⟨rfl, rfl⟩ := e
    rw [putF, if_pos rfl]
    exact .cons ry w
  | _, _, k + 1, x, .cons (k := g) z w, n, e => by
    simp only [List.getElem?_cons_succ] at e
    rw [List.map_cons, List.nodup_cons] at n
    have hm : f ∈ List.map (fun x : Str × D => x.1) _ := List.mem_map.mpr ⟨_, List.mem_of_getElem? e, rfl⟩
    have ne : ¬ g = f := fun z => n.1 (by rw [z]; exact hm)
    rw [putF, if_neg ne]
    exact .cons z (Rfs.put ry w n.2 e)
theorem Rfs.add {K : Frg} {F : Hp} {y : V} {d : D} (ry : Rv K F y d) {f : Str} : ∀ {fs : List (Str × V)} {gs : List (Str × D)}, Rfs K F fs gs → f ∉ gs.map (·.1) → Rfs K F (putF f y fs) (gs ++ [(f, d)])
  | _, _, .nil, _ => .cons ry .nil
  | _, _, .cons (k := g) z w, n => by
    rw [List.map_cons, List.mem_cons, not_or] at n
    rw [putF, if_neg fun z => n.1 z.symm]
    exact .cons z (Rfs.add ry w n.2)
theorem keys_set {gs : List (Str × D)} {k : Nat} {f : Str} {x d : D} (e : gs[k]? = some (f, x)) : (gs.set k (f, d)).map (·.1) = gs.map (·.1) := by
  rw [List.map_set]
  apply List.ext_getElem?
  intro j
  by_cases h : k = j
  · subst h
    have hl : k < gs.length := (List.getElem?_eq_some_iff.mp e).1
    rw [List.getElem?_set_self (by rw [List.length_map]; exact hl), List.getElem?_map, e]
    rfl
  · rw [List.getElem?_set_ne h]
/-- o.f = e, o an instance that may change -/
def dFldS (K : Frg) (f : Str) (i : Nat) (T Tv : TD) : TSD := fun N τ M => Tv τ M (fun y M1 => T τ M1 (fun d M2 => match d with
  | .ref a => (match M2 a with
    | some (.ins C gs) => AttrOK K C f ∧ gs.length < 1000 ∧ (match gs[i]? with
      | some (g, _) => g = f ∧ N.nx τ (updM M2 a (.ins C (gs.set i (f, y))))
      | none => f ∉ gs.map (·.1) ∧ N.nx τ (updM M2 a (.ins C (gs ++ [(f, y)]))))
    | _ => False)
  | _ => False) (N.ex τ)) (N.ex τ)
theorem ds_fld {K : Frg} (hk : X.K = K) (f : Str) (i : Nat) {value : Expr} {pos' : Pos} {Tv : TD} (ha : DE X E a Ta) (hv : DE X E value Tv) (hs : swapsWith value (some (.Attribute a f pos')) pos.line X.env = pure false := by rfl) : DS X E (.Assign [.Attribute a f pos'] value pos) (dFldS K f i Ta Tv) := by
  subst hk
  refine ⟨(ps_fld ha.p hv.p hs).imp fun D σ H ⟨F, M, G, τ, N, rs, rep, h, lk⟩ => ?_⟩
  refine ⟨F, M, G, τ, _, _, rs, rep, h, fun y M1 F1 H1 v q s1 rep1 r1 => ?_, lk.ex.at rs⟩
  refine ⟨F1, M1, G, τ, _, _, rs.mono s1, rep1, q, fun d M2 F2 H2 u q2 s2 rep2 r2 => ?_, (lk.ex.at rs).le s1⟩
  dsimp only at q2
  split at q2
  · rename_i p
    cases r2
    split at q2
    · rename_i C gs e
      obtain ⟨ok, few, q2⟩ := q2
      obtain ⟨dx, fs, e1, rr, n⟩ := rep2.ins e
      refine ⟨p, C, dx, fs, rfl, e1, ok.c, ok.n, by rw [rr.len]; exact few, ?_⟩
      have s := s1.trans s2
      split at q2
      · rename_i g x e2
        obtain ⟨rfl, q2⟩ := q2
        exact lk.nx _ _ _ F2 _ q2 s (rep2.put e ⟨rfl, rr.put (r1.mono s2) n e2, by rw [keys_set e2]; exact n⟩) (rs.mono s)
      · obtain ⟨nn, q2⟩ := q2
        refine lk.nx _ _ _ F2 _ q2 s (rep2.put e ⟨rfl, rr.add (r1.mono s2) nn, ?_⟩) (rs.mono s)
        rw [List.map_append, List.nodup_append]
        refine ⟨n, by simp, fun a ha b hb => ?_⟩
        have : b = f := by simpa using hb
        subst this
        rintro rfl
        exact nn ha
    · exact q2.elim
  · exact q2.elim
end
end RS

set_option maxRecDepth 100000
set_option maxHeartbeats 4000000
namespace RS
open PySem PySem.Spec PyProof.Rows L2 NdefX He PySem.W
variable [Tbls]
/-! ### statements -/
section
variable {X : Cx} {E : L2.St → XK} {pos : Pos} {st : Stmt} {rest : List Stmt} {e : Expr} {T U : TSD} {Te : TD} {Tt : TTD}
def dNext : TSD := fun N τ M => N.nx τ M
def dSeq (T U : TSD) : TSD := fun N τ M => T { N with nx := U N } τ M
theorem KN.up {K : Frg} {F G : Hp} {N : EndsD} {D : Ends} (lk : LkS K F G N D E) (U : TSD) : KN K F G (U N) (upS K E U D) := fun σ' τ' M' F' H' q s rep rs => ⟨F', M', G, τ', N, rs, rep, q, lk.le s⟩
theorem dss_nil : DSs X E [] dNext := ⟨pss_nil.imp fun D σ H ⟨F, M, G, τ, N, rs, rep, h, lk⟩ => lk.nx _ _ _ F _ h (L2.Same.refl F) rep rs⟩
theorem dss_cons (h1 : DS X E st T) (h2 : DSs X E rest U) : DSs X E (st :: rest) (dSeq T U) :=
  ⟨(pss_cons h1.p h2.p).imp fun D σ H ⟨F, M, G, τ, N, rs, rep, h, lk⟩ => ⟨F, M, G, τ, { N with nx := U N }, rs, rep, h, ⟨KN.up lk U, lk.rt, lk.bk, lk.ct, lk.ex⟩⟩⟩
theorem dss_one (h1 : DS X E st T) : DSs X E [st] T := ⟨pss_one h1.p⟩
/-- ways join again -/
def dCut (T U : TSD) : TSD := fun N τ M => ∃ J : SD → MS → Prop, T { N with nx := J } τ M ∧ ∀ τ' M', J τ' M' → U N τ' M'
theorem dss_cut (h1 : DS X E st T) (h2 : DSs X E rest U) : DSs X E (st :: rest) (dCut T U) := by
  refine ⟨(pss_cons h1.p h2.p).imp fun D σ H ⟨F, M, G, τ, N, rs, rep, ⟨J, h, hj⟩, lk⟩ => ?_⟩
  exact ⟨F, M, G, τ, { N with nx := J }, rs, rep, h, ⟨fun σ' τ' M' F' H' q s rep rs => ⟨F', M', G, τ', N, rs, rep, hj _ _ q, lk.le s⟩, lk.rt, lk.bk, lk.ct, lk.ex⟩⟩
theorem ds_pass : DS X E (.Pass pos) dNext := ⟨ps_pass.imp fun D σ H ⟨F, M, G, τ, N, rs, rep, h, lk⟩ => lk.nx _ _ _ F _ h (L2.Same.refl F) rep rs⟩
theorem ds_doc {x j pos pos'} : DS X E (.Expr (.Constant (.str x) j pos) pos') dNext := ⟨ps_doc.imp fun D σ H ⟨F, M, G, τ, N, rs, rep, h, lk⟩ => lk.nx _ _ _ F _ h (L2.Same.refl F) rep rs⟩
def dBrk : TSD := fun N τ M => N.bk τ M
def dCtn : TSD := fun N τ M => N.ct τ M
theorem ds_break : DS X E (.Break pos) dBrk := ⟨ps_break.imp fun D σ H ⟨F, M, G, τ, N, rs, rep, h, lk⟩ => lk.bk _ _ _ F _ h (L2.Same.refl F) rep rs⟩
theorem ds_continue : DS X E (.Continue pos) dCtn := ⟨ps_continue.imp fun D σ H ⟨F, M, G, τ, N, rs, rep, h, lk⟩ => lk.ct _ _ _ F _ h (L2.Same.refl F) rep rs⟩
def dDrop (T : TD) : TSD := fun N τ M => T τ M (fun _ M1 => N.nx τ M1) (N.ex τ)
theorem ds_expr (h : DE X E e Te) (hs : swapsWith e none pos.line X.env = pure false := by rfl) : DS X E (.Expr e pos) (dDrop Te) :=
  ⟨(ps_expr h.p hs).imp fun D σ H ⟨F, M, G, τ, N, rs, rep, h, lk⟩ => ⟨F, M, G, τ, _, _, rs, rep, h, fun d M1 F1 H1 v q s1 rep1 r1 => lk.nx _ _ _ F1 _ q s1 rep1 (rs.mono s1), lk.ex.at rs⟩⟩
def dRet (T : TD) : TSD := fun N τ M => T τ M (fun d M1 => N.rt d M1) (N.ex τ)
theorem ds_ret (h : DE X E e Te) : DS X E (.Return (some e) pos) (dRet Te) :=
  ⟨(ps_ret h.p).imp fun D σ H ⟨F, M, G, τ, N, rs, rep, h, lk⟩ => ⟨F, M, G, τ, _, _, rs, rep, h, lk.rt, lk.ex.at rs⟩⟩
def dRetN : TSD := fun N _ M => N.rt .non M
theorem ds_retN : DS X E (.Return none pos) dRetN := ⟨ps_retN.imp fun D σ H ⟨F, M, G, τ, N, rs, rep, h, lk⟩ => lk.rt _ _ F _ _ h (L2.Same.refl F) rep .non⟩
def dIf (A : TTD) (T U : TSD) : TSD := fun N τ M => A τ M (fun b M1 => dIte b (T N τ M1) (U N τ M1)) (N.ex τ)
theorem ds_if {c : Expr} {a b : List Stmt} (hc : DT X E c Tt) (ha : DSs X E a T) (hb : DSs X E b U) : DS X E (.If c a b pos) (dIf Tt T U) := by
  refine ⟨(ps_if hc.p ha.p hb.p).imp fun D σ H ⟨F, M, G, τ, N, rs, rep, h, lk⟩ => ?_⟩
  refine ⟨F, M, G, τ, _, _, rs, rep, h, fun d M1 F1 H1 q s1 rep1 => ?_, lk.ex.at rs⟩
  cases d with
  | true => exact iteT ⟨F1, M1, G, τ, N, rs.mono s1, rep1, q.1 rfl, lk.le s1⟩
  | false => exact iteF ⟨F1, M1, G, τ, N, rs.mono s1, rep1, q.2 rfl, lk.le s1⟩
def dNever : TSD := fun _ _ _ => False
theorem ds_never : DS X E st dNever := ⟨(L2.ps_never (st := st)).imp fun D σ H ⟨F, M, G, τ, N, rs, rep, h, lk⟩ => h.elim⟩
theorem dss_never {sts : List Stmt} : DSs X E sts dNever := ⟨(L2.pss_never (sts := sts)).imp fun D σ H ⟨F, M, G, τ, N, rs, rep, h, lk⟩ => h.elim⟩
end
/-! ### targets -/
abbrev TGD := D → SD → MS → (SD → MS → Prop) → (SD → XD) → Prop
abbrev TGDs := List D → SD → MS → (SD → MS → Prop) → (SD → XD) → Prop
def upG (K : Frg) (E : L2.St → XK) (T : TGD) : TG := fun v σ H Q => ∃ F M G τ d N x, Rv K F v d ∧ Rs K F σ τ ∧ Rep K F M G H ∧ T d τ M N x ∧ KN K F G N Q ∧ KE K F G x E
def upGs (K : Frg) (E : L2.St → XK) (T : TGDs) : TGs := fun vs σ H Q => ∃ F M G τ ds N x, Rvs K F vs ds ∧ Rs K F σ τ ∧ Rep K F M G H ∧ T ds τ M N x ∧ KN K F G N Q ∧ KE K F G x E
structure DG (X : Cx) (E : L2.St → XK) (e : Expr) (T : TGD) : Prop where
  p : PG X e (upG X.K E T)
structure DGs (X : Cx) (E : L2.St → XK) (e : List Expr) (T : TGDs) : Prop where
  p : PGs X e (upGs X.K E T)
theorem _root_.L2.PG.imp {X : Cx} {e : Expr} {t t' : TG} (h : PG X e t) (i : ∀ v σ H Q, t' v σ H Q → t v σ H Q) : PG X e t' := ⟨fun pins s σ H v u Q I r q => h.run pins s σ H v u Q I r (i _ _ _ _ q)⟩
theorem _root_.L2.PGs.imp {X : Cx} {e : List Expr} {t t' : TGs} (h : PGs X e t) (i : ∀ v σ H Q, t' v σ H Q → t v σ H Q) : PGs X e t' := ⟨fun pins s σ H v u Q I r q => h.run pins s σ H v u Q I r (i _ _ _ _ q)⟩
section
variable {X : Cx} {E : L2.St → XK} {pos : Pos} {e : Expr} {es : List Expr} {T : TGD} {U : TGDs} {Te Ti To : TD}
def dgName (i : Nat) : TGD := fun d τ M N _ => N (τ.set i (some d)) M
theorem dg_name (i : Nat) {x : Str} (hN : X.N.Nodup) (hi : X.N[i]? = some x := by rfl) (hx : Loc X.env.scope x := by first | exact .inl rfl | exact .inr rfl) (hf : X.fn x = true ∨ X.env.scope.names.lookup x = some .local := by first | exact .inl rfl | exact .inr rfl | assumption) : DG X E (.Name x pos) (dgName i) :=
  ⟨(pg_name hN hi hx hf).imp fun v σ H Q ⟨F, M, G, τ, d, N, x, r, rs, rep, h, k, kx⟩ => k _ _ M F H h (L2.Same.refl F) rep (rs.set r i)⟩
def dgNil : TGDs := fun ds τ M N _ => match ds with
  | [] => N τ M
  | _ => False
def dgCons (T : TGD) (U : TGDs) : TGDs := fun ds τ M N x => match ds with
  | d :: r => T d τ M (fun τ1 M1 => U r τ1 M1 N x) x
  | [] => False
theorem dgs_nil : DGs X E [] dgNil := by
  refine ⟨pgs_nil.imp fun v σ H Q ⟨F, M, G, τ, ds, N, x, r, rs, rep, h, k, kx⟩ => ?_⟩
  cases r with
  | nil => exact ⟨rfl, k _ _ M F H h (L2.Same.refl F) rep rs⟩
  | cons _ _ => exact h.elim
theorem dgs_cons (h1 : DG X E e T) (h2 : DGs X E es U) (hs : (assignEach (e :: es) X.env).map (·.2) = assign e X.env :: (assignEach es X.env).map (·.2) := by rfl) : DGs X E (e :: es) (dgCons T U) := by
  refine ⟨(pgs_cons h1.p h2.p hs).imp fun v σ H Q ⟨F, M, G, τ, ds, N, x, r, rs, rep, h, k, kx⟩ => ?_⟩
  cases r with
  | nil => exact h.elim
  | cons a b =>
    refine ⟨_, _, rfl, F, M, G, τ, _, _, x, a, rs, rep, h, fun σ1 τ1 M1 F1 H1 q s1 rep1 rs1 => ?_, kx⟩
    exact ⟨F1, M1, G, τ1, _, N, x, b.mono s1, rs1, rep1, q, k.le s1, kx.le s1⟩
def dgTup (n : Nat) (U : TGDs) : TGD := fun d τ M N x => match vw M d with
  | .tup ds => ds.length = n ∧ U ds τ M N x
  | .lst ds => ds.length = n ∧ U ds τ M N x
  | _ => False
theorem dg_tup {K : Frg} (hk : X.K = K) {k n : Nat} (hc : X.calm = true) (h : DGs X E es U) (hn : (assignEach es X.env).length = n := by rfl) (hst : (assignEach es X.env).findIdx? (·.1) = none := by rfl) : DG X E (.Tuple es k pos) (dgTup n U) := by
  refine ⟨(pg_unp (K := X.K) rfl hc h.p hn hst).imp fun v σ H Q ⟨F, M, G, τ, d, N, x, r, rs, rep, h, k, kx⟩ => ?_⟩
  unfold dgTup at h
  split at h
  · rename_i ds e
    obtain ⟨a, vs, rfl, h1, r1⟩ := vw_tup rep r e
    exact ⟨a, vs, rfl, .inl (Same.sqT rep.fz h1), by rw [r1.len]; exact h.1, F, M, G, τ, ds, N, x, r1, rs, rep, h.2, k, kx⟩
  · rename_i ds e
    obtain ⟨a, vs, rfl, h1, r1⟩ := vw_lst rep r e
    exact ⟨a, vs, rfl, .inr (SqL.of h1), by rw [r1.len]; exact h.1, F, M, G, τ, ds, N, x, r1, rs, rep, h.2, k, kx⟩
  · exact h.elim
/-- xs[i] = .. of a list that may change -/
def dgSub (To Ti : TD) : TGD := fun d τ M N x => To τ M (fun o M1 => Ti τ M1 (fun i M2 => match o, i with
  | .ref a, .int k => (match M2 a with
    | some (.lst xs) => ∃ j, ixN xs.length k = some j ∧ N τ (updM M2 a (.lst (xs.set j d)))
    | _ => False)
  | _, _ => False) (x τ)) (x τ)
theorem dg_sub {o i : Expr} (ho : DE X E o To) (hi : DE X E i Ti) (ha : ∀ v, assign (.Subscript o i pos) X.env v = (do
      let ov ← holding [v] (eval o X.env)
      let iv ← holding [v, ov] (eval i X.env)
      standAt pos
      holding [v, ov, iv] (setItem ov iv v)
      release [v, ov, iv] []) := by intro _; rfl) : DG X E (.Subscript o i pos) (dgSub To Ti) := by
  refine ⟨(pg_sub ho.p hi.p set_list ha).imp fun v σ H Q ⟨F, M, G, τ, d, N, x, r, rs, rep, h, k, kx⟩ => ?_⟩
  refine ⟨F, M, G, τ, _, _, rs, rep, h, fun y M1 F1 H1 u q s1 rep1 r1 => ?_, kx.at rs⟩
  refine ⟨F1, M1, G, τ, _, _, rs.mono s1, rep1, q, fun z M2 F2 H2 w q2 s2 rep2 r2 => ?_, (kx.at rs).le s1⟩
  dsimp only at q2
  split at q2
  · cases r1; cases r2
    split at q2
    · rename_i xs e
      obtain ⟨j, hj, q2⟩ := q2
      obtain ⟨vs, e1, rr⟩ := rep2.lst e
      have s := s1.trans s2
      exact ⟨_, vs, _, j, rfl, rfl, e1, by rw [rr.len]; exact hj, k _ _ _ F2 _ q2 s (rep2.put e (o := .lst _) (m' := .lst _) (Rvs.set (r.mono s) j rr)) (rs.mono s)⟩
    · exact q2.elim
  · exact q2.elim
def dAsg (Te : TD) (T : TGD) : TSD := fun N τ M => Te τ M (fun d M1 => T d τ M1 N.nx N.ex) (N.ex τ)
theorem ds_asg {tg : Expr} (he : DE X E e Te) (hg : DG X E tg T) (hs : swapsWithSole [tg] e pos.line X.env = pure false := by rfl) (hw : swappedStores [tg] e X.env = pure none := by rfl)
    (h1 : (assignEach [tg] X.env).map (·.2) = [assign tg X.env] := by rfl) : DS X E (.Assign [tg] e pos) (dAsg Te T) :=
  ⟨(ps_asg he.p hg.p hs hw h1).imp fun D σ H ⟨F, M, G, τ, N, rs, rep, h, lk⟩ => ⟨F, M, G, τ, _, _, rs, rep, h, fun d M1 F1 H1 v q s1 rep1 r1 => ⟨F1, M1, G, τ, d, N.nx, N.ex, r1, rs.mono s1, rep1, q, lk.nx.le s1, lk.ex.le s1⟩, lk.ex.at rs⟩⟩
def dSet (i : Nat) (Te : TD) : TSD := fun N τ M => Te τ M (fun d M1 => N.nx (τ.set i (some d)) M1) (N.ex τ)
theorem ds_set (i : Nat) {x : Str} {pos' : Pos} (hN : X.N.Nodup) (he : DE X E e Te) (hi : X.N[i]? = some x := by rfl) (hx : Loc X.env.scope x := by first | exact .inl rfl | exact .inr rfl) (hs : swapsWith e (some (.Name x pos')) pos.line X.env = pure false := by rfl) (hf : X.fn x = true ∨ X.env.scope.names.lookup x = some .local := by first | exact .inl rfl | exact .inr rfl | assumption) :
    DS X E (.Assign [.Name x pos'] e pos) (dSet i Te) :=
  ⟨(ps_set hN hi hx he.p hs hf).imp fun D σ H ⟨F, M, G, τ, N, rs, rep, h, lk⟩ => ⟨F, M, G, τ, _, _, rs, rep, h, fun d M1 F1 H1 v q s1 rep1 r1 => lk.nx _ _ _ F1 _ q s1 rep1 ((rs.mono s1).set r1 i), lk.ex.at rs⟩⟩
/-- a, b = e1, e2 of plain names -/
def dPar (i j : Nat) (Ta : TAD) : TSD := fun N τ M => Ta τ M (fun ds M1 => match ds with
  | [d, e] => N.nx ((τ.set i (some d)).set j (some e)) M1
  | _ => False) (N.ex τ)
theorem ds_par {i j : Nat} {x y : Str} {a b : Expr} {Ta : TAD} {px py pt : Pos} {kt k2 pt2} (hN : X.N.Nodup) (ha : DAs X E [a, b] Ta) (p : ∀ {ta : TA}, PA X [a, b] ta → PS X (.Assign [.Tuple [.Name x px, .Name y py] kt pt] (.Tuple [a, b] k2 pt2) pos) (tPar i j ta)) : DS X E (.Assign [.Tuple [.Name x px, .Name y py] kt pt] (.Tuple [a, b] k2 pt2) pos) (dPar i j Ta) := by
  refine ⟨(p ha.p).imp fun D σ H ⟨F, M, G, τ, N, rs, rep, h, lk⟩ => ?_⟩
  refine ⟨F, M, G, τ, _, _, rs, rep, h, fun ds M1 F1 H1 v q s1 rep1 r1 => ?_, lk.ex.at rs⟩
  dsimp only at q
  split at q
  · cases r1 with
    | cons r1 r2 =>
      cases r2 with
      | cons r2 r3 =>
        cases r3
        exact ⟨_, _, rfl, lk.nx _ _ _ F1 _ q s1 rep1 (((rs.mono s1).set r1 i).set r2 j)⟩
  · exact q.elim
/-- x += e, x -= e of numbers -/
def dAug (f : Int → Int → Int) (i : Nat) (Te : TD) : TSD := fun N τ M => match τ[i]? with
  | some (some (.int x)) => Te τ M (fun d M1 => match d with
    | .int y => N.nx (τ.set i (some (.int (f x y)))) M1
    | _ => False) (N.ex τ)
  | _ => False
theorem ds_aug (i : Nat) {x : Str} {pos' : Pos} {op : Operator} {f : Int → Int → Int} (hN : X.N.Nodup) (he : DE X E e Te) (ho : PIp X op (ipI f)) (hi : X.N[i]? = some x := by rfl) (hx : Loc X.env.scope x := by first | exact .inl rfl | exact .inr rfl) (hf : X.fn x = true ∨ X.env.scope.names.lookup x = some .local := by first | exact .inl rfl | exact .inr rfl | assumption) :
    DS X E (.AugAssign (.Name x pos') op e pos) (dAug f i Te) := by
  refine ⟨(ps_aug hN hi hx he.p ho hf).imp fun D σ H ⟨F, M, G, τ, N, rs, rep, h, lk⟩ => ?_⟩
  unfold dAug at h
  split at h
  · rename_i z ez
    obtain ⟨v, ev, r⟩ := rs.at ez
    cases r
    refine ⟨_, ev, F, M, G, τ, _, _, rs, rep, h, fun d M1 F1 H1 v q s1 rep1 r1 => ?_, lk.ex.at rs⟩
    cases d <;> try exact q.elim
    cases r1
    exact ⟨_, _, rfl, rfl, lk.nx _ _ _ F1 _ q s1 rep1 ((rs.mono s1).set (.int _) i)⟩
  · exact h.elim
end
/-! ### what is walked -/
def ItOk (K : Frg) (G : Hp) (J : L2.It) (F : Hp) (ds : List D) : Prop := ∀ i F' M' H, L2.Same F F' → Rep K F' M' G H → i ≤ ds.length → (i = ds.length → J.stop i H) ∧
  (i < ds.length → J.go i H ∧ ∀ x H', J.yld i H x H' → ∃ F'' d, L2.Same F' F'' ∧ Rep K F'' M' G H' ∧ ds[i]? = some d ∧ Rv K F'' x d)
abbrev TID := SD → MS → (List D → MS → Prop) → XD → Prop
def upI (K : Frg) (E : L2.St → XK) (T : TID) : TI := fun σ H R => ∃ F M G τ Rd W, Rs K F σ τ ∧ Rep K F M G H ∧ T τ M Rd W ∧ (∀ ds M' F' H' J, Rd ds M' → L2.Same F F' → Rep K F' M' G H' → (∀ G', ItOk K G' J F' ds) → R J H') ∧ KX K F G W (E σ)
structure DI (X : Cx) (E : L2.St → XK) (tg e : Expr) (T : TID) : Prop where
  p : PI X tg e (upI X.K E T)
theorem _root_.L2.PI.imp {X : Cx} {tg e : Expr} {t t' : TI} (h : PI X tg e t) (i : ∀ σ H R, t' σ H R → t σ H R) : PI X tg e t' := ⟨fun pins s σ H Q I q => h.run pins s σ H Q I (i _ _ _ q)⟩
theorem itok_same {K : Frg} {G : Hp} {J : L2.It} {F : Hp} {ds : List D} {vs : List V} (r : Rvs K F vs ds) (h : ∀ F' M' H, L2.Same F F' → Rep K F' M' G H → ∀ i, (vs.length ≤ i → J.stop i H) ∧ (∀ x, vs[i]? = some x → J.go i H) ∧ ∀ x H', J.yld i H x H' → H' = H ∧ ∀ y, vs[i]? = some y → x = y) : ItOk K G J F ds := fun i F' M' H s rep hi => by
  obtain ⟨h1, h2, h3⟩ := h F' M' H s rep i
  have hl := r.len
  refine ⟨fun e => h1 (by omega), fun hlt => ?_⟩
  have e : vs[i]? = some (vs[i]'(by omega)) := List.getElem?_eq_getElem _
  obtain ⟨d, e2, r2⟩ := r.at e
  refine ⟨h2 _ e, fun x H' y => ?_⟩
  obtain ⟨eH, hx⟩ := h3 x H' y
  subst eH
  refine ⟨F', d, L2.Same.refl F', rep, e2, ?_⟩
  rw [hx _ e]
  exact r2.mono s
section
variable {X : Cx} {E : L2.St → XK} {pos : Pos} {tg e : Expr} {es : List Expr} {Te : TD} {Ta : TAD}
/-- a list, a tuple, a text, frozen -/
def dIt (T : TD) : TID := fun τ M R W => T τ M (fun d M1 => match d with
  | .lst xs => R xs M1
  | .tup xs => R xs M1
  | _ => False) W
theorem di_sq (h : DE X E e Te) : DI X E tg e (dIt Te) := by
  refine ⟨(pi_sq h.p).imp fun σ H R ⟨F, M, G, τ, Rd, W, rs, rep, h, k, kx⟩ => ?_⟩
  refine ⟨F, M, G, τ, _, W, rs, rep, h, fun d M1 F1 H1 v q s1 rep1 r1 => ?_, kx⟩
  cases r1 <;> try exact q.elim
  · rename_i a vs ds sq rr
    refine ⟨a, rfl, .inr ⟨⟨vs, Same.sqT rep1.fz sq⟩, k _ M1 F1 H1 _ q s1 rep1 fun G' => itok_same rr fun F' M' H s rep i => ?_⟩⟩
    have sq' : SqT X.K H a vs := Same.sqT rep.fz (Same.sqT s sq)
    exact ⟨fun hi => ⟨vs, sq', hi⟩, fun x hx => ⟨vs, x, sq', hx⟩, fun x H' ⟨e, y⟩ => ⟨e, fun z hz => by rw [y vs sq'] at hz; exact Option.some.inj hz⟩⟩
  · rename_i a vs ds sq rr
    refine ⟨a, rfl, .inl ⟨⟨vs, SqL.of (rep1.fz _ _ sq)⟩, k _ M1 F1 H1 _ q s1 rep1 fun G' => itok_same rr fun F' M' H s rep i => ?_⟩⟩
    have sq' : SqL X.K H a vs := SqL.of (rep.fz _ _ (s _ _ sq))
    exact ⟨fun hi => ⟨vs, sq', hi⟩, fun x hx => ⟨vs, x, sq', hx⟩, fun x H' ⟨e, y⟩ => ⟨e, fun z hz => by rw [y vs sq'] at hz; exact Option.some.inj hz⟩⟩
def rangeD (lo : Int) (n : Nat) : List D := (List.range n).map fun (i : Nat) => .int (lo + (i : Int))
theorem range_rv {K : Frg} {F : Hp} (lo : Int) (n : Nat) : Rvs K F ((List.range n).map fun (i : Nat) => V.int (lo + (i : Int))) (rangeD lo n) := by
  have key : ∀ l : List Nat, Rvs K F (l.map fun (i : Nat) => V.int (lo + (i : Int))) (l.map fun (i : Nat) => D.int (lo + (i : Int))) := by
    intro l
    induction l with
    | nil => exact .nil
    | cons a l ih => exact .cons (.int _) ih
  exact key _
theorem itok_range {K : Frg} {G F : Hp} (lo : Int) (n : Nat) : ItOk K G (L2.Itr lo n) F (rangeD lo n) := itok_same (range_rv lo n) fun F' M' H s rep i => by
  refine ⟨fun hi => by
    have hi' : n ≤ i := by simpa using hi
    exact hi', fun x hx => ?_, fun x H' ⟨e, y⟩ => ⟨e, fun z hz => ?_⟩⟩
  · have h1 := (List.getElem?_eq_some_iff.mp hx).1
    have h2 : i < n := by simpa using h1
    exact h2
  · rw [List.getElem?_map] at hz
    cases hr : (List.range n)[i]? with
    | none => rw [hr] at hz; cases hz
    | some j =>
      rw [hr] at hz
      have : j = i := by
        have h1 := (List.getElem?_eq_some_iff.mp hr).2
        rw [List.getElem_range] at h1
        exact h1.symm
      subst this
      cases hz
      exact y
def dRng1 (T : TAD) : TID := fun τ M R W => T τ M (fun ds M1 => match ds with
  | [.int j] => -(2 ^ 62) ≤ j ∧ j < 2 ^ 62 ∧ R (rangeD 0 j.toNat) M1
  | _ => False) W
def dRng2 (T : TAD) : TID := fun τ M R W => T τ M (fun ds M1 => match ds with
  | [.int i, .int j] => -(2 ^ 62) ≤ i ∧ i < 2 ^ 62 ∧ -(2 ^ 62) ≤ j ∧ j < 2 ^ 62 ∧ R (rangeD i (j - i).toNat) M1
  | _ => False) W
theorem di_rng1 {a : Expr} {p : Pos} (hm : X.mg "range" = none) (ha : DAs X E [a] Ta) (hg : Gl X "range" := by rfl) (hs : starEach [a] X.env = [(false, eval a X.env)] := by rfl) : DI X E tg (.Call (.Name "range" p) [a] [] pos) (dRng1 Ta) := by
  refine ⟨(pi_range1 hg hm ha.p hs).imp fun σ H R ⟨F, M, G, τ, Rd, W, rs, rep, h, k, kx⟩ => ?_⟩
  refine ⟨F, M, G, τ, _, W, rs, rep, h, fun d M1 F1 H1 v q s1 rep1 r1 => ?_, kx⟩
  dsimp only at q
  split at q
  · cases r1 with
    | cons r1 r2 =>
      cases r2; cases r1
      exact ⟨_, rfl, q.1, q.2.1, k _ M1 F1 H1 _ q.2.2 s1 rep1 fun G' => itok_range 0 _⟩
  · exact q.elim
theorem di_rng2 {a b : Expr} {p : Pos} (hm : X.mg "range" = none) (ha : DAs X E [a, b] Ta) (hg : Gl X "range" := by rfl) (hs : starEach [a, b] X.env = [(false, eval a X.env), (false, eval b X.env)] := by rfl) (hs2 : starEach [b] X.env = [(false, eval b X.env)] := by rfl) : DI X E tg (.Call (.Name "range" p) [a, b] [] pos) (dRng2 Ta) := by
  refine ⟨(pi_range2 hg hm ha.p hs hs2).imp fun σ H R ⟨F, M, G, τ, Rd, W, rs, rep, h, k, kx⟩ => ?_⟩
  refine ⟨F, M, G, τ, _, W, rs, rep, h, fun d M1 F1 H1 v q s1 rep1 r1 => ?_, kx⟩
  dsimp only at q
  split at q
  · cases r1 with
    | cons r1 r2 =>
      cases r2 with
      | cons r2 r3 =>
        cases r3; cases r2; cases r1
        exact ⟨_, _, rfl, ⟨q.1, q.2.1, q.2.2.1, q.2.2.2.1⟩, k _ M1 F1 H1 _ q.2.2.2.2 s1 rep1 fun G' => itok_range _ _⟩
  · exact q.elim
end
/-! ### loops -/
def dLoop (tg : TGD) (tb : TSD) (N : EndsD) : List D → SD → MS → Prop
  | [], τ, M => N.nx τ M
  | d :: r, τ, M => tg d τ M (fun τ1 M1 => tb { N with nx := dLoop tg tb N r, ct := dLoop tg tb N r, bk := N.nx } τ1 M1) N.ex
def dFor (ti : TID) (tg : TGD) (tb : TSD) : TSD := fun N τ M => ti τ M (fun ds M1 => dLoop tg tb N ds τ M1) (N.ex τ)
def dWh (c : TTD) (tb : TSD) (N : EndsD) : Nat → SD → MS → Prop
  | 0, _, _ => False
  | n + 1, τ, M => c τ M (fun b M1 => dIte b (tb { N with nx := dWh c tb N n, ct := dWh c tb N n, bk := N.nx } τ M1) (N.nx τ M1)) (N.ex τ)
def dWhile (c : TTD) (tb : TSD) : TSD := fun N τ M => ∃ n, dWh c tb N n τ M
section
variable {X : Cx} {E : L2.St → XK} {pos : Pos} {tg iter c : Expr} {body : List Stmt} {ti : TID} {g : TGD} {tb : TSD} {tc : TTD}
theorem ds_for (hp : PassesOwn (model X.prog X.w) X.A X.env X.xe) (hc : X.calm = true) (hi : DI X E tg iter ti) (hg : DG X E tg g) (hb : DSs X E body tb) (hs : ∀ x, foldedSetIterable iter X.env x = pure x := by intro _; rfl) : DS X E (.For tg iter body [] pos) (dFor ti g tb) := by
  refine ⟨(ps_for hp hc hi.p hg.p hb.p hs).imp fun D σ H ⟨F, M, G, τ, N, rs, rep, h, lk⟩ => ?_⟩
  refine ⟨F, M, G, τ, _, _, rs, rep, h, fun ds M1 F1 H1 J q s1 rep1 ok => ?_, lk.ex.at rs⟩
  have ok := ok G
  refine ⟨fun i m σ H => m = ds.length - i ∧ i ≤ ds.length ∧ ∃ F2 M2 τ2, L2.Same F1 F2 ∧ Rs X.K F2 σ τ2 ∧ Rep X.K F2 M2 G H ∧ dLoop g tb N (ds.drop i) τ2 M2, ⟨_, rfl, Nat.zero_le _, F1, M1, τ, L2.Same.refl F1, rs.mono s1, rep1, q⟩, ?_⟩
  rintro i m σ2 H2 ⟨rfl, hi, F2, M2, τ2, s2, rs2, rep2, q2⟩
  obtain ⟨o1, o2⟩ := ok i F2 M2 H2 s2 rep2 hi
  by_cases hlt : i < ds.length
  · obtain ⟨go, yld⟩ := o2 hlt
    refine .inr ⟨go, fun σ' H' => ∃ F3 M3 τ3, L2.Same F1 F3 ∧ Rs X.K F3 σ' τ3 ∧ Rep X.K F3 M3 G H' ∧ dLoop g tb N (ds.drop (i + 1)) τ3 M3, fun σ' H' z => ⟨ds.length - (i + 1), by omega, rfl, hlt, z⟩, fun x H' y => ?_⟩
    obtain ⟨F3, d, s3, rep3, e, r⟩ := yld x H' y
    have ed : ds.drop i = d :: ds.drop (i + 1) := by
      obtain ⟨h1, h2⟩ := List.getElem?_eq_some_iff.mp e
      rw [List.drop_eq_getElem_cons hlt, h2]
    rw [ed] at q2
    have s13 := s2.trans s3
    refine ⟨F3, M2, G, τ2, d, _, N.ex, r, rs2.mono s3, rep3, q2, fun σ4 τ4 M4 F4 H4 q4 s4 rep4 rs4 => ?_, lk.ex.le (s1.trans s13)⟩
    have s14 := s13.trans s4
    refine ⟨F4, M4, G, τ4, _, rs4, rep4, q4, ⟨?_, lk.rt.le (s1.trans s14), lk.nx.le (s1.trans s14), ?_, lk.ex.le (s1.trans s14)⟩⟩
    · exact fun σ5 τ5 M5 F5 H5 q5 s5 rep5 rs5 => ⟨F5, M5, τ5, s14.trans s5, rs5, rep5, q5⟩
    · exact fun σ5 τ5 M5 F5 H5 q5 s5 rep5 rs5 => ⟨F5, M5, τ5, s14.trans s5, rs5, rep5, q5⟩
  · have e : i = ds.length := by omega
    refine .inl ⟨o1 e, ?_⟩
    rw [e, List.drop_length] at q2
    exact lk.nx _ _ _ F2 _ q2 (s1.trans s2) rep2 rs2
theorem ds_while (hp : PassesOwn (model X.prog X.w) X.A X.env X.xe) (hc : DT X E c tc) (hb : DSs X E body tb) : DS X E (.While c body [] pos) (dWhile tc tb) := by
  refine ⟨(ps_while hp hc.p hb.p).imp fun D σ H ⟨F, M, G, τ, N, rs, rep, ⟨n, h⟩, lk⟩ => ?_⟩
  refine ⟨fun m σ H => ∃ F2 M2 τ2, L2.Same F F2 ∧ Rs X.K F2 σ τ2 ∧ Rep X.K F2 M2 G H ∧ dWh tc tb N m τ2 M2, ⟨n, F, M, τ, L2.Same.refl F, rs, rep, h⟩, ?_⟩
  rintro m σ2 H2 ⟨F2, M2, τ2, s2, rs2, rep2, q2⟩
  cases m with
  | zero => exact q2.elim
  | succ m =>
    refine ⟨F2, M2, G, τ2, _, _, rs2, rep2, q2, fun b M3 F3 H3 q3 s3 rep3 => ?_, (lk.ex.le s2).at rs2⟩
    have s23 := s2.trans s3
    cases b with
    | true =>
      refine iteT ⟨fun σ' H' => ∃ F3 M3 τ3, L2.Same F F3 ∧ Rs X.K F3 σ' τ3 ∧ Rep X.K F3 M3 G H' ∧ dWh tc tb N m τ3 M3, fun σ' H' z => ⟨m, Nat.lt_succ_self m, z⟩, F3, M3, G, τ2, _, rs2.mono s3, rep3, q3.1 rfl, ⟨?_, lk.rt.le s23, lk.nx.le s23, ?_, lk.ex.le s23⟩⟩
      · exact fun σ5 τ5 M5 F5 H5 q5 s5 rep5 rs5 => ⟨F5, M5, τ5, s23.trans s5, rs5, rep5, q5⟩
      · exact fun σ5 τ5 M5 F5 H5 q5 s5 rep5 rs5 => ⟨F5, M5, τ5, s23.trans s5, rs5, rep5, q5⟩
    | false => exact iteF (lk.nx _ _ _ F3 _ (q3.2 rfl) s23 rep3 (rs2.mono s3))
end
end RS

set_option maxRecDepth 100000
set_option maxHeartbeats 4000000
namespace RS
open PySem PySem.Spec PyProof.Rows L2 NdefX He PySem.W
variable [Tbls]
/-! ### targets of a comprehension: its own names alone -/
abbrev E0' : L2.St → XK := fun _ => E0
def KNw (K : Frg) (F G : Hp) (vs : List Nat) (σ : L2.St) (n : SD → MS → Prop) (q : L2.St → Hp → Prop) : Prop := ∀ σ' τ' M' F' H', wipe σ' vs = wipe σ vs → n τ' M' → L2.Same F F' → Rep K F' M' G H' → Rs K F' σ' τ' → q σ' H'
def upGw (K : Frg) (vs : List Nat) (T : TGD) : TG := fun v σ H Q => ∃ F M G τ d N, Rv K F v d ∧ Rs K F σ τ ∧ Rep K F M G H ∧ T d τ M N (fun _ => XF) ∧ KNw K F G vs σ N Q
def upGsw (K : Frg) (vs : List Nat) (T : TGDs) : TGs := fun v σ H Q => ∃ F M G τ d N, Rvs K F v d ∧ Rs K F σ τ ∧ Rep K F M G H ∧ T d τ M N (fun _ => XF) ∧ KNw K F G vs σ N Q
structure DGw (X : Cx) (vs : List Nat) (e : Expr) (T : TGD) : Prop where
  p : PG X e (upGw X.K vs T)
structure DGsw (X : Cx) (vs : List Nat) (e : List Expr) (T : TGDs) : Prop where
  p : PGs X e (upGsw X.K vs T)
theorem wipe_set {i : Nat} {v : Option V} : ∀ {vs : List Nat} {σ : L2.St}, i ∈ vs → wipe (σ.set i v) vs = wipe σ vs
  | j :: vs, σ, h => by
    show (wipe (σ.set i v) vs).set j none = (wipe σ vs).set j none
    by_cases hm : i ∈ vs
    · rw [wipe_set hm]
    · have e : i = j := by simpa [hm] using h
      subst e
      have com : ∀ {us : List Nat} {ρ : L2.St}, i ∉ us → wipe (ρ.set i v) us = (wipe ρ us).set i v := by
        intro us
        induction us with
        | nil => intro ρ _; rfl
        | cons k us ih =>
          intro ρ hk
          rw [List.mem_cons, not_or] at hk
          show (wipe (ρ.set i v) us).set k none = ((wipe ρ us).set k none).set i v
          rw [ih hk.2, List.set_comm _ _ hk.1]
      rw [com hm, List.set_set]
section
variable {X : Cx} {pos : Pos} {e : Expr} {es : List Expr} {T : TGD} {U : TGDs} {vs : List Nat}
theorem dgw_name (i : Nat) {x : Str} (hN : X.N.Nodup) (hm : i ∈ vs := by decide) (hi : X.N[i]? = some x := by rfl) (hx : Loc X.env.scope x := by first | exact .inl rfl | exact .inr rfl) (hf : X.fn x = true ∨ X.env.scope.names.lookup x = some .local := by first | exact .inl rfl | exact .inr rfl | assumption) : DGw X vs (.Name x pos) (dgName i) :=
  ⟨(pg_name hN hi hx hf).imp fun v σ H Q ⟨F, M, G, τ, d, N, r, rs, rep, h, k⟩ => k _ _ M F H (wipe_set hm) h (L2.Same.refl F) rep (rs.set r i)⟩
theorem dgsw_nil : DGsw X vs [] dgNil := by
  refine ⟨pgs_nil.imp fun v σ H Q ⟨F, M, G, τ, ds, N, r, rs, rep, h, k⟩ => ?_⟩
  cases r with
  | nil => exact ⟨rfl, k _ _ M F H rfl h (L2.Same.refl F) rep rs⟩
  | cons _ _ => exact h.elim
theorem dgsw_cons (h1 : DGw X vs e T) (h2 : DGsw X vs es U) (hs : (assignEach (e :: es) X.env).map (·.2) = assign e X.env :: (assignEach es X.env).map (·.2) := by rfl) : DGsw X vs (e :: es) (dgCons T U) := by
  refine ⟨(pgs_cons h1.p h2.p hs).imp fun v σ H Q ⟨F, M, G, τ, ds, N, r, rs, rep, h, k⟩ => ?_⟩
  cases r with
  | nil => exact h.elim
  | cons a b =>
    refine ⟨_, _, rfl, F, M, G, τ, _, _, a, rs, rep, h, fun σ1 τ1 M1 F1 H1 w1 q s1 rep1 rs1 => ?_⟩
    exact ⟨F1, M1, G, τ1, _, N, b.mono s1, rs1, rep1, q, fun σ' τ' M' F' H' w' n s' rep' rs' => k σ' τ' M' F' H' (w'.trans w1) n (s1.trans s') rep' rs'⟩
theorem dgw_tup {K : Frg} (hk : X.K = K) {k n : Nat} (hc : X.calm = true) (h : DGsw X vs es U) (hn : (assignEach es X.env).length = n := by rfl) (hst : (assignEach es X.env).findIdx? (·.1) = none := by rfl) : DGw X vs (.Tuple es k pos) (dgTup n U) := by
  refine ⟨(pg_unp (K := X.K) rfl hc h.p hn hst).imp fun v σ H Q ⟨F, M, G, τ, d, N, r, rs, rep, h, k⟩ => ?_⟩
  unfold dgTup at h
  split at h
  · rename_i ds e
    obtain ⟨a, ws, rfl, h1, r1⟩ := vw_tup rep r e
    exact ⟨a, ws, rfl, .inl (Same.sqT rep.fz h1), by rw [r1.len]; exact h.1, F, M, G, τ, ds, N, r1, rs, rep, h.2, k⟩
  · rename_i ds e
    obtain ⟨a, ws, rfl, h1, r1⟩ := vw_lst rep r e
    exact ⟨a, ws, rfl, .inr (SqL.of h1), by rw [r1.len]; exact h.1, F, M, G, τ, ds, N, r1, rs, rep, h.2, k⟩
  · exact h.elim
end
structure DTs (X : Cx) (E : L2.St → XK) (ifs : List Expr) (T : TTD) : Prop where
  p : PTs X ifs (upT X.K E T)
theorem _root_.L2.PTs.imp {X : Cx} {e : List Expr} {t t' : TT} (h : PTs X e t) (i : ∀ σ H Q, t' σ H Q → t σ H Q) : PTs X e t' := ⟨fun pins s σ H Q I q => h.run pins s σ H Q I (i _ _ _ q)⟩
def dYes : TTD := fun _ M R _ => R true M
theorem dts_nil {X : Cx} {E : L2.St → XK} : DTs X E [] dYes := ⟨pts_nil.imp fun σ H Q ⟨F, M, G, τ, R, W, rs, rep, h, k, kx⟩ => k true M F H h (L2.Same.refl F) rep⟩
theorem dts_one {X : Cx} {E : L2.St → XK} {c : Expr} {T : TTD} (h : DT X E c T) : DTs X E [c] T := ⟨pts_one h.p⟩
/-! ### comprehensions -/
def dLcL (g : TGD) (tt : TTD) (te : TD) (vs : List Nat) (τ : SD) (R : List D → MS → Prop) : List D → List D → MS → Prop
  | [], acc, M => R acc M
  | d :: r, acc, M => g d τ M (fun τ2 M2 => tt τ2 M2 (fun b M3 => dIte b (te τ2 M3 (fun y M4 => acc.length < sizeLine ∧ dLcL g tt te vs τ R r (acc ++ [y]) M4) XF) (dLcL g tt te vs τ R r acc M3)) XF) (fun _ => XF)
def dLc (ti : TID) (g : TGD) (tt : TTD) (te : TD) (vs : List Nat) : TD := fun τ M R W => ti τ M (fun ds M1 => dLcL g tt te vs (wipeD τ vs) (fun acc M2 => R (.lst acc) M2) ds [] M1) W
/-- .. a list that will change -/
def dLcM (ti : TID) (g : TGD) (tt : TTD) (te : TD) (vs : List Nat) : TD := fun τ M R W => ti τ M (fun ds M1 => dLcL g tt te vs (wipeD τ vs) (fun acc M2 => ∀ p, M2 p = none → R (.ref p) (updM M2 p (.lst acc))) ds [] M1) W
section
variable {X : Cx} {E : L2.St → XK} {ti : TID} {g : TGD} {tt : TTD} {te : TD} {vs : List Nat}
theorem up_lc {S : TD} (hS : S = dLc ti g tt te vs ∨ S = dLcM ti g tt te vs) {σ : L2.St} {H : Hp} {Q : VK} (h : up X.K E S σ H Q) : tLc (upI X.K E ti) (upGw X.K vs g) (upT X.K E0' tt) (up X.K E0' te) vs σ H Q := by
  obtain ⟨F, M, G, τ, R, W, rs, rep, h, k, kx⟩ := h
  obtain ⟨Re, hR, h⟩ : ∃ Re : List D → MS → Prop, (∀ acc M2 p F2 accV G H, Re acc M2 → Rvs X.K F2 accV acc → Rep X.K F2 M2 (upd G p (.lst accV)) H → G p = none → KQ X.K F2 G R Q → Q (.ref p) H) ∧ ti τ M (fun ds M1 => dLcL g tt te vs (wipeD τ vs) Re ds [] M1) W := by
    rcases hS with rfl | rfl
    · refine ⟨_, fun acc M2 p F2 accV G H hr rv rep gp k => ?_, h⟩
      obtain ⟨rep', s⟩ := rep.frzG gp
      exact k _ M2 _ H _ hr s rep' (.lst upd_same (rv.mono s))
    · refine ⟨_, fun acc M2 p F2 accV G H hr rv rep gp k => ?_, h⟩
      have hp := rep.fr p _ upd_same
      have mp : M2 p = none := by
        cases e : M2 p with
        | none => rfl
        | some m =>
          have := (rep.mu p m e).2.1
          rw [upd_same] at this
          cases this
      refine k _ _ F2 H _ (hr p mp) (L2.Same.refl F2) ⟨rep.fz, fun a m e => ?_, fun a o e => rep.fr a o ?_, rep.nt, fun a o e => rep.ng a o ?_, rep.tb⟩ (.ref p)
      · by_cases ha : a = p
        · subst ha
          rw [updM_same] at e
          cases e
          exact ⟨hp.2, gp, by rw [hp.1]; exact rv⟩
        · rw [updM_ne ha] at e
          obtain ⟨x, y, z⟩ := rep.mu a m e
          rw [upd_ne ha] at y
          exact ⟨x, y, z⟩
      · have ha : a ≠ p := by rintro rfl; rw [gp] at e; cases e
        rw [upd_ne ha]
        exact e
      · have ha : a ≠ p := by rintro rfl; rw [gp] at e; cases e
        rw [upd_ne ha]
        exact e
  refine ⟨F, M, G, τ, _, W, rs, rep, h, fun ds M1 F1 H1 J q s1 rep1 ok Dd hD => ?_, kx⟩
  have gD : G Dd = none := rep1.freeG hD
  refine ⟨fun i m H => m = ds.length - i ∧ i ≤ ds.length ∧ ∃ F2 M2 acc accV, L2.Same F1 F2 ∧ Rvs X.K F2 accV acc ∧ Rep X.K F2 M2 (upd G Dd (.lst accV)) H ∧ dLcL g tt te vs (wipeD τ vs) Re (ds.drop i) acc M2, ⟨_, rfl, Nat.zero_le _, F1, M1, [], [], L2.Same.refl F1, .nil, rep1.newG hD, q⟩, ?_⟩
  rintro i m H2 ⟨rfl, hi, F2, M2, acc, accV, s2, rv2, rep2, q2⟩
  obtain ⟨o1, o2⟩ := ok _ i F2 M2 H2 s2 rep2 hi
  by_cases hlt : i < ds.length
  · obtain ⟨go, yld⟩ := o2 hlt
    refine .inr ⟨go, fun H' => ∃ F3 M3 acc accV, L2.Same F1 F3 ∧ Rvs X.K F3 accV acc ∧ Rep X.K F3 M3 (upd G Dd (.lst accV)) H' ∧ dLcL g tt te vs (wipeD τ vs) Re (ds.drop (i + 1)) acc M3, fun H' z => ⟨ds.length - (i + 1), by omega, rfl, hlt, z⟩, fun x H' y => ?_⟩
    obtain ⟨F3, d, s3, rep3, e, r⟩ := yld x H' y
    have ed : ds.drop i = d :: ds.drop (i + 1) := by
      obtain ⟨h1, h2⟩ := List.getElem?_eq_some_iff.mp e
      rw [List.drop_eq_getElem_cons hlt, h2]
    rw [ed] at q2
    have rsw : Rs X.K F3 (wipe σ vs) (wipeD τ vs) := (((rs.mono s1).mono s2).mono s3).wipe vs
    refine ⟨F3, M2, _, wipeD τ vs, d, _, r, rsw, rep3, q2, fun σ4 τ4 M4 F4 H4 w4 q4 s4 rep4 rs4 => ⟨?_, ?_⟩⟩
    · rw [w4]
      have idem : ∀ (us : List Nat) (ρ : L2.St), wipe (wipe ρ us) us = wipe ρ us := by
        intro us ρ
        have fix : ∀ (ws : List Nat), (∀ j ∈ ws, j ∈ us) → wipe (wipe ρ us) ws = wipe ρ us := by
          intro ws
          induction ws with
          | nil => intro _; rfl
          | cons j ws ih =>
            intro hj
            show (wipe (wipe ρ us) ws).set j none = _
            rw [ih fun k hk => hj k (List.mem_cons_of_mem _ hk)]
            apply List.ext_getElem?
            intro n
            by_cases hn : j = n
            · subst hn
              by_cases hl : j < (wipe ρ us).length
              · rw [List.getElem?_set_self hl]
                cases hw : (wipe ρ us)[j]? with
                | none => exact absurd (List.getElem?_eq_none_iff.mp hw) (by omega)
                | some o =>
                  cases o with
                  | none => rfl
                  | some x => exact absurd (hj j (List.mem_cons_self ..)) (wipe_some hw).2
              · rw [List.getElem?_eq_none (by rw [List.length_set]; omega), List.getElem?_eq_none (by omega)]
            · rw [List.getElem?_set_ne hn]
        exact fix us fun _ h => h
      exact idem vs σ
    · refine ⟨F4, M4, _, τ4, _, XF, rs4, rep4, q4, fun b M5 F5 H5 q5 s5 rep5 => ?_, KX.none⟩
      have s15 := ((s2.trans s3).trans s4).trans s5
      cases b with
      | true =>
        refine iteT ⟨F5, M5, _, τ4, _, XF, rs4.mono s5, rep5, q5.1 rfl, fun y M6 F6 H6 v q6 s6 rep6 r6 => ?_, KX.none⟩
        have rv6 := (((rv2.mono s3).mono s4).mono s5).mono s6
        exact ⟨accV, (rep6.fr Dd _ upd_same).1, by rw [rv6.len]; exact q6.1, F6, M6, _, _, s15.trans s6, rv6.snoc r6, rep6.putG, q6.2⟩
      | false => exact iteF ⟨F5, M5, acc, accV, s15, ((rv2.mono s3).mono s4).mono s5, rep5, q5.2 rfl⟩
  · have e : i = ds.length := by omega
    refine .inl ⟨o1 e, ?_⟩
    rw [e, List.drop_length] at q2
    exact hR acc M2 Dd F2 accV G H2 q2 rv2 rep2 gD ((k.le s1).le s2)
variable {elt tg iter : Expr} {ifs : List Expr} {scope : Scope} {own : List (Str × Nat)} {pos : Pos}
theorem de_lc (hc : X.calm = true) (hN : X.N.Nodup) (hi : DI X E tg iter ti) (ok : BlkOk X.N X.env.scope scope own)
    (hg : ∀ (s : Shared) (H : Hp) (C : Addr) (cl : List (Str × Addr)) (fp : List Addr), DGw (X.blk s H scope (compEnvC scope cl C X.env) fp) (own.map (·.2)) tg g) (ht : ∀ (s : Shared) (H : Hp) (C : Addr) (cl : List (Str × Addr)) (fp : List Addr), DTs (X.blk s H scope (compEnvC scope cl C X.env) fp) E0' ifs tt)
    (he : ∀ (s : Shared) (H : Hp) (C : Addr) (cl : List (Str × Addr)) (fp : List Addr), DE (X.blk s H scope (compEnvC scope cl C X.env) fp) E0' elt te) (hs : ∀ x, foldedSetIterable iter X.env x = pure x := by intro _; rfl) :
    DE X E (.ListComp elt [⟨tg, iter, ifs, 0⟩] scope pos) (dLc ti g tt te (own.map (·.2))) :=
  ⟨(pe_lc (g := upGw X.K (own.map (·.2)) g) (tt := upT X.K E0' tt) (te := up X.K E0' te) hc hN hi.p ok (fun s H C cl fp => (hg s H C cl fp).p) (fun s H C cl fp => (ht s H C cl fp).p) (fun s H C cl fp => (he s H C cl fp).p) hs).imp fun σ H Q h => up_lc (.inl rfl) h⟩
theorem de_lcM (hc : X.calm = true) (hN : X.N.Nodup) (hi : DI X E tg iter ti) (ok : BlkOk X.N X.env.scope scope own)
    (hg : ∀ (s : Shared) (H : Hp) (C : Addr) (cl : List (Str × Addr)) (fp : List Addr), DGw (X.blk s H scope (compEnvC scope cl C X.env) fp) (own.map (·.2)) tg g) (ht : ∀ (s : Shared) (H : Hp) (C : Addr) (cl : List (Str × Addr)) (fp : List Addr), DTs (X.blk s H scope (compEnvC scope cl C X.env) fp) E0' ifs tt)
    (he : ∀ (s : Shared) (H : Hp) (C : Addr) (cl : List (Str × Addr)) (fp : List Addr), DE (X.blk s H scope (compEnvC scope cl C X.env) fp) E0' elt te) (hs : ∀ x, foldedSetIterable iter X.env x = pure x := by intro _; rfl) :
    DE X E (.ListComp elt [⟨tg, iter, ifs, 0⟩] scope pos) (dLcM ti g tt te (own.map (·.2))) :=
  ⟨(pe_lc (g := upGw X.K (own.map (·.2)) g) (tt := upT X.K E0' tt) (te := up X.K E0' te) hc hN hi.p ok (fun s H C cl fp => (hg s H C cl fp).p) (fun s H C cl fp => (ht s H C cl fp).p) (fun s H C cl fp => (he s H C cl fp).p) hs).imp fun σ H Q h => up_lc (.inr rfl) h⟩
/-- name = [..] on one line -/
theorem ds_setLc (i : Nat) {y : Str} {py : Pos} {spos : Pos} (hc : X.calm = true) (hN : X.N.Nodup) (hy : X.N[i]? = some y) (hyl : X.env.scope.names.lookup y = some .local)
    (hsw : swapsWith (.ListComp elt [⟨tg, iter, ifs, 0⟩] scope pos) (some (.Name y py)) spos.line X.env = pure true) (hi : DI X E tg iter ti) (ok : BlkOk X.N X.env.scope scope own)
    (hg : ∀ (s : Shared) (H : Hp) (C : Addr) (cl : List (Str × Addr)) (fp : List Addr), DGw (X.blk s H scope (compEnvC scope cl C X.env) fp) (own.map (·.2)) tg g) (ht : ∀ (s : Shared) (H : Hp) (C : Addr) (cl : List (Str × Addr)) (fp : List Addr), DTs (X.blk s H scope (compEnvC scope cl C X.env) fp) E0' ifs tt)
    (he : ∀ (s : Shared) (H : Hp) (C : Addr) (cl : List (Str × Addr)) (fp : List Addr), DE (X.blk s H scope (compEnvC scope cl C X.env) fp) E0' elt te) (hs : ∀ x, foldedSetIterable iter X.env x = pure x := by intro _; rfl) :
    DS X E (.Assign [.Name y py] (.ListComp elt [⟨tg, iter, ifs, 0⟩] scope pos) spos) (dSet i (dLc ti g tt te (own.map (·.2)))) := by
  refine ⟨(ps_setLc (g := upGw X.K (own.map (·.2)) g) (tt := upT X.K E0' tt) (te := up X.K E0' te) hc hN hy hyl hsw hi.p ok (fun s H C cl fp => (hg s H C cl fp).p) (fun s H C cl fp => (ht s H C cl fp).p) (fun s H C cl fp => (he s H C cl fp).p) hs).imp fun D σ H ⟨F, M, G, τ, N, rs, rep, h, lk⟩ => ?_⟩
  exact up_lc (E := E) (.inl rfl) ⟨F, M, G, τ, _, _, rs, rep, h, fun d M1 F1 H1 v q s1 rep1 r1 => lk.nx _ _ _ F1 _ q s1 rep1 ((rs.mono s1).set r1 i), lk.ex.at rs⟩
theorem ds_setLcM (i : Nat) {y : Str} {py : Pos} {spos : Pos} (hc : X.calm = true) (hN : X.N.Nodup) (hy : X.N[i]? = some y) (hyl : X.env.scope.names.lookup y = some .local)
    (hsw : swapsWith (.ListComp elt [⟨tg, iter, ifs, 0⟩] scope pos) (some (.Name y py)) spos.line X.env = pure true) (hi : DI X E tg iter ti) (ok : BlkOk X.N X.env.scope scope own)
    (hg : ∀ (s : Shared) (H : Hp) (C : Addr) (cl : List (Str × Addr)) (fp : List Addr), DGw (X.blk s H scope (compEnvC scope cl C X.env) fp) (own.map (·.2)) tg g) (ht : ∀ (s : Shared) (H : Hp) (C : Addr) (cl : List (Str × Addr)) (fp : List Addr), DTs (X.blk s H scope (compEnvC scope cl C X.env) fp) E0' ifs tt)
    (he : ∀ (s : Shared) (H : Hp) (C : Addr) (cl : List (Str × Addr)) (fp : List Addr), DE (X.blk s H scope (compEnvC scope cl C X.env) fp) E0' elt te) (hs : ∀ x, foldedSetIterable iter X.env x = pure x := by intro _; rfl) :
    DS X E (.Assign [.Name y py] (.ListComp elt [⟨tg, iter, ifs, 0⟩] scope pos) spos) (dSet i (dLcM ti g tt te (own.map (·.2)))) := by
  refine ⟨(ps_setLc (g := upGw X.K (own.map (·.2)) g) (tt := upT X.K E0' tt) (te := up X.K E0' te) hc hN hy hyl hsw hi.p ok (fun s H C cl fp => (hg s H C cl fp).p) (fun s H C cl fp => (ht s H C cl fp).p) (fun s H C cl fp => (he s H C cl fp).p) hs).imp fun D σ H ⟨F, M, G, τ, N, rs, rep, h, lk⟩ => ?_⟩
  exact up_lc (E := E) (.inr rfl) ⟨F, M, G, τ, _, _, rs, rep, h, fun d M1 F1 H1 v q s1 rep1 r1 => lk.nx _ _ _ F1 _ q s1 rep1 ((rs.mono s1).set r1 i), lk.ex.at rs⟩
end
end RS

set_option maxRecDepth 100000
set_option maxHeartbeats 4000000
namespace RS
open PySem PySem.Spec PyProof.Rows L2 NdefX He PySem.W
variable [Tbls]
/-! ### promises over data -/
abbrev SpD := List D → MS → (D → MS → Prop) → XD → Prop
def upSp (K : Frg) (S : SpD) : Sp := fun vs H Q E => ∃ F M G ds R W, Rvs K F vs ds ∧ Rep K F M G H ∧ S ds M R W ∧ KQ K F G R Q ∧ KX K F G W E
def startD (N : List Str) (ds : List D) : SD := ds.map some ++ List.replicate (N.length - ds.length) none
/-- what is not needed may be forgotten -/
def SubM (A B : MS) : Prop := ∀ a m, A a = some m → B a = some m
theorem SubM.refl (A : MS) : SubM A A := fun _ _ h => h
theorem SubM.trans {A B C : MS} (h : SubM A B) (k : SubM B C) : SubM A C := fun a m e => k a m (h a m e)
theorem SubM.new {A B : MS} {p : Addr} {m : MO} (h : SubM A B) (hp : A p = none) : SubM A (updM B p m) := fun a n e => by
  have ne : a ≠ p := by rintro rfl; rw [hp] at e; cases e
  rw [updM_ne ne]
  exact h a n e
theorem SubM.upd {A B : MS} {p : Addr} {m : MO} (h : SubM A B) : SubM (updM A p m) (updM B p m) := fun a n e => by
  by_cases ha : a = p
  · subst ha
    rw [updM_same] at e ⊢
    exact e
  · rw [updM_ne ha] at e ⊢
    exact h a n e
theorem SubM.del {A B : MS} {p : Addr} (h : SubM A B) (hp : A p = none) : SubM A (delM B p) := fun a n e => by
  have ne : a ≠ p := by rintro rfl; rw [hp] at e; cases e
  rw [delM_ne ne]
  exact h a n e
def Rt (R : D → MS → Prop) (d : D) (M : MS) : Prop := ∃ M', SubM M' M ∧ R d M'
def Wt (W : XD) : XD := fun C fs M => ∃ M', SubM M' M ∧ W C fs M'
theorem Rt.of {R : D → MS → Prop} {d : D} {M : MS} (h : R d M) : Rt R d M := ⟨M, SubM.refl M, h⟩
theorem Wt.of {W : XD} {C : Addr} {fs : List (Str × D)} {M : MS} (h : W C fs M) : Wt W C fs M := ⟨M, SubM.refl M, h⟩
/-- THE RULE for a def -/
theorem okD {P : Program} {w : World} {K : Frg} {mg : Str → Option Value} {base : Heap} {x qual : Str} {params : Arguments} {body : List Stmt} {scope : Scope} {dvs : List V} {kws : List (Str × V)} {f : Addr} {fd : FuncData} {N ps : List Str} {k : Nat} {S : SpD}
    (F : FunD K x qual params body scope dvs kws f fd) (sc : FnScope N ps scope) (len : ∀ ds M R W, S ds M R W → ds.length = ps.length)
    (hbody : ∀ (cdv : Value) (A : Around) (outer : List Env) (s : Shared) (H : Hp) (E : XK), Room k (A.deeper (envOfC qual scope s.heap.objs.size f cdv)) →
      (∀ σ, PassesAt (L2.CX P w) (cxOf (L2.CX P w) P w K mg base N qual scope f cdv A outer s H E) σ E) → Takes (cxOf (L2.CX P w) P w K mg base N qual scope f cdv A outer s H E) (fun c d _ H => E c d H) →
      ∃ T, DSs (cxOf (L2.CX P w) P w K mg base N qual scope f cdv A outer s H E) (fun _ => E) body T ∧ ∀ ds M R W, S ds M R W → T { nx := fun _ M' => Rt R .non M', rt := Rt R, ex := fun _ => Wt W } (startD N ds) M) : FnOk P w K mg base (L2.CX P w) (k + 1) f fd ps (upSp K S) := by
  refine F.ok sc (fun vs H Q E h => ?_) (fun cdv A outer s H vs Q E hr h => ?_)
  · obtain ⟨F, M, G, ds, R, W, r, rep, hs, _⟩ := h
    rw [r.len]
    exact len _ _ _ _ hs
  · obtain ⟨F, M, G, ds, R, W, r, rep, hs, k, kx⟩ := h
    have tk : Takes (cxOf (L2.CX P w) P w K mg base N qual scope f cdv A outer s H E) (fun c d _ H => E c d H) := takes_of rfl rfl rfl rfl
    obtain ⟨T, hT, hw⟩ := hbody cdv A outer s H E hr (fun σ => passAt tk σ) tk
    refine ⟨_, hT.p, F, M, G, startD N ds, _, Rs.start r, rep, hw ds M R W hs, ⟨?_, ?_, ?_, ?_, ?_⟩⟩
    · exact fun σ' τ' M' F' H' ⟨M2, sb, q⟩ s rep' _ => k _ M2 F' H' _ q s (rep'.weak sb) .non
    · exact fun d M' F' H' v ⟨M2, sb, q⟩ s rep' r => k _ M2 F' H' v q s (rep'.weak sb) r
    · exact fun _ _ _ _ _ z => z.elim
    · exact fun _ _ _ _ _ z => z.elim
    · exact fun σ' τ' F' s _ C fs M' F2 H' a ⟨M2, sb, q⟩ s2 rep' r => kx C fs M2 F2 H' a q (s.trans s2) (rep'.weak sb) r
section
variable {X : Cx} {E : L2.St → XK} {CX : CXT} {lv : Nat} {x m : Str} {C : Addr} {ps : List Str} {dvs : List V} {dds : List D} {S : SpD} {p pos apos : Pos} {e o : Expr} {es : List Expr} {Ta : TAD} {To : TD}
/-- defaults, as data wherever -/
def Dfl (K : Frg) (dvs : List V) (dds : List D) : Prop := ∀ F, Rvs K F dvs dds
theorem Dfl.nil {K : Frg} : Dfl K [] [] := fun _ => .nil
theorem run_fnD {sp : Sp} {E1 : XK} {f : Addr} {fd : FuncData} {ds : List Value} {pins : List (Addr × Obj)} {σ : L2.St} {H : Hp} {s : Shared} {Q : VK} {us : List Value} {vs : List V} (F : FnOk X.prog X.w X.K X.mg X.base CX lv f fd ps sp) (hr : Room lv X.A) (hb : Binds X.K fd ps ds) (hd : Vals dvs ds) (hx : PassesAt CX X σ E1)
    (I : Inv X pins σ H s) (r : Vals vs us) (h : sp (vs ++ dvs) H Q E1) : wpAny (model X.prog X.w) X.A (call (.ref f) us) (EP X pins σ Q) X.xe s := by
  have rr : Vals (vs ++ dvs) (us ++ ds) := r.append hd
  have len : (us ++ ds).length = ps.length := (rr.length.symm).trans (F.len _ _ _ _ h)
  have done := F.run X.A X.stack s H ⟨us, []⟩ (us ++ ds) (vs ++ dvs) Q E1 hr I.env0 (hb s us I.kIn len) rr h
  refine wpAny_call (codeAny_mono done fun r s' got => ?_)
  match r, got with
  | .error e, got => exact hx pins H s e s' I got
  | .ok (.ret u), got => exact I.after got
  | .ok .next, got => exact got.elim
  | .ok .brk, got => exact got.elim
  | .ok .cont, got => exact got.elim
def dCall (S : SpD) (dds : List D) (Ta : TAD) : TD := fun τ M R W => Ta τ M (fun ds M1 => S (ds ++ dds) M1 R W) W
theorem de_fn (F : Cal X.prog X.w X.K X.mg X.base CX lv x ps dvs (upSp X.K S)) (dd : Dfl X.K dvs dds) (hr : Room lv X.A) (hx : ∀ σ, PassesAt CX X σ (E σ)) (ha : DAs X E (e :: es) Ta) (hg : Gl X x := by rfl) (hdb : (x == ("__debug__" : Str)) = false := by decide)
    (he : starEach (e :: es) X.env = (false, eval e X.env) :: starEach es X.env := by rfl) (hpl : (backTo pos (starEach es X.env)).any (·.1) = false := by rfl) : DE X E (.Call (.Name x p) (e :: es) [] pos) (dCall S dds Ta) := by
  obtain ⟨f, fd, ds, FO, hm, hk, v, b⟩ := F.ex
  refine ⟨⟨fun pins s σ H Q I ⟨F, M, G, τ, R, W, rs, rep, h, k, kx⟩ => ?_⟩⟩
  refine wpAny_Call_Name_kw (ld_glob I hg hm ?_ hdb)
  have hA : upA X.K E Ta σ H (fun vs H1 => upSp X.K S (vs ++ dvs) H1 Q (E σ)) := ⟨F, M, G, τ, _, W, rs, rep, h, fun es' M1 F1 H1 vs q s1 rep1 r1 => ⟨F1, M1, G, _, R, W, r1.append (dd F1), rep1, q, k.le s1, kx.le s1⟩, kx⟩
  refine PySem.W.callWith_K (h₀ := X.base) I.ok.mod.kin hk (thn (ha.p.run pos pins s σ H _ I hA) fun us s1 ⟨vs, H1, I1, r, q⟩ => ⟨I1.kIn, ?_⟩) he hpl
  exact run_fnD FO hr b v (hx σ) I1 r q
theorem de_fn0 (F : Cal X.prog X.w X.K X.mg X.base CX lv x ps dvs (upSp X.K S)) (dd : Dfl X.K dvs dds) (hr : Room lv X.A) (hx : ∀ σ, PassesAt CX X σ (E σ)) (hg : Gl X x := by rfl) (hdb : (x == ("__debug__" : Str)) = false := by decide) : DE X E (.Call (.Name x p) [] [] pos) (dCall S dds dNil) := by
  obtain ⟨f, fd, ds, FO, hm, hk, v, b⟩ := F.ex
  refine ⟨⟨fun pins s σ H Q I ⟨F, M, G, τ, R, W, rs, rep, h, k, kx⟩ => ?_⟩⟩
  refine wpAny_Call_Name_kw (ld_glob I hg hm ?_ hdb)
  exact PySem.W.callWith_K0 I.kIn hk (run_fnD (us := []) (vs := []) FO hr b v (hx σ) I .nil ⟨F, M, G, _, R, W, dd F, rep, h, k, kx⟩)
/-- o.m(..), o an instance of the class at C -/
def dMeth (C : Addr) (m : Str) (S : SpD) (dds : List D) (To : TD) (Ta : TAD) : TD := fun τ M R W => To τ M (fun d M1 => match vw M1 d with
  | .ins C' gs => C' = C ∧ m ∉ gs.map (·.1) ∧ Ta τ M1 (fun ds M2 => S (d :: (ds ++ dds)) M2 R W) W
  | _ => False) W
theorem Rfs.no {K : Frg} {F : Hp} {m : Str} : ∀ {fs : List (Str × V)} {gs : List (Str × D)}, Rfs K F fs gs → m ∉ gs.map (·.1) → fs.lookup m = none
  | _, _, .nil, _ => rfl
  | _, _, .cons (k := g) x y, n => by
    rw [List.map_cons, List.mem_cons, not_or] at n
    rw [List.lookup_cons, beq_eq_false_iff_ne.mpr n.1]
    exact Rfs.no y n.2
theorem de_mt {pl : Sem Bool} (c : Cls X.K C) (F : Mtd X.prog X.w X.K X.mg X.base CX lv C m ps dvs (upSp X.K S)) (dd : Dfl X.K dvs dds) (hr : Room lv X.A) (hx : ∀ σ, PassesAt CX X σ (E σ)) (he : DE X E o To) (ha : DAs X E (e :: es) Ta)
    (hst : starEach (e :: es) X.env = (false, eval e X.env) :: starEach es X.env := by rfl) (hpl : (backTo pos (starEach es X.env)).any (·.1) = false := by rfl)
    (ht : eval (.Call (.Attribute o m apos) (e :: es) [] pos) X.env = (do
      let ov ← eval o X.env
      standAt apos.atName
      let (f, first) ← holding [ov] (getMethod ov m pl)
      callWith pos f first (backTo pos (starEach (e :: es) X.env)) (backToKw pos (keywordEach [] X.env))) := by rfl) : DE X E (.Call (.Attribute o m apos) (e :: es) [] pos) (dMeth C m S dds To Ta) := by
  obtain ⟨f, fd, ds, FO, hm, v, b⟩ := F.ex
  refine ⟨⟨fun pins s σ H Q I ⟨F, M, G, τ, R, W, rs, rep, h, k, kx⟩ => ?_⟩⟩
  have hO : up X.K E To σ H (fun x H1 => ∃ a dx fs, x = .ref a ∧ H1 a = some (.ins C dx fs) ∧ fs.lookup m = none ∧ upA X.K E Ta σ H1 (fun vs H2 => upSp X.K S (x :: (vs ++ dvs)) H2 Q (E σ))) := by
    refine ⟨F, M, G, τ, _, W, rs, rep, h, fun d M1 F1 H1 v q s1 rep1 r1 => ?_, kx⟩
    dsimp only at q
    split at q
    · rename_i C' gs e
      obtain ⟨rfl, nm, q⟩ := q
      obtain ⟨a, dx, fs, ev, e1, rr, _⟩ := vw_ins rep1 r1 e
      refine ⟨a, dx, fs, ev, e1, rr.no nm, F1, M1, G, τ, _, W, rs.mono s1, rep1, q, fun es' M2 F2 H2 vs q2 s2 rep2 r2 => ?_, kx.le s1⟩
      exact ⟨F2, M2, G, _, R, W, .cons (r1.mono s2) (r2.append (dd F2)), rep2, q2, (k.le s1).le s2, (kx.le s1).le s2⟩
    · exact q.elim
  refine PySem.W.methodCall_KW (pl := pl) (thn (he.p.run pins s σ H _ I hO) fun u s1 ⟨x, H1, I1, rx, a, dx, fs, ex, ea, l, q⟩ => ?_) ht
  subst ex
  obtain rfl : u = Value.ref a := rx
  refine getmeth_ok I1 ea c hm l ?_
  refine PySem.W.callWith_K (first := [.ref a]) (h₀ := X.base) I.ok.mod.kin hm.kp (thn (ha.p.run pos pins s1 σ H1 _ I1 q) fun us s2 ⟨vs, H2, I2, r, q2⟩ => ⟨I2.kIn, ?_⟩) hst hpl
  exact run_fnD (us := .ref a :: us) (vs := .ref a :: vs) FO hr b v (hx σ) I2 (.cons rfl r) q2
theorem de_mt0 {pl : Sem Bool} (c : Cls X.K C) (F : Mtd X.prog X.w X.K X.mg X.base CX lv C m ps dvs (upSp X.K S)) (dd : Dfl X.K dvs dds) (hr : Room lv X.A) (hx : ∀ σ, PassesAt CX X σ (E σ)) (he : DE X E o To)
    (ht : eval (.Call (.Attribute o m apos) [] [] pos) X.env = (do
      let ov ← eval o X.env
      standAt apos.atName
      let (f, first) ← holding [ov] (getMethod ov m pl)
      callWith pos f first (backTo pos (starEach [] X.env)) (backToKw pos (keywordEach [] X.env))) := by rfl) : DE X E (.Call (.Attribute o m apos) [] [] pos) (dMeth C m S dds To dNil) := by
  obtain ⟨f, fd, ds, FO, hm, v, b⟩ := F.ex
  refine ⟨⟨fun pins s σ H Q I ⟨F, M, G, τ, R, W, rs, rep, h, k, kx⟩ => ?_⟩⟩
  have hO : up X.K E To σ H (fun x H1 => ∃ a dx fs, x = .ref a ∧ H1 a = some (.ins C dx fs) ∧ fs.lookup m = none ∧ upSp X.K S (x :: dvs) H1 Q (E σ)) := by
    refine ⟨F, M, G, τ, _, W, rs, rep, h, fun d M1 F1 H1 v q s1 rep1 r1 => ?_, kx⟩
    dsimp only at q
    split at q
    · rename_i C' gs e
      obtain ⟨rfl, nm, q⟩ := q
      obtain ⟨a, dx, fs, ev, e1, rr, _⟩ := vw_ins rep1 r1 e
      exact ⟨a, dx, fs, ev, e1, rr.no nm, F1, M1, G, _, R, W, .cons r1 (dd F1), rep1, q, k.le s1, kx.le s1⟩
    · exact q.elim
  refine PySem.W.methodCall_KW (pl := pl) (thn (he.p.run pins s σ H _ I hO) fun u s1 ⟨x, H1, I1, rx, a, dx, fs, ex, ea, l, q⟩ => ?_) ht
  subst ex
  obtain rfl : u = Value.ref a := rx
  refine getmeth_ok I1 ea c hm l ?_
  exact PySem.W.callWith_K0 (first := [.ref a]) I1.kIn hm.kp (run_fnD (us := [.ref a]) (vs := [.ref a]) FO hr b v (hx σ) I1 (.cons rfl .nil) q)
/-- C(..): made by __init__, then it never changes -/
def dMake (C : Addr) (S : SpD) (dds : List D) (Ta : TAD) : TD := fun τ M R W => Ta τ M (fun ds M1 => ∀ p, M1 p = none → S (.ref p :: (ds ++ dds)) (updM M1 p (.ins C [])) (fun d M2 => (match d with | .non => True | _ => False) ∧ match M2 p with
  | some m => R m.d (delM M2 p)
  | none => False) (fun C' fs M2 => W C' fs (delM M2 p))) W
/-- .. that goes on changing -/
def dMakeM (C : Addr) (S : SpD) (dds : List D) (Ta : TAD) : TD := fun τ M R W => Ta τ M (fun ds M1 => ∀ p, M1 p = none → S (.ref p :: (ds ++ dds)) (updM M1 p (.ins C [])) (fun d M2 => (match d with | .non => True | _ => False) ∧ R (.ref p) M2) W) W
theorem run_makeD {f : Addr} {fd : FuncData} {dsv : List Value} {F : Hp} {M : MS} {G : Hp} {es' : List D} {R : D → MS → Prop} {W : XD} {R2 : Addr → D → MS → Prop} {W2 : Addr → XD} {pins : List (Addr × Obj)} {σ : L2.St} {H : Hp} {s : Shared} {Q : VK} {us : List Value} {vs : List V} (MK : Mk X.K C f) (FO : FnOk X.prog X.w X.K X.mg X.base CX lv f fd ps (upSp X.K S)) (hr : Room (lv + 1) X.A) (b : Binds X.K fd ps dsv) (hd : Vals dvs dsv) (dd : Dfl X.K dvs dds)
    (hx : PassesAt CX X σ (E σ)) (I : Inv X pins σ H s) (r : Vals vs us) (rv : Rvs X.K F vs es') (rep : Rep X.K F M G H) (k : KQ X.K F G R Q) (kx : KX X.K F G W (E σ))
    (h : ∀ p, M p = none → S (.ref p :: (es' ++ dds)) (updM M p (.ins C [])) (R2 p) (W2 p)) (h1 : ∀ p d M2, R2 p d M2 → d = .non ∧ (R (.ref p) M2 ∨ ∃ m, M2 p = some m ∧ R m.d (delM M2 p))) (h2 : ∀ p C' fs M2, W2 p C' fs M2 → W C' fs (delM M2 p) ∨ W C' fs M2) :
    wpAny (model X.prog X.w) X.A (call (.ref C) us) (EP X pins σ Q) X.xe s := by
  have nx := I.hok.fresh (Nat.le_succ s.heap.objs.size)
  have nd := I.hok.fresh (Nat.le_refl s.heap.objs.size)
  have rep0 : Rep X.K F M G (upd H s.heap.objs.size (.own (s.heap.objs.size + 1))) := rep.newN nd
  have nx' : upd H s.heap.objs.size (.own (s.heap.objs.size + 1)) (s.heap.objs.size + 1) = none := by rw [upd_ne (Nat.ne_of_gt (Nat.lt_succ_self _))]; exact nx
  have rep2 := rep0.newM (o := .ins C s.heap.objs.size []) (m := .ins C []) nx' ⟨rfl, .nil, .nil⟩
  have I2 := Inv.made (C := C) I
  have hq : upSp X.K S (V.ref (s.heap.objs.size + 1) :: (vs ++ dvs)) (upd (upd H s.heap.objs.size (.own (s.heap.objs.size + 1))) (s.heap.objs.size + 1) (.ins C s.heap.objs.size [])) (fun v H2 => v = .non ∧ Q (.ref (s.heap.objs.size + 1)) H2) (E σ) := by
    refine ⟨F, _, G, _, _, _, .cons (.ref _) (rv.append (dd F)), rep2, h _ (rep.freeM nx), fun d M2 F2 H2 v q s2 rep3 r3 => ?_, fun C' fs M2 F2 H2 a q s2 rep3 r3 => ?_⟩
    · obtain ⟨e0, z⟩ := h1 _ _ _ q
      subst e0
      cases r3
      rcases z with z | ⟨m, em, z⟩
      · exact ⟨rfl, k _ M2 F2 H2 _ z s2 rep3 (.ref _)⟩
      · obtain ⟨F3, s3, rep4, r4⟩ := rep3.frz em
        exact ⟨rfl, k _ _ F3 H2 _ z (s2.trans s3) rep4 r4⟩
    · rcases h2 _ _ _ _ q with q | q
      · refine kx C' fs _ F2 H2 a q s2 (rep3.weak fun b m e => ?_) r3
        unfold delM at e
        split at e
        · cases e
        · exact e
      · exact kx C' fs _ F2 H2 a q s2 rep3 r3
  have rr : Vals (V.ref (s.heap.objs.size + 1) :: (vs ++ dvs)) (Value.ref (s.heap.objs.size + 1) :: (us ++ dsv)) := .cons rfl (r.append hd)
  have len : (Value.ref (s.heap.objs.size + 1) :: us ++ dsv).length = ps.length := (rr.length.symm).trans (FO.len _ _ _ _ hq)
  have done := FO.run _ X.stack _ _ ⟨Value.ref (s.heap.objs.size + 1) :: us, []⟩ (Value.ref (s.heap.objs.size + 1) :: (us ++ dsv)) _ _ (E σ) (hr.make C us []) (I2.env0.make C us []) (b _ (Value.ref (s.heap.objs.size + 1) :: us) I2.kIn len) rr hq
  refine wpAny_call (make_map (f := f) I.kIn MK.makes MK.init (beq_iff_eq.mp MK.fn) (codeAny_mono done fun r s' got => ?_))
  match r, got with
  | .error e, got => exact hx pins _ _ e s' I2 got
  | .ok (.ret u), got =>
    obtain ⟨v, H', I3, rv, ev, q3⟩ := I2.after got
    subst ev
    exact ⟨rv, ⟨V.ref (s.heap.objs.size + 1), H', I3, rfl, q3⟩⟩
  | .ok .next, got => exact got.elim
  | .ok .brk, got => exact got.elim
  | .ok .cont, got => exact got.elim
theorem de_mk (F : Mkr X.prog X.w X.K X.mg X.base CX lv x C ps dvs (upSp X.K S)) (dd : Dfl X.K dvs dds) (hr : Room (lv + 1) X.A) (hx : ∀ σ, PassesAt CX X σ (E σ)) (ha : DAs X E (e :: es) Ta) (hg : Gl X x := by rfl) (hdb : (x == ("__debug__" : Str)) = false := by decide)
    (he : starEach (e :: es) X.env = (false, eval e X.env) :: starEach es X.env := by rfl) (hpl : (backTo pos (starEach es X.env)).any (·.1) = false := by rfl) : DE X E (.Call (.Name x p) (e :: es) [] pos) (dMake C S dds Ta) := by
  obtain ⟨f, fd, dsv, FO, MK, hm, v, b⟩ := F.ex
  refine ⟨⟨fun pins s σ H Q I ⟨F, M, G, τ, R, W, rs, rep, h, k, kx⟩ => ?_⟩⟩
  refine wpAny_Call_Name_kw (ld_glob I hg hm ?_ hdb)
  have hA : upA X.K E Ta σ H (fun vs H1 => ∃ F1 M1 es', L2.Same F F1 ∧ Rvs X.K F1 vs es' ∧ Rep X.K F1 M1 G H1 ∧ ∀ p, M1 p = none → S (.ref p :: (es' ++ dds)) (updM M1 p (.ins C [])) (fun d M2 => (match d with | .non => True | _ => False) ∧ match M2 p with
      | some m => R m.d (delM M2 p)
      | none => False) (fun C' fs M2 => W C' fs (delM M2 p))) := ⟨F, M, G, τ, _, W, rs, rep, h, fun es' M1 F1 H1 vs q s1 rep1 r1 => ⟨F1, M1, es', s1, r1, rep1, q⟩, kx⟩
  refine PySem.W.callWith_K (h₀ := X.base) I.ok.mod.kin MK.kp (thn (ha.p.run pos pins s σ H _ I hA) fun us s1 ⟨vs, H1, I1, r, F1, M1, es', s1', rv, rep1, q⟩ => ⟨I1.kIn, ?_⟩) he hpl
  refine run_makeD MK FO hr b v dd (hx σ) I1 r rv rep1 (k.le s1') (kx.le s1') q (fun p d M2 z => ?_) fun p C' fs M2 z => .inl z
  obtain ⟨z1, z2⟩ := z
  refine ⟨by cases d <;> first | rfl | exact z1.elim, .inr ?_⟩
  split at z2
  · rename_i m em
    exact ⟨m, em, z2⟩
  · exact z2.elim
theorem de_mkM (F : Mkr X.prog X.w X.K X.mg X.base CX lv x C ps dvs (upSp X.K S)) (dd : Dfl X.K dvs dds) (hr : Room (lv + 1) X.A) (hx : ∀ σ, PassesAt CX X σ (E σ)) (ha : DAs X E (e :: es) Ta) (hg : Gl X x := by rfl) (hdb : (x == ("__debug__" : Str)) = false := by decide)
    (he : starEach (e :: es) X.env = (false, eval e X.env) :: starEach es X.env := by rfl) (hpl : (backTo pos (starEach es X.env)).any (·.1) = false := by rfl) : DE X E (.Call (.Name x p) (e :: es) [] pos) (dMakeM C S dds Ta) := by
  obtain ⟨f, fd, dsv, FO, MK, hm, v, b⟩ := F.ex
  refine ⟨⟨fun pins s σ H Q I ⟨F, M, G, τ, R, W, rs, rep, h, k, kx⟩ => ?_⟩⟩
  refine wpAny_Call_Name_kw (ld_glob I hg hm ?_ hdb)
  have hA : upA X.K E Ta σ H (fun vs H1 => ∃ F1 M1 es', L2.Same F F1 ∧ Rvs X.K F1 vs es' ∧ Rep X.K F1 M1 G H1 ∧ ∀ p, M1 p = none → S (.ref p :: (es' ++ dds)) (updM M1 p (.ins C [])) (fun d M2 => (match d with | .non => True | _ => False) ∧ R (.ref p) M2) W) := ⟨F, M, G, τ, _, W, rs, rep, h, fun es' M1 F1 H1 vs q s1 rep1 r1 => ⟨F1, M1, es', s1, r1, rep1, q⟩, kx⟩
  refine PySem.W.callWith_K (h₀ := X.base) I.ok.mod.kin MK.kp (thn (ha.p.run pos pins s σ H _ I hA) fun us s1 ⟨vs, H1, I1, r, F1, M1, es', s1', rv, rep1, q⟩ => ⟨I1.kIn, ?_⟩) he hpl
  refine run_makeD (W2 := fun _ => W) MK FO hr b v dd (hx σ) I1 r rv rep1 (k.le s1') (kx.le s1') q (fun p d M2 z => ?_) fun p C' fs M2 z => .inr z
  obtain ⟨z1, z2⟩ := z
  exact ⟨by cases d <;> first | rfl | exact z1.elim, .inl z2⟩
/-- a property, one that raises nothing -/
def dProp (C : Addr) (S : SpD) (To : TD) : TD := fun τ M R W => To τ M (fun d M1 => match vw M1 d with
  | .ins C' _ => C' = C ∧ S [d] M1 R XF
  | _ => False) W
theorem de_pr (c : Cls X.K C) (F : Prp X.prog X.w X.K X.mg X.base CX lv C m ps [] (upSp X.K S)) (hr : Room (lv + 1) X.A) (hx : Passes CX X.nox E0) (he : DE X E e To) (hab : attributeBase e m X.env (eval e X.env) = eval e X.env := by rfl) :
    DE X E (.Attribute e m pos) (dProp C S To) := by
  obtain ⟨q, f, fd, ds, FO, hp, v, b⟩ := F.ex
  cases v
  refine ⟨(pe_prop he.p c hp FO hr b .nil hx hab).imp fun σ H Q ⟨F, M, G, τ, R, W, rs, rep, h, k, kx⟩ => ?_⟩
  refine ⟨F, M, G, τ, _, W, rs, rep, h, fun d M1 F1 H1 v q s1 rep1 r1 => ?_, kx⟩
  dsimp only at q
  split at q
  · rename_i C' gs e
    obtain ⟨rfl, q⟩ := q
    obtain ⟨a, dx, fs, rfl, e1, rr, _⟩ := vw_ins rep1 r1 e
    exact ⟨a, dx, fs, rfl, e1, F1, M1, G, _, R, XF, .cons r1 .nil, rep1, q, k.le s1, KX.none⟩
  · exact q.elim
end
end RS

set_option maxRecDepth 100000
set_option maxHeartbeats 4000000
namespace RS
open PySem PySem.Spec PyProof.Rows L2 NdefX He PySem.W
variable [Tbls]
/-! ### types of data -/
inductive Tag where
  | bt (t : BT) | own (C : Addr)
def Tag.v : Tag → Value
  | .bt t => .type t.name
  | .own C => .ref C
def tag (M : MS) (d : D) : Option Tag := match vw M d with
  | .non => some (.bt .none)
  | .bl _ => some (.bt .bool)
  | .int _ => some (.bt .int)
  | .str _ => some (.bt .str)
  | .tup _ => some (.bt .tuple)
  | .lst _ => some (.bt .list)
  | .dct _ => some (.bt .dict)
  | .ins C _ => some (.own C)
  | .ref _ => none
  | .ty _ => none
  | .exc _ _ _ _ => none
  | .scr _ => none
def TagOK (K : Frg) : Tag → Prop
  | .bt _ => True
  | .own C => IsiC K C
theorem tag_ty {K : Frg} {F : Hp} {M : MS} {G H : Hp} {v : V} {d : D} {t : Tag} (rep : Rep K F M G H) (r : Rv K F v d) (e : tag M d = some t) (ok : TagOK K t) : TyX K H v t.v := by
  unfold tag at e
  obtain ⟨F', _, s, r'⟩ := rv_vw rep r
  cases hd : vw M d <;> rw [hd] at e r' <;> cases e <;> cases r'
  · exact .base .non
  · exact .base (.bl _)
  · exact .base (.int _)
  · exact .base (.str _)
  · rename_i a vs sq r2
    rcases Same.sqT s sq with (h | ⟨o, h⟩) | ⟨o, its, n, h1, h2, _⟩
    · exact .base (.tup h)
    · exact .fTuple h
    · exact .kTuple h1 h2
  · rename_i a vs h r2
    exact .base (.lst (s _ _ h))
  · rename_i a vs h r2
    exact .base (.dK (s _ _ h))
  · rename_i a dx fs h n r2
    exact IsiC.ty ok (s _ _ h)
/-! ### isinstance -/
def isBB : BT → BT → Bool
  | .bool, .int => true
  | .int, .int => true
  | .bool, .bool => true
  | .str, .str => true
  | .tuple, .tuple => true
  | .list, .list => true
  | .dict, .dict => true
  | .none, .none => true
  | .verr, .verr => true
  | _, _ => false
theorem isBB_ok {K : Frg} (a b : BT) : PySem.W.kitOne K (.type a.name) (.type b.name) = some (isBB a b) := by
  apply kit_ty
  cases a <;> cases b <;> decide +kernel
/-- what isinstance answers for a type and a class -/
def IsA (K : Frg) (t c : Tag) (b : Bool) : Prop := PySem.W.kitOne K t.v c.v = some b
def clsTag : D → Option Tag
  | .ty t => some (.bt t)
  | .ref C => some (.own C)
  | _ => none
def dIsi1 (K : Frg) (t c : Tag) (k : Bool → Prop) : Prop := match t, c with
  | .bt a, .bt b => k (isBB a b)
  | t, c => ∃ b, IsA K t c b ∧ k b
theorem dIsi1.ok {K : Frg} {t c : Tag} {k : Bool → Prop} (h : dIsi1 K t c k) : ∃ b, IsA K t c b ∧ k b := by
  unfold dIsi1 at h
  split at h
  · exact ⟨_, isBB_ok _ _, h⟩
  · exact h
def dIsi (K : Frg) (ds : List D) (M : MS) (R : D → MS → Prop) : Prop := match ds with
  | [x, c] => (match tag M x, clsTag c with
    | some t, some c => TagOK K t ∧ dIsi1 K t c fun b => R (.bl b) M
    | _, _ => False)
  | _ => False
/-- a built-in's answer over data -/
def RC (K : Frg) (r : List V → Hp → VK → Prop) (f : List D → MS → (D → MS → Prop) → Prop) : Prop := ∀ F M G H vs ds R Q, Rvs K F vs ds → Rep K F M G H → f ds M R → KQ K F G R Q → r vs H Q
theorem rv_clsTag {K : Frg} {F : Hp} {v : V} {c : D} {t : Tag} (r : Rv K F v c) (e : clsTag c = some t) : ClsV v t.v := by
  cases r <;> cases e
  · exact .ty _
  · exact .own _
theorem rc_isi {K : Frg} : RC K (rIsi K) (dIsi K) := fun F M G H vs ds R Q r rep h k => by
  unfold dIsi at h
  split at h
  · cases r with
    | cons r1 r2 =>
      cases r2 with
      | cons r2 r3 =>
        cases r3
        split at h
        · rename_i t c e1 e2
          obtain ⟨ok, h⟩ := h
          obtain ⟨b, hb, h⟩ := h.ok
          exact ⟨_, _, _, _, b, rfl, rv_clsTag r2 e2, tag_ty rep r1 e1 ok, hb, k _ M F H _ h (L2.Same.refl F) rep (.bl _)⟩
        · exact h.elim
  · exact h.elim
/-- isinstance(x, (c1, c2)) -/
def dIsiT (K : Frg) (x c1 c2 : D) (M : MS) (R : D → MS → Prop) : Prop := match tag M x, clsTag c1, clsTag c2 with
  | some t, some c1, some c2 => TagOK K t ∧ dIsi1 K t c1 fun b => dIsi1 K t c2 fun b' => R (.bl (b || b')) M
  | _, _, _ => False
section
variable {X : Cx} {E : L2.St → XK} {pos p : Pos} {x : Str} {e e1 e2 o : Expr} {es : List Expr} {Ta : TAD} {T T1 T2 To : TD}
theorem de_isiT {K : Frg} (hk : X.K = K) {k1 pp} (hm : X.mg "isinstance" = none) (he : DE X E e T) (h1 : DE X E e1 T1) (h2 : DE X E e2 T2) (hg : Gl X "isinstance" := by rfl)
    (s1 : starEach [e, .Tuple [e1, e2] k1 pp] X.env = (false, eval e X.env) :: starEach [.Tuple [e1, e2] k1 pp] X.env := by rfl) (s2 : (backTo pos (starEach [.Tuple [e1, e2] k1 pp] X.env)).any (·.1) = false := by rfl)
    (s3 : starEach [.Tuple [e1, e2] k1 pp] X.env = (false, eval (.Tuple [e1, e2] k1 pp) X.env) :: starEach [] X.env := by rfl) (s4 : starEach [e1, e2] X.env = (false, eval e1 X.env) :: starEach [e2] X.env := by rfl) (s5 : starEach [e2] X.env = (false, eval e2 X.env) :: starEach [] X.env := by rfl) :
    DE X E (.Call (.Name "isinstance" p) [e, .Tuple [e1, e2] k1 pp] [] pos) (fun τ M R W => T τ M (fun x M1 => T1 τ M1 (fun c1 M2 => T2 τ M2 (fun c2 M3 => dIsiT K x c1 c2 M3 R) W) W) W) := by
  subst hk
  refine ⟨(pe_callB call_isiT hg hm (by decide +kernel) (pa_cons he.p (pa_cons (pe_tup (pa_cons h1.p (pa_cons h2.p pa_nil s5) s4)) pa_nil s3) s1) (by decide) (by decide) s1 s2).imp fun σ H Q ⟨F, M, G, τ, R, W, rs, rep, h, k, kx⟩ => ?_⟩
  refine ⟨F, M, G, τ, _, W, rs, rep, h, fun d M1 F1 H1 v q q1 rep1 r1 => ?_, kx⟩
  refine ⟨F1, M1, G, τ, _, W, rs.mono q1, rep1, q, fun c1 M2 F2 H2 v1 qq q2 rep2 r2 => ?_, kx.le q1⟩
  refine ⟨F2, M2, G, τ, _, W, (rs.mono q1).mono q2, rep2, qq, fun c2 M3 F3 H3 v2 h q3 rep3 r3 => ?_, (kx.le q1).le q2⟩
  refine ⟨by show 2 ≤ sizeLine; rw [sizeLine_eq]; decide, fun pt hp => ?_⟩
  dsimp only [dIsiT] at h
  split at h
  · rename_i t t1 t2 z1 z2 z3
    obtain ⟨ok, h⟩ := h
    obtain ⟨b, hb, h⟩ := h.ok
    obtain ⟨b', hb', h⟩ := h.ok
    have ha : PySem.W.kitAny X.K t.v [t1.v, t2.v] = some (b || b') := kitAny_cons (b := b) hb (fun e => by subst e; exact kitAny_cons (b := b') hb' (fun e => by subst e; exact kitAny_nil) fun e => by subst e; rfl) fun e => by subst e; rfl
    obtain ⟨rep4, s4⟩ := rep3.newF (o := .tup [v1, v2]) hp
    have r1' := ((r1.mono q2).mono q3).mono s4
    exact ⟨v, pt, [v1, v2], _, _, _, rfl, upd_same, .cons (rv_clsTag r2 z2) (.cons (rv_clsTag r3 z3) .nil), tag_ty rep4 r1' z1 ok, ha, k _ M3 _ _ _ h (((q1.trans q2).trans q3).trans s4) rep4 (.bl _)⟩
  · exact h.elim
/-! ### built-ins by name -/
def dBi (f : List D → MS → (D → MS → Prop) → Prop) (Ta : TAD) : TD := fun τ M R W => Ta τ M (fun ds M1 => f ds M1 R) W
variable {r : List V → Hp → VK → Prop} {f : List D → MS → (D → MS → Prop) → Prop} {id T0 : String}
theorem de_bi (hc : CallR X (.builtin id) r) (hf : RC X.K r f) (hm : X.mg x = none) (hv : bootBuiltins x = some (.builtin id)) (ha : DAs X E (e :: es) Ta) (hg : Gl X x := by rfl) (hn : x ≠ "__name__" := by decide) (hdb : (x == ("__debug__" : Str)) = false := by decide)
    (he : starEach (e :: es) X.env = (false, eval e X.env) :: starEach es X.env := by rfl) (hpl : (backTo pos (starEach es X.env)).any (·.1) = false := by rfl) : DE X E (.Call (.Name x p) (e :: es) [] pos) (dBi f Ta) := by
  refine ⟨(pe_callB hc hg hm hv ha.p hn hdb he hpl).imp fun σ H Q ⟨F, M, G, τ, R, W, rs, rep, h, k, kx⟩ => ?_⟩
  exact ⟨F, M, G, τ, _, W, rs, rep, h, fun ds M1 F1 H1 vs q s1 rep1 r1 => hf F1 M1 G H1 vs ds R Q r1 rep1 q (k.le s1), kx⟩
theorem de_bt (hc : CallR X (.type T0) r) (hf : RC X.K r f) (hm : X.mg x = none) (hv : bootBuiltins x = some (.type T0)) (ha : DAs X E (e :: es) Ta) (hg : Gl X x := by rfl) (hn : x ≠ "__name__" := by decide) (hdb : (x == ("__debug__" : Str)) = false := by decide)
    (he : starEach (e :: es) X.env = (false, eval e X.env) :: starEach es X.env := by rfl) (hpl : (backTo pos (starEach es X.env)).any (·.1) = false := by rfl) : DE X E (.Call (.Name x p) (e :: es) [] pos) (dBi f Ta) := by
  refine ⟨(pe_callTy hc hg hm hv ha.p hn hdb he hpl).imp fun σ H Q ⟨F, M, G, τ, R, W, rs, rep, h, k, kx⟩ => ?_⟩
  exact ⟨F, M, G, τ, _, W, rs, rep, h, fun ds M1 F1 H1 vs q s1 rep1 r1 => hf F1 M1 G H1 vs ds R Q r1 rep1 q (k.le s1), kx⟩
end
section
variable {K : Frg}
def dLen (ds : List D) (M : MS) (R : D → MS → Prop) : Prop := match ds with
  | [d] => (match vw M d with
    | .lst xs => R (.int xs.length) M
    | .tup xs => R (.int xs.length) M
    | .str x => x.length ≤ sizeLine ∧ R (.int x.length) M
    | _ => False)
  | _ => False
theorem rc_len : RC K (fun xs H Q => ∃ x n, xs = [x] ∧ LenV K x H n ∧ Q (.int n) H) dLen := fun F M G H vs ds R Q r rep h k => by
  unfold dLen at h
  split at h
  · cases r with
    | cons r1 r2 =>
      cases r2
      split at h
      · rename_i e
        obtain ⟨a, vs, rfl, h1, rr⟩ := vw_lst rep r1 e
        exact ⟨_, _, rfl, .inl ⟨vs, SqL.of h1, rr.len.symm⟩, k _ M F H _ h (L2.Same.refl F) rep (.int _)⟩
      · rename_i e
        obtain ⟨a, vs, rfl, h1, rr⟩ := vw_tup rep r1 e
        exact ⟨_, _, rfl, .inr ⟨vs, Same.sqT rep.fz h1, rr.len.symm⟩, k _ M F H _ h (L2.Same.refl F) rep (.int _)⟩
      · rename_i e
        cases vw_str r1 e
        exact ⟨_, _, rfl, ⟨h.1, rfl⟩, k _ M F H _ h.2 (L2.Same.refl F) rep (.int _)⟩
      · exact h.elim
  · exact h.elim
def dAbs (ds : List D) (M : MS) (R : D → MS → Prop) : Prop := match ds with
  | [.int i] => R (.int (if i < 0 then -i else i)) M
  | _ => False
theorem rc_abs : RC K (fun xs H Q => ∃ i, xs = [.int i] ∧ Q (.int (if i < 0 then -i else i)) H) dAbs := fun F M G H vs ds R Q r rep h k => by
  unfold dAbs at h
  split at h
  · cases r with
    | cons r1 r2 => cases r2; cases r1; exact ⟨_, rfl, k _ M F H _ h (L2.Same.refl F) rep (.int _)⟩
  · exact h.elim
def dInt (ds : List D) (M : MS) (R : D → MS → Prop) : Prop := match ds with
  | [.int i] => R (.int i) M
  | [.bl b] => R (.int (if b then 1 else 0)) M
  | _ => False
theorem rc_int : RC K (fun xs H Q => (∃ i, xs = [.int i] ∧ Q (.int i) H) ∨ ∃ k, xs = [.bl k] ∧ Q (.int (if k then 1 else 0)) H) dInt := fun F M G H vs ds R Q r rep h k => by
  unfold dInt at h
  split at h
  · cases r with
    | cons r1 r2 => cases r2; cases r1; exact .inl ⟨_, rfl, k _ M F H _ h (L2.Same.refl F) rep (.int _)⟩
  · cases r with
    | cons r1 r2 => cases r2; cases r1; exact .inr ⟨_, rfl, k _ M F H _ h (L2.Same.refl F) rep (.int _)⟩
  · exact h.elim
def dBool (ds : List D) (M : MS) (R : D → MS → Prop) : Prop := match ds with
  | [.int i] => R (.bl (i != 0)) M
  | [.bl b] => R (.bl b) M
  | _ => False
theorem rc_bool : RC K (fun xs H Q => (∃ i, xs = [.int i] ∧ Q (.bl (i != 0)) H) ∨ ∃ k, xs = [.bl k] ∧ Q (.bl k) H) dBool := fun F M G H vs ds R Q r rep h k => by
  unfold dBool at h
  split at h
  · cases r with
    | cons r1 r2 => cases r2; cases r1; exact .inl ⟨_, rfl, k _ M F H _ h (L2.Same.refl F) rep (.bl _)⟩
  · cases r with
    | cons r1 r2 => cases r2; cases r1; exact .inr ⟨_, rfl, k _ M F H _ h (L2.Same.refl F) rep (.bl _)⟩
  · exact h.elim
def dStrI (ds : List D) (M : MS) (R : D → MS → Prop) : Prop := match ds with
  | [.int i] => i.natAbs.log2 < 1920 ∧ R (.str (toString i)) M
  | _ => False
theorem rc_strI : RC K (fun xs H Q => ∃ i, xs = [.int i] ∧ i.natAbs.log2 < 1920 ∧ Q (.str (toString i)) H) dStrI := fun F M G H vs ds R Q r rep h k => by
  unfold dStrI at h
  split at h
  · cases r with
    | cons r1 r2 => cases r2; cases r1; exact ⟨_, rfl, h.1, k _ M F H _ h.2 (L2.Same.refl F) rep (.str _)⟩
  · exact h.elim
def dList (ds : List D) (M : MS) (R : D → MS → Prop) : Prop := match ds with
  | [d] => (match vw M d with
    | .lst xs => R (.lst xs) M
    | .tup xs => R (.lst xs) M
    | _ => False)
  | _ => False
def dListM (ds : List D) (M : MS) (R : D → MS → Prop) : Prop := match ds with
  | [d] => (match vw M d with
    | .lst xs => ∀ p, M p = none → R (.ref p) (updM M p (.lst xs))
    | .tup xs => ∀ p, M p = none → R (.ref p) (updM M p (.lst xs))
    | _ => False)
  | _ => False
theorem rc_list : RC K (fun xs H Q => ∃ p ys, xs = [.ref p] ∧ (SqL K H p ys ∨ SqT K H p ys) ∧ ∀ l, H l = none → Q (.ref l) (upd H l (.lst ys))) dList := fun F M G H vs ds R Q r rep h k => by
  unfold dList at h
  split at h
  · cases r with
    | cons r1 r2 =>
      cases r2
      split at h
      · rename_i e
        obtain ⟨a, vs, rfl, h1, rr⟩ := vw_lst rep r1 e
        exact ⟨_, _, rfl, .inl (SqL.of h1), fun l hl => new_lst rep hl rr k h⟩
      · rename_i e
        obtain ⟨a, vs, rfl, h1, rr⟩ := vw_tup rep r1 e
        exact ⟨_, _, rfl, .inr (Same.sqT rep.fz h1), fun l hl => new_lst rep hl rr k h⟩
      · exact h.elim
  · exact h.elim
theorem rc_listM : RC K (fun xs H Q => ∃ p ys, xs = [.ref p] ∧ (SqL K H p ys ∨ SqT K H p ys) ∧ ∀ l, H l = none → Q (.ref l) (upd H l (.lst ys))) dListM := fun F M G H vs ds R Q r rep h k => by
  unfold dListM at h
  split at h
  · cases r with
    | cons r1 r2 =>
      cases r2
      split at h
      · rename_i e
        obtain ⟨a, vs, rfl, h1, rr⟩ := vw_lst rep r1 e
        exact ⟨_, _, rfl, .inl (SqL.of h1), fun l hl => new_mlst rep hl rr k h⟩
      · rename_i e
        obtain ⟨a, vs, rfl, h1, rr⟩ := vw_tup rep r1 e
        exact ⟨_, _, rfl, .inr (Same.sqT rep.fz h1), fun l hl => new_mlst rep hl rr k h⟩
      · exact h.elim
  · exact h.elim
def dTuple (ds : List D) (M : MS) (R : D → MS → Prop) : Prop := match ds with
  | [d] => (match vw M d with
    | .lst xs => R (.tup xs) M
    | .tup xs => R (.tup xs) M
    | _ => False)
  | _ => False
theorem rc_tuple : RC K (fun xs H Q => ∃ p ys, xs = [.ref p] ∧ ((SqL K H p ys ∧ ∀ l, H l = none → Q (.ref l) (upd H l (.tup ys))) ∨ (SqT K H p ys ∧ Q (.ref p) H))) dTuple := fun F M G H vs ds R Q r rep h k => by
  unfold dTuple at h
  split at h
  · cases r with
    | cons r1 r2 =>
      cases r2
      split at h
      · rename_i e
        obtain ⟨a, vs, rfl, h1, rr⟩ := vw_lst rep r1 e
        exact ⟨_, _, rfl, .inl ⟨SqL.of h1, fun l hl => new_tup rep hl rr k h⟩⟩
      · rename_i e
        obtain ⟨a, vs, rfl, h1, rr⟩ := vw_tup rep r1 e
        exact ⟨_, _, rfl, .inr ⟨Same.sqT rep.fz h1, k _ M F H _ h (L2.Same.refl F) rep (.tup h1 rr)⟩⟩
      · exact h.elim
  · exact h.elim
def bools : List D → Option (List Bool)
  | [] => some []
  | .bl b :: r => (bools r).map (b :: ·)
  | _ => none
theorem bools_rv {F : Hp} : ∀ {vs : List V} {ds : List D} {bs : List Bool}, Rvs K F vs ds → bools ds = some bs → vs = bs.map V.bl
  | _, [], bs, .nil, e => by cases e; rfl
  | _, d :: ds, bs, .cons r rs, e => by
    cases d <;> first | (simp only [bools] at e; cases e; done) | skip
    cases r
    unfold bools at e
    cases h : bools ds with
    | none => rw [h] at e; cases e
    | some cs =>
      rw [h] at e
      cases e
      rw [bools_rv rs h]
      rfl
def dAny (g : List Bool → Bool) (ds : List D) (M : MS) (R : D → MS → Prop) : Prop := match ds with
  | [d] => (match vw M d with
    | .lst xs => ∃ bs, bools xs = some bs ∧ R (.bl (g bs)) M
    | _ => False)
  | _ => False
theorem rc_any : RC K (rAny K) (dAny fun bs => bs.any id) := fun F M G H vs ds R Q r rep h k => by
  unfold dAny at h
  split at h
  · cases r with
    | cons r1 r2 =>
      cases r2
      split at h
      · rename_i e
        obtain ⟨a, vs, rfl, h1, rr⟩ := vw_lst rep r1 e
        obtain ⟨bs, e2, h⟩ := h
        rw [bools_rv rr e2] at h1
        exact ⟨a, bs, rfl, SqL.of h1, k _ M F H _ h (L2.Same.refl F) rep (.bl _)⟩
      · exact h.elim
  · exact h.elim
theorem rc_all : RC K (rAll K) (dAny fun bs => bs.all id) := fun F M G H vs ds R Q r rep h k => by
  unfold dAny at h
  split at h
  · cases r with
    | cons r1 r2 =>
      cases r2
      split at h
      · rename_i e
        obtain ⟨a, vs, rfl, h1, rr⟩ := vw_lst rep r1 e
        obtain ⟨bs, e2, h⟩ := h
        rw [bools_rv rr e2] at h1
        exact ⟨a, bs, rfl, SqL.of h1, k _ M F H _ h (L2.Same.refl F) rep (.bl _)⟩
      · exact h.elim
  · exact h.elim
end
/-! ### methods of lists -/
section
variable {X : Cx} {E : L2.St → XK} {apos cpos : Pos} {name : Str} {e o : Expr} {es : List Expr} {Ta : TAD} {To : TD} {id : String} {r : V → List V → Hp → VK → Prop} {f : D → List D → MS → (D → MS → Prop) → Prop}
def RM (K : Frg) (r : V → List V → Hp → VK → Prop) (f : D → List D → MS → (D → MS → Prop) → Prop) : Prop := ∀ F M G H v d vs ds R Q, Rv K F v d → Rvs K F vs ds → Rep K F M G H → f d ds M R → KQ K F G R Q → r v vs H Q
def isLst (M : MS) (d : D) : Prop := match vw M d with
  | .lst _ => True
  | _ => False
def dMt (f : D → List D → MS → (D → MS → Prop) → Prop) (To : TD) (Ta : TAD) : TD := fun τ M R W => To τ M (fun d M1 => isLst M1 d ∧ Ta τ M1 (fun ds M2 => f d ds M2 R) W) W
theorem isLst.tyV {K : Frg} {F : Hp} {M : MS} {G H : Hp} {v : V} {d : D} (h : isLst M d) (rep : Rep K F M G H) (r : Rv K F v d) : L2.tyV K "list" v H := by
  unfold isLst at h
  split at h
  · rename_i e
    obtain ⟨a, vs, rfl, h1, rr⟩ := vw_lst rep r e
    exact .inl ⟨rfl, vs, SqL.of h1⟩
  · exact h.elim
theorem de_bm (slot : Slot "list" name id) (hty : typeOf (.builtin id) = pure (.type "method_descriptor")) (hm : MtR X id r) (hf : RM X.K r f) (ho : DE X E o To) (ha : DAs X E (e :: es) Ta)
    (hbase : attributeBase o name X.env (eval o X.env) = eval o X.env := by rfl)
    (hfew : ((backTo cpos (starEach (e :: es) X.env)).all (fun x => !x.1) && (backToKw cpos (keywordEach [] X.env)).all (fun x => x.1.isSome)
      && decide ((e :: es).length + ([] : List Keyword).length + (if ([] : List Keyword).isEmpty then 0 else 1) < 30)) = true := by rfl)
    (hline : (apos.endLine == cpos.line) = true := by rfl) (hs : starEach (e :: es) X.env = (false, eval e X.env) :: starEach es X.env := by rfl) (hplain : (backTo cpos (starEach es X.env)).any (·.1) = false := by rfl) :
    DE X E (.Call (.Attribute o name apos) (e :: es) [] cpos) (dMt f To Ta) := by
  refine ⟨(pe_bm PySem.F.plainAttrs_list slot hty hm ho.p ha.p hbase hfew hline hs hplain).imp fun σ H Q ⟨F, M, G, τ, R, W, rs, rep, h, k, kx⟩ => ?_⟩
  refine ⟨F, M, G, τ, _, W, rs, rep, h, fun d M1 F1 H1 v q s1 rep1 r1 => ⟨q.1.tyV rep1 r1, ?_⟩, kx⟩
  exact ⟨F1, M1, G, τ, _, W, rs.mono s1, rep1, q.2, fun ds M2 F2 H2 vs q2 s2 rep2 r2 => hf F2 M2 G H2 v d vs ds R Q (r1.mono s2) r2 rep2 q2 ((k.le s1).le s2), kx.le s1⟩
theorem de_bm0 (slot : Slot "list" name id) (hty : typeOf (.builtin id) = pure (.type "method_descriptor")) (hm : MtR X id r) (hf : RM X.K r f) (ho : DE X E o To)
    (hbase : attributeBase o name X.env (eval o X.env) = eval o X.env := by rfl) (hline : (apos.endLine == cpos.line) = true := by rfl) :
    DE X E (.Call (.Attribute o name apos) [] [] cpos) (dMt f To dNil) := by
  refine ⟨(pe_bm0 PySem.F.plainAttrs_list slot hty hm ho.p hbase hline).imp fun σ H Q ⟨F, M, G, τ, R, W, rs, rep, h, k, kx⟩ => ?_⟩
  exact ⟨F, M, G, τ, _, W, rs, rep, h, fun d M1 F1 H1 v q s1 rep1 r1 => ⟨q.1.tyV rep1 r1, hf F1 M1 G H1 v d [] [] R Q r1 .nil rep1 q.2 (k.le s1)⟩, kx⟩
def dAppend (d : D) (ds : List D) (M : MS) (R : D → MS → Prop) : Prop := match d, ds with
  | .ref a, [y] => (match M a with
    | some (.lst xs) => xs.length < sizeLine ∧ R .non (updM M a (.lst (xs ++ [y])))
    | _ => False)
  | _, _ => False
theorem rm_append {K : Frg} : RM K rAppend dAppend := fun F M G H v d vs ds R Q r rs rep h k => by
  unfold dAppend at h
  split at h
  · cases r
    cases rs with
    | cons r1 r2 =>
      cases r2
      split at h
      · rename_i xs e
        obtain ⟨ws, h1, rr⟩ := rep.lst e
        exact ⟨_, ws, _, rfl, rfl, h1, by rw [rr.len]; exact h.1, k _ _ F _ _ h.2 (L2.Same.refl F) (rep.put e (o := .lst _) (m' := .lst _) (rr.snoc r1)) .non⟩
      · exact h.elim
  · exact h.elim
def dExtend (d : D) (ds : List D) (M : MS) (R : D → MS → Prop) : Prop := match d, ds with
  | .ref a, [y] => (match M a, vw M y with
    | some (.lst xs), .lst ys => xs.length + ys.length ≤ sizeLine ∧ R .non (updM M a (.lst (xs ++ ys)))
    | _, _ => False)
  | _, _ => False
theorem rm_extend {K : Frg} : RM K rExtend dExtend := fun F M G H v d vs ds R Q r rs rep h k => by
  unfold dExtend at h
  split at h
  · cases r
    cases rs with
    | cons r1 r2 =>
      cases r2
      split at h
      · rename_i xs ys e e2
        obtain ⟨ws, h1, rr⟩ := rep.lst e
        obtain ⟨b, zs, rfl, h2, r3⟩ := vw_lst rep r1 e2
        exact ⟨_, b, ws, zs, rfl, rfl, h1, h2, by rw [rr.len, r3.len]; exact h.1, k _ _ F _ _ h.2 (L2.Same.refl F) (rep.put e (o := .lst _) (m' := .lst _) (rr.append r3)) .non⟩
      · exact h.elim
  · exact h.elim
def dPop (d : D) (ds : List D) (M : MS) (R : D → MS → Prop) : Prop := match d, ds with
  | .ref a, [] => (match M a with
    | some (.lst xs) => (match xs.getLast? with
      | some y => R y (updM M a (.lst xs.dropLast))
      | none => False)
    | _ => False)
  | _, _ => False
theorem rm_pop {K : Frg} : RM K rPop dPop := fun F M G H v d vs ds R Q r rs rep h k => by
  unfold dPop at h
  split at h
  · cases r
    cases rs
    split at h
    · rename_i xs e
      split at h
      · rename_i y ey
        obtain ⟨ws, h1, rr⟩ := rep.lst e
        rw [List.getLast?_eq_getElem?] at ey
        obtain ⟨w, e2, r2⟩ := rr.atD ey
        exact ⟨_, ws, w, rfl, rfl, h1, by rw [rr.len]; exact e2, k _ _ F _ _ h (L2.Same.refl F) (rep.put e (o := .lst _) (m' := .lst _) rr.dropLast) r2⟩
      · exact h.elim
    · exact h.elim
  · exact h.elim
def dClear (d : D) (ds : List D) (M : MS) (R : D → MS → Prop) : Prop := match d, ds with
  | .ref a, [] => (match M a with
    | some (.lst _) => R .non (updM M a (.lst []))
    | _ => False)
  | _, _ => False
theorem rm_clear {K : Frg} : RM K rClear dClear := fun F M G H v d vs ds R Q r rs rep h k => by
  unfold dClear at h
  split at h
  · cases r
    cases rs
    split at h
    · rename_i xs e
      obtain ⟨ws, h1, rr⟩ := rep.lst e
      exact ⟨_, ws, rfl, rfl, h1, k _ _ F _ _ h (L2.Same.refl F) (rep.put e (o := .lst _) (m' := .lst _) .nil) .non⟩
    · exact h.elim
  · exact h.elim
def dInsert (d : D) (ds : List D) (M : MS) (R : D → MS → Prop) : Prop := match d, ds with
  | .ref a, [.int i, y] => (match M a with
    | some (.lst xs) => xs.length < sizeLine ∧ 0 ≤ i ∧ i < 2 ^ 63 ∧ R .non (updM M a (.lst (xs.take i.toNat ++ [y] ++ xs.drop i.toNat)))
    | _ => False)
  | _, _ => False
theorem rm_insert {K : Frg} : RM K (fun x vs H Q => ∃ (l : Addr) (xs : List V) (i : Int) (y : V), x = .ref l ∧ vs = [.int i, y] ∧ H l = some (.lst xs) ∧ xs.length < sizeLine ∧ 0 ≤ i ∧ i < 2 ^ 63 ∧
    Q .non (upd H l (.lst (xs.take i.toNat ++ [y] ++ xs.drop i.toNat)))) dInsert := fun F M G H v d vs ds R Q r rs rep h k => by
  unfold dInsert at h
  split at h
  · cases r
    cases rs with
    | cons r1 r2 =>
      cases r2 with
      | cons r2 r3 =>
        cases r3
        cases r1
        split at h
        · rename_i xs e
          obtain ⟨ws, h1, rr⟩ := rep.lst e
          obtain ⟨a1, a2, a3, h⟩ := h
          exact ⟨_, ws, _, _, rfl, rfl, h1, by rw [rr.len]; exact a1, a2, a3, k _ _ F _ _ h (L2.Same.refl F) (rep.put e (o := .lst _) (m' := .lst _) (((rr.take _).append (.cons r2 .nil)).append (rr.drop _))) .non⟩
        · exact h.elim
  · exact h.elim
end
end RS

set_option maxRecDepth 100000
set_option maxHeartbeats 4000000
namespace RS
open PySem PySem.Spec PyProof.Rows L2 NdefX He PySem.W
variable [Tbls]
/-! ### operators by own defs -/
/-- what the def wants of an exception is what is wanted here, or nothing is raised -/
structure EL (E : L2.St → XK) (E1 : XK) (φ : XD → XD) : Prop where
  k : ∀ {K : Frg} {F G : Hp} {W : XD} {σ : L2.St}, KX K F G W (E σ) → KX K F G (φ W) E1
theorem EL.none {E : L2.St → XK} : EL E E0 (fun _ => XF) := ⟨fun _ => KX.none⟩
theorem EL.id {E1 : XK} : EL (fun _ => E1) E1 (fun W => W) := ⟨fun h => h⟩
def ROX (K : Frg) (E1 : XK) (r : R2) (f : D → D → MS → (D → MS → Prop) → XD → Prop) : Prop := ∀ F M G H x y v u R W Q, Rv K F v x → Rv K F u y → Rep K F M G H → f x y M R W → KQ K F G R Q → KX K F G W E1 → r v u H Q
def dBinX (φ : XD → XD) (f : D → D → MS → (D → MS → Prop) → XD → Prop) (Ta Tb : TD) : TD := fun τ M R W => Ta τ M (fun x M1 => Tb τ M1 (fun y M2 => f x y M2 R (φ W)) W) W
section
variable {X : Cx} {E : L2.St → XK} {E1 : XK} {φ : XD → XD} {pos : Pos} {a b : Expr} {Ta Tb : TD} {r : R2} {f : D → D → MS → (D → MS → Prop) → XD → Prop}
theorem up_binX (hl : EL E E1 φ) (hf : ROX X.K E1 r f) {σ : L2.St} {H : Hp} {Q : VK} (h : up X.K E (dBinX φ f Ta Tb) σ H Q) : tOp r (up X.K E Ta) (up X.K E Tb) σ H Q := by
  obtain ⟨F, M, G, τ, R, W, rs, rep, h, k, kx⟩ := h
  refine ⟨F, M, G, τ, _, W, rs, rep, h, fun d M1 F1 H1 v q s1 rep1 r1 => ?_, kx⟩
  refine ⟨F1, M1, G, τ, _, W, rs.mono s1, rep1, q, fun e M2 F2 H2 u q2 s2 rep2 r2 => ?_, kx.le s1⟩
  exact hf F2 M2 G H2 d e v u R (φ W) Q (r1.mono s2) r2 rep2 q2 (k.le (s1.trans s2)) ((hl.k kx).le (s1.trans s2))
theorem de_opX {op : Operator} (hl : EL E E1 φ) (ho : OpR X (binaryOp op) r) (hf : ROX X.K E1 r f) (ha : DE X E a Ta) (hb : DE X E b Tb) : DE X E (.BinOp a op b pos) (dBinX φ f Ta Tb) :=
  ⟨(pe_op ho ha.p hb.p).imp fun σ H Q h => up_binX hl hf h⟩
theorem de_cmpX {op : CmpOp} (hl : EL E E1 φ) (ho : OpR X (compareOp op) r) (hf : ROX X.K E1 r f) (ha : DE X E a Ta) (hb : DE X E b Tb) (hm : behindInMarks op b = false) : DE X E (.Compare a [op] [b] pos) (dBinX φ f Ta Tb) :=
  ⟨(pe_cmpR ho ha.p hb.p hm).imp fun σ H Q h => up_binX hl hf h⟩
theorem dt_cmpX {op : CmpOp} (hl : EL E E1 φ) (ho : OpR X (compareOp op) r) (hf : ROX X.K E1 r f) (ha : DE X E a Ta) (hb : DE X E b Tb) (hm : behindInMarks op b = false) : DT X E (.Compare a [op] [b] pos) (dTB (dBinX φ f Ta Tb)) := by
  refine ⟨(pt_cmpR ho ha.p hb.p hm).imp fun σ H Q h => ?_⟩
  obtain ⟨F, M, G, τ, R, W, rs, rep, h, k, kx⟩ := h
  refine up_binX hl hf ⟨F, M, G, τ, _, W, rs, rep, h, fun d M1 F1 H1 v q s1 rep1 r1 => ?_, kx⟩
  cases d <;> try exact q.elim
  cases r1
  exact ⟨_, rfl, k _ M1 F1 H1 q s1 rep1⟩
end
def isC (M : MS) (C : Addr) (d : D) : Prop := match vw M d with
  | .ins C' _ => C' = C
  | _ => False
theorem isC.at {K : Frg} {F : Hp} {M : MS} {G H : Hp} {C : Addr} {v : V} {d : D} (h : isC M C d) (rep : Rep K F M G H) (r : Rv K F v d) : ∃ a dx fs, v = .ref a ∧ H a = some (.ins C dx fs) := by
  unfold isC at h
  split at h
  · rename_i e
    subst h
    obtain ⟨a, dx, fs, rfl, e1, _⟩ := vw_ins rep r e
    exact ⟨a, dx, fs, rfl, e1⟩
  · exact h.elim
/-- x op y by C's def, both of C -/
def dOwn2 (C : Addr) (S : SpD) (x y : D) (M : MS) (R : D → MS → Prop) (W : XD) : Prop := isC M C x ∧ isC M C y ∧ S [x, y] M R W
theorem rox_bin {K : Frg} {C : Addr} {S : SpD} {E1 : XK} : ROX K E1 (rBinOwn C (upSp K S) E1) (dOwn2 C S) := fun F M G H x y v u R W Q rx ry rep ⟨h1, h2, h⟩ k kx => by
  obtain ⟨a, dx, fs, rfl, e1⟩ := h1.at rep rx
  obtain ⟨b, dy, gs, rfl, e2⟩ := h2.at rep ry
  exact ⟨a, dx, fs, b, dy, gs, rfl, rfl, e1, e2, F, M, G, _, R, W, .cons rx (.cons ry .nil), rep, h, k, kx⟩
/-- == where y is not of a class below C -/
def NotF (K : Frg) (C : Addr) (t : Tag) : Prop := PySem.W.notFirst K C t.v = true
def dOwnEq (K : Frg) (C : Addr) (S : SpD) (x y : D) (M : MS) (R : D → MS → Prop) (W : XD) : Prop := isC M C x ∧ (match tag M y with
  | some t => TagOK K t ∧ NotF K C t ∧ S [x, y] M R W
  | none => False)
theorem rox_eq {K : Frg} {C : Addr} {S : SpD} {E1 : XK} : ROX K E1 (rEqOwn K C (upSp K S) E1) (dOwnEq K C S) := fun F M G H x y v u R W Q rx ry rep ⟨h1, h⟩ k kx => by
  obtain ⟨a, dx, fs, rfl, e1⟩ := h1.at rep rx
  split at h
  · rename_i t et
    obtain ⟨ok, nf, h⟩ := h
    exact ⟨a, dx, fs, _, rfl, e1, tag_ty rep ry et ok, nf, F, M, G, _, R, W, .cons rx (.cons ry .nil), rep, h, k, kx⟩
  · exact h.elim
def dOwnNe (K : Frg) (C : Addr) (S : SpD) (x y : D) (M : MS) (R : D → MS → Prop) (W : XD) : Prop := isC M C x ∧ (match tag M y with
  | some t => TagOK K t ∧ NotF K C t ∧ S [x, y] M (fun d M1 => match d with
    | .bl b => R (.bl (!b)) M1
    | _ => False) W
  | none => False)
theorem KQ.bl {K : Frg} {F G : Hp} {R : D → MS → Prop} {Q : VK} {g : Bool → Bool} (k : KQ K F G R Q) : KQ K F G (fun d M1 => match d with
    | .bl b => R (.bl (g b)) M1
    | _ => False) (fun v H' => ∃ b, v = .bl b ∧ Q (.bl (g b)) H') := fun d M' F' H' v q s rep r => by
  cases d <;> try exact q.elim
  cases r
  exact ⟨_, rfl, k _ M' F' H' _ q s rep (.bl _)⟩
theorem rox_ne {K : Frg} {C : Addr} {S : SpD} {E1 : XK} : ROX K E1 (rNeOwn K C (upSp K S) E1) (dOwnNe K C S) := fun F M G H x y v u R W Q rx ry rep ⟨h1, h⟩ k kx => by
  obtain ⟨a, dx, fs, rfl, e1⟩ := h1.at rep rx
  split at h
  · rename_i t et
    obtain ⟨ok, nf, h⟩ := h
    exact ⟨a, dx, fs, _, rfl, e1, tag_ty rep ry et ok, nf, F, M, G, _, _, W, .cons rx (.cons ry .nil), rep, h, k.bl (g := fun b => !b), kx⟩
  · exact h.elim
/-- x in y by y's def -/
def dOwnIn (neg : Bool) (C : Addr) (S : SpD) (x y : D) (M : MS) (R : D → MS → Prop) (W : XD) : Prop := isC M C y ∧ S [y, x] M (fun d M1 => match d with
    | .bl b => R (.bl (if neg then !b else b)) M1
    | _ => False) W
theorem rox_in {K : Frg} {C : Addr} {S : SpD} {E1 : XK} (neg : Bool) : ROX K E1 (rInOwn neg C (upSp K S) E1) (dOwnIn neg C S) := fun F M G H x y v u R W Q rx ry rep ⟨h1, h⟩ k kx => by
  obtain ⟨a, dx, fs, rfl, e1⟩ := h1.at rep ry
  exact ⟨a, dx, fs, rfl, e1, F, M, G, _, _, W, .cons ry (.cons rx .nil), rep, h, k.bl (g := fun b => if neg then !b else b), kx⟩
section
variable {X : Cx} {E : L2.St → XK} {CX : CXT} {lv : Nat} {C : Addr} {ps : List Str} {S : SpD} {E1 : XK} {φ : XD → XD} {pos : Pos} {a b : Expr} {Ta Tb : TD}
/-- the truth of an instance -/
def dOwnT (φ : XD → XD) (C : Addr) (S : SpD) (Ta : TD) : TTD := fun τ M R W => Ta τ M (fun x M1 => isC M1 C x ∧ S [x] M1 (fun d M2 => match d with
    | .bl b => R b M2
    | _ => False) (φ W)) W
theorem dt_own (hl : EL E E1 φ) (F0 : Mtd X.prog X.w X.K X.mg X.base CX lv C "__bool__" ps [] (upSp X.K S)) (hr : Room lv X.A) (hx : Passes CX X E1) (ha : DE X E a Ta) (he : ∀ whole, isTrue a X.env whole = (do let v ← whole; standAt a.pos; holding [v] (truthy v)) := by intro _; rfl) :
    DT X E a (dOwnT φ C S Ta) := by
  refine ⟨(pt_own (tru_own F0 hr hx) ha.p he).imp fun σ H Q ⟨F, M, G, τ, R, W, rs, rep, h, k, kx⟩ => ?_⟩
  refine ⟨F, M, G, τ, _, W, rs, rep, h, fun d M1 F1 H1 v q s1 rep1 r1 => ?_, kx⟩
  obtain ⟨p, dx, fs, rfl, e1⟩ := q.1.at rep1 r1
  refine ⟨p, dx, fs, rfl, e1, F1, M1, G, _, _, _, .cons r1 .nil, rep1, q.2, fun d M2 F2 H2 v q2 s2 rep2 r2 => ?_, (hl.k kx).le s1⟩
  cases d <;> try exact q2.elim
  cases r2
  exact ⟨_, rfl, k _ M2 F2 H2 q2 (s1.trans s2) rep2⟩
/-- ~x -/
def dOwnU (φ : XD → XD) (C : Addr) (S : SpD) (Ta : TD) : TD := fun τ M R W => Ta τ M (fun x M1 => isC M1 C x ∧ S [x] M1 R (φ W)) W
theorem de_inv (hl : EL E E1 φ) (F0 : Mtd X.prog X.w X.K X.mg X.base CX lv C "__invert__" ps [] (upSp X.K S)) (hr : Room lv X.A) (hx : Passes CX X E1) (ha : DE X E a Ta) : DE X E (.UnaryOp .Invert a pos) (dOwnU φ C S Ta) := by
  refine ⟨(pe_un (un_invOwn F0 hr hx) ha.p).imp fun σ H Q ⟨F, M, G, τ, R, W, rs, rep, h, k, kx⟩ => ?_⟩
  refine ⟨F, M, G, τ, _, W, rs, rep, h, fun d M1 F1 H1 v q s1 rep1 r1 => ?_, kx⟩
  obtain ⟨p, dx, fs, rfl, e1⟩ := q.1.at rep1 r1
  exact ⟨p, dx, fs, rfl, e1, F1, M1, G, _, R, _, .cons r1 .nil, rep1, q.2, k.le s1, (hl.k kx).le s1⟩
/-- x[y] by the own __getitem__ -/
def dOwnIx (C : Addr) (S : SpD) (x y : D) (M : MS) (R : D → MS → Prop) (W : XD) : Prop := isC M C x ∧ S [x, y] M R W
theorem rox_ix {K : Frg} : ROX K E1 (rIxOwn C (upSp K S) E1) (dOwnIx C S) := fun F M G H x y v u R W Q rx ry rep ⟨h1, h⟩ k kx => by
  obtain ⟨p, dx, fs, rfl, e1⟩ := h1.at rep rx
  exact ⟨p, dx, fs, rfl, e1, F, M, G, _, R, W, .cons rx (.cons ry .nil), rep, h, k, kx⟩
theorem de_ixOwn (hl : EL E E1 φ) (g : getIn X.K C = true) (F0 : Mtd X.prog X.w X.K X.mg X.base CX lv C "__getitem__" ps [] (upSp X.K S)) (hr : Room (lv + 1) X.A) (hx : Passes CX X E1) (ha : DE X E a Ta) (hb : DE X E b Tb)
    (hs : ∀ o i, subscripted b true o i = runValue (.builtin "lifetime.subscript" ⟨[o, i], []⟩) := by intro _ _; with_unfolding_all rfl) : DE X E (.Subscript a b pos) (dBinX φ (dOwnIx C S) Ta Tb) :=
  ⟨(pe_ixOwn g F0 hr hx ha.p hb.p hs).imp fun σ H Q h => up_binX hl rox_ix h⟩
/-- bool(x), len(x), str(x) by own defs (that raise nothing) -/
def dOwnB (C : Addr) (S : SpD) (ds : List D) (M : MS) (R : D → MS → Prop) : Prop := match ds with
  | [x] => isC M C x ∧ S [x] M (fun d M2 => match d with
    | .bl b => R (.bl b) M2
    | _ => False) XF
  | _ => False
theorem rc_ownB {K : Frg} : RC K (fun xs H Q => ∃ x, xs = [x] ∧ rTruOwn C (upSp K S) E0 x H fun b H' => Q (.bl b) H') (dOwnB C S) := fun F M G H vs ds R Q r rep h k => by
  unfold dOwnB at h
  split at h
  · cases r with
    | cons r1 r2 =>
      cases r2
      obtain ⟨p, dx, fs, rfl, e1⟩ := h.1.at rep r1
      exact ⟨_, rfl, p, dx, fs, rfl, e1, F, M, G, _, _, XF, .cons r1 .nil, rep, h.2, k.bl (g := fun b => b), KX.none⟩
  · exact h.elim
def dOwnL (C : Addr) (S : SpD) (ds : List D) (M : MS) (R : D → MS → Prop) : Prop := match ds with
  | [x] => isC M C x ∧ S [x] M (fun d M2 => match d with
    | .int n => 0 ≤ n ∧ n < 2 ^ 63 ∧ R (.int n) M2
    | _ => False) XF
  | _ => False
theorem rc_ownL {K : Frg} : RC K (rLenOwn C (upSp K S) E0) (dOwnL C S) := fun F M G H vs ds R Q r rep h k => by
  unfold dOwnL at h
  split at h
  · cases r with
    | cons r1 r2 =>
      cases r2
      obtain ⟨p, dx, fs, rfl, e1⟩ := h.1.at rep r1
      refine ⟨p, dx, fs, rfl, e1, F, M, G, _, _, XF, .cons r1 .nil, rep, h.2, fun d M2 F2 H2 v q s2 rep2 r2 => ?_, KX.none⟩
      cases d <;> try exact q.elim
      cases r2
      exact ⟨_, rfl, q.1, q.2.1, k _ M2 F2 H2 _ q.2.2 s2 rep2 (.int _)⟩
  · exact h.elim
def dOwnS (C : Addr) (S : SpD) (ds : List D) (M : MS) (R : D → MS → Prop) : Prop := match ds with
  | [x] => isC M C x ∧ S [x] M (fun d M2 => match d with
    | .str n => R (.str n) M2
    | _ => False) XF
  | _ => False
theorem rc_ownS {K : Frg} : RC K (rStrOwn C (upSp K S) E0) (dOwnS C S) := fun F M G H vs ds R Q r rep h k => by
  unfold dOwnS at h
  split at h
  · cases r with
    | cons r1 r2 =>
      cases r2
      obtain ⟨p, dx, fs, rfl, e1⟩ := h.1.at rep r1
      refine ⟨p, dx, fs, rfl, e1, F, M, G, _, _, XF, .cons r1 .nil, rep, h.2, fun d M2 F2 H2 v q s2 rep2 r2 => ?_, KX.none⟩
      cases d <;> try exact q.elim
      cases r2
      exact ⟨_, rfl, k _ M2 F2 H2 _ q s2 rep2 (.str _)⟩
  · exact h.elim
end
/-! ### dicts with int and text keys -/
def keyD : D → Option Key
  | .int i => some (.inl i)
  | .str x => some (.inr x)
  | _ => none
def valD (ks : List (Key × D)) (k : Key) : Option D := (ks.find? fun p => decide (p.1 = k)).map (·.2)
def putD (ks : List (Key × D)) (k : Key) (d : D) : List (Key × D) := if (ks.any fun p => decide (p.1 = k)) = true then ks.map (fun p => if p.1 = k then (p.1, d) else p) else ks ++ [(k, d)]
section
variable {K : Frg} {F : Hp}
theorem key_rv {v : V} {d : D} {k : Key} (r : Rv K F v d) (e : keyD d = some k) : v = kV k := by cases r <;> cases e <;> rfl
theorem Rks.val {k : Key} : ∀ {kvs : List (Key × V)} {ks : List (Key × D)}, Rks K F kvs ks → (∀ d, valD ks k = some d → ∃ v, valV kvs k = some v ∧ Rv K F v d) ∧ (valD ks k = none → valV kvs k = none)
  | _, _, .nil => ⟨fun d e => (nomatch e), fun _ => rfl⟩
  | _, _, .cons (k := k') r rs => by
    obtain ⟨h1, h2⟩ := Rks.val rs
    unfold valD valV at *
    by_cases e : k' = k
    · simp only [List.find?_cons, e, decide_true, Option.map_some]
      exact ⟨fun d z => (by cases z; exact ⟨_, rfl, r⟩), fun z => nomatch z⟩
    · simp only [List.find?_cons, e, decide_false]
      exact ⟨h1, h2⟩
theorem Rks.any {k : Key} : ∀ {kvs : List (Key × V)} {ks : List (Key × D)}, Rks K F kvs ks → (kvs.any fun p => decide (p.1 = k)) = (ks.any fun p => decide (p.1 = k))
  | _, _, .nil => rfl
  | _, _, .cons r rs => by rw [List.any_cons, List.any_cons, Rks.any rs]
theorem Rks.put {k : Key} {v : V} {d : D} (r : Rv K F v d) {kvs : List (Key × V)} {ks : List (Key × D)} (rs : Rks K F kvs ks) : Rks K F (putK kvs k v) (putD ks k d) := by
  unfold putK putD
  rw [rs.any]
  split
  · have key : ∀ {kvs : List (Key × V)} {ks : List (Key × D)}, Rks K F kvs ks → Rks K F (kvs.map fun kv => if kv.1 = k then (kv.1, v) else kv) (ks.map fun p => if p.1 = k then (p.1, d) else p) := by
      intro kvs ks rs
      induction kvs generalizing ks with
      | nil => cases rs; exact .nil
      | cons p kvs ih =>
        cases rs with
        | cons r' rs' =>
          rename_i k' v' d' ds'
          rw [List.map_cons, List.map_cons]
          by_cases e : k' = k
          · rw [if_pos e, if_pos e]; exact .cons r (ih rs')
          · rw [if_neg e, if_neg e]; exact .cons r' (ih rs')
    exact key rs
  · have key : ∀ {kvs : List (Key × V)} {ks : List (Key × D)}, Rks K F kvs ks → Rks K F (kvs ++ [(k, v)]) (ks ++ [(k, d)]) := by
      intro kvs ks rs
      induction kvs generalizing ks with
      | nil => cases rs; exact .cons r .nil
      | cons p kvs ih =>
        cases rs with
        | cons r' rs' => exact .cons r' (ih rs')
    exact key rs
end
section
variable {X : Cx} {E : L2.St → XK} {pos : Pos} {o i value : Expr} {To Ti Tv : TD}
def dDnew : TD := fun _ M R _ => ∀ p, M p = none → R (.ref p) (updM M p (.dct []))
theorem de_dnew : DE X E (.Dict [] [] pos) dDnew := ⟨pe_dnewK.imp fun σ H Q ⟨F, M, G, τ, R, W, rs, rep, h, k, kx⟩ p hp => k _ _ F _ _ (h p (rep.freeM hp)) (L2.Same.refl F) (rep.newM (o := .dK []) (m := .dct []) hp .nil) (.ref p)⟩
def dDget (To Ti : TD) : TD := fun τ M R W => To τ M (fun d M1 => Ti τ M1 (fun k M2 => match vw M2 d, keyD k with
  | .dct ks, some k => (match valD ks k with
    | some v => R v M2
    | none => False)
  | _, _ => False) W) W
theorem de_dget (hu : X.A.units + 1 < cLine) (ho : DE X E o To) (hi : DE X E i Ti) (hs : NoSl i) : DE X E (.Subscript o i pos) (dDget To Ti) := by
  refine ⟨(pe_dget hu ho.p hi.p hs).imp fun σ H Q ⟨F, M, G, τ, R, W, rs, rep, h, k, kx⟩ => ?_⟩
  refine ⟨F, M, G, τ, _, W, rs, rep, h, fun d M1 F1 H1 v q s1 rep1 r1 => ?_, kx⟩
  refine ⟨F1, M1, G, τ, _, W, rs.mono s1, rep1, q, fun z M2 F2 H2 u q2 s2 rep2 r2 => ?_, kx.le s1⟩
  dsimp only at q2
  split at q2
  · rename_i ks kk e1 e2
    obtain ⟨a, kvs, rfl, h1, rr⟩ := vw_dct rep2 (r1.mono s2) e1
    cases key_rv r2 e2
    split at q2
    · rename_i v ev
      obtain ⟨w, e3, rw'⟩ := rr.val.1 v ev
      refine ⟨a, w, rfl, ?_, k _ M2 F2 H2 _ q2 (s1.trans s2) rep2 rw'⟩
      rw [← e3]
      exact DGet.k h1
    · exact q2.elim
  · exact q2.elim
def dDin (neg : Bool) (Ti To : TD) : TD := fun τ M R W => Ti τ M (fun k M1 => To τ M1 (fun d M2 => match vw M2 d, keyD k with
  | .dct ks, some k => R (.bl (if neg then !(valD ks k).isSome else (valD ks k).isSome)) M2
  | _, _ => False) W) W
theorem dDin_ok {neg : Bool} {Q : VK} {F G : Hp} {M2 : MS} {H : Hp} {R : D → MS → Prop} {d k : D} {v u : V} (rep : Rep X.K F M2 G H) (r1 : Rv X.K F v k) (r2 : Rv X.K F u d) (kq : KQ X.K F G R Q) (q : match vw M2 d, keyD k with
  | .dct ks, some k => R (.bl (if neg then !(valD ks k).isSome else (valD ks k).isSome)) M2
  | _, _ => False) : ∃ a o, u = .ref a ∧ DGet H a v o ∧ Q (.bl (if neg then !o.isSome else o.isSome)) H := by
  split at q
  · rename_i ks kk e1 e2
    obtain ⟨a, kvs, rfl, h1, rr⟩ := vw_dct rep r2 e1
    cases key_rv r1 e2
    refine ⟨a, _, rfl, DGet.k h1, ?_⟩
    have e : (valV kvs kk).isSome = (valD ks kk).isSome := by
      cases z : valD ks kk with
      | none => rw [rr.val.2 z]; rfl
      | some d => obtain ⟨w, e3, _⟩ := rr.val.1 d z; rw [e3]; rfl
    rw [e]
    exact kq _ M2 F H _ q (L2.Same.refl F) rep (.bl _)
  · exact q.elim
theorem de_din (hu : X.A.units + 1 < cLine) (hi : DE X E i Ti) (ho : DE X E o To) (hb : behindInMarks .In o = false := by rfl) : DE X E (.Compare i [.In] [o] pos) (dDin false Ti To) := by
  refine ⟨(pe_cmp (pc_din hu hi.p ho.p) hb).imp fun σ H Q ⟨F, M, G, τ, R, W, rs, rep, h, k, kx⟩ => ?_⟩
  refine ⟨F, M, G, τ, _, W, rs, rep, h, fun d M1 F1 H1 v q s1 rep1 r1 => ?_, kx⟩
  exact ⟨F1, M1, G, τ, _, W, rs.mono s1, rep1, q, fun z M2 F2 H2 u q2 s2 rep2 r2 => dDin_ok (neg := false) rep2 (r1.mono s2) r2 (k.le (s1.trans s2)) q2, kx.le s1⟩
theorem de_dnotin (hu : X.A.units + 1 < cLine) (hi : DE X E i Ti) (ho : DE X E o To) (hb : behindInMarks .NotIn o = false := by rfl) : DE X E (.Compare i [.NotIn] [o] pos) (dDin true Ti To) := by
  refine ⟨(pe_cmp (pc_dnotin hu hi.p ho.p) hb).imp fun σ H Q ⟨F, M, G, τ, R, W, rs, rep, h, k, kx⟩ => ?_⟩
  refine ⟨F, M, G, τ, _, W, rs, rep, h, fun d M1 F1 H1 v q s1 rep1 r1 => ?_, kx⟩
  exact ⟨F1, M1, G, τ, _, W, rs.mono s1, rep1, q, fun z M2 F2 H2 u q2 s2 rep2 r2 => dDin_ok (neg := true) rep2 (r1.mono s2) r2 (k.le (s1.trans s2)) q2, kx.le s1⟩
theorem dt_din (hu : X.A.units + 1 < cLine) (hi : DE X E i Ti) (ho : DE X E o To) (hb : behindInMarks .In o = false := by rfl) : DT X E (.Compare i [.In] [o] pos) (dTB (dDin false Ti To)) := by
  refine ⟨(pt_cmp (pc_din hu hi.p ho.p) hb).imp fun σ H Q ⟨F, M, G, τ, R, W, rs, rep, h, k, kx⟩ => ?_⟩
  refine ⟨F, M, G, τ, _, W, rs, rep, h, fun d M1 F1 H1 v q s1 rep1 r1 => ?_, kx⟩
  refine ⟨F1, M1, G, τ, _, W, rs.mono s1, rep1, q, fun z M2 F2 H2 u q2 s2 rep2 r2 => ?_, kx.le s1⟩
  refine dDin_ok (neg := false) (R := fun d M1 => match d with
    | .bl b => R b M1
    | _ => False) (Q := fun x H1 => ∃ c, x = .bl c ∧ Q c H1) rep2 (r1.mono s2) r2 (fun d M' F' H' v q' s' rep' r' => ?_) q2
  cases d <;> try exact q'.elim
  cases r'
  exact ⟨_, rfl, k _ M' F' H' q' ((s1.trans s2).trans s') rep'⟩
theorem dt_dnotin (hu : X.A.units + 1 < cLine) (hi : DE X E i Ti) (ho : DE X E o To) (hb : behindInMarks .NotIn o = false := by rfl) : DT X E (.Compare i [.NotIn] [o] pos) (dTB (dDin true Ti To)) := by
  refine ⟨(pt_cmp (pc_dnotin hu hi.p ho.p) hb).imp fun σ H Q ⟨F, M, G, τ, R, W, rs, rep, h, k, kx⟩ => ?_⟩
  refine ⟨F, M, G, τ, _, W, rs, rep, h, fun d M1 F1 H1 v q s1 rep1 r1 => ?_, kx⟩
  refine ⟨F1, M1, G, τ, _, W, rs.mono s1, rep1, q, fun z M2 F2 H2 u q2 s2 rep2 r2 => ?_, kx.le s1⟩
  refine dDin_ok (neg := true) (R := fun d M1 => match d with
    | .bl b => R b M1
    | _ => False) (Q := fun x H1 => ∃ c, x = .bl c ∧ Q c H1) rep2 (r1.mono s2) r2 (fun d M' F' H' v q' s' rep' r' => ?_) q2
  cases d <;> try exact q'.elim
  cases r'
  exact ⟨_, rfl, k _ M' F' H' q' ((s1.trans s2).trans s') rep'⟩
/-- d[k] = v -/
def dDput (To Ti Tv : TD) : TSD := fun N τ M => Tv τ M (fun v M1 => To τ M1 (fun d M2 => Ti τ M2 (fun k M3 => match d, keyD k with
  | .ref a, some k => (match M3 a with
    | some (.dct ks) => ks.length < sizeLine ∧ N.nx τ (updM M3 a (.dct (putD ks k v)))
    | _ => False)
  | _, _ => False) (N.ex τ)) (N.ex τ)) (N.ex τ)
theorem ds_dput {pos' : Pos} (hu : X.A.units + 1 < cLine) (ho : DE X E o To) (hi : DE X E i Ti) (hv : DE X E value Tv) (hs : swapsWith value (some (.Subscript o i pos')) pos.line X.env = pure false := by rfl) : DS X E (.Assign [.Subscript o i pos'] value pos) (dDput To Ti Tv) := by
  refine ⟨(ps_dput hu ho.p hi.p hv.p hs).imp fun D σ H ⟨F, M, G, τ, N, rs, rep, h, lk⟩ => ?_⟩
  refine ⟨F, M, G, τ, _, _, rs, rep, h, fun v M1 F1 H1 w q s1 rep1 r1 => ?_, lk.ex.at rs⟩
  refine ⟨F1, M1, G, τ, _, _, rs.mono s1, rep1, q, fun d M2 F2 H2 u q2 s2 rep2 r2 => ?_, (lk.ex.at rs).le s1⟩
  refine ⟨F2, M2, G, τ, _, _, (rs.mono s1).mono s2, rep2, q2, fun k M3 F3 H3 z q3 s3 rep3 r3 => ?_, ((lk.ex.at rs).le s1).le s2⟩
  dsimp only at q3
  split at q3
  · rename_i a kk e
    cases r2
    cases key_rv r3 e
    split at q3
    · rename_i ks em
      obtain ⟨kvs, h1, rr⟩ := rep3.dct em
      have s := (s1.trans s2).trans s3
      have ln : kvs.length < sizeLine := by rw [rr.len]; exact q3.1
      exact ⟨a, _, rfl, DPut.k h1 ln, lk.nx _ _ _ F3 _ q3.2 s (rep3.put em (o := .dK _) (m' := .dct _) (rr.put ((r1.mono s2).mono s3))) (rs.mono s)⟩
    · exact q3.elim
  · exact q3.elim
end
end RS

set_option maxRecDepth 100000
set_option maxHeartbeats 4000000
namespace RS
open PySem PySem.Spec PyProof.Rows L2 NdefX He PySem.W
variable [Tbls]
/-! ### raise -/
section
variable {X : Cx} {E : L2.St → XK} {x n : Str} {C C0 : Addr} {names : List Str} {e : Expr} {es : List Expr} {Ta : TAD} {p pos pos' np : Pos} {body suite : List Stmt} {b₀ : Stmt} {i : Nat} {Tb : TSD} {Ts : Addr → Value → Option Addr → TSD} {To : TD}
theorem Rfs.zip {K : Frg} {F : Hp} : ∀ {ns : List Str} {vs : List V} {ds : List D}, Rvs K F vs ds → Rfs K F (ns.zip vs) (ns.zip ds)
  | [], _, _, _ => .nil
  | n :: ns, _, _, .nil => .nil
  | n :: ns, _, _, .cons r rs => .cons r (Rfs.zip rs)
theorem Rfs.append {K : Frg} {F : Hp} : ∀ {a b : List (Str × V)} {c d : List (Str × D)}, Rfs K F a c → Rfs K F b d → Rfs K F (a ++ b) (c ++ d)
  | _, _, _, _, .nil, y => y
  | _, _, _, _, .cons x xs, y => .cons x (Rfs.append xs y)
theorem Rfs.reverse {K : Frg} {F : Hp} : ∀ {a : List (Str × V)} {c : List (Str × D)}, Rfs K F a c → Rfs K F a.reverse c.reverse
  | _, _, .nil => .nil
  | _, _, .cons x xs => by rw [List.reverse_cons, List.reverse_cons]; exact (Rfs.reverse xs).append (.cons x .nil)
def dRaise (C : Addr) (names : List Str) (Ta : TAD) : TSD := fun N τ M => Ta τ M (fun ds M1 => ds.length = names.length ∧ N.ex τ C ((names.zip ds).reverse) M1) (N.ex τ)
theorem _root_.L2.PS.raise_imp {X : Cx} {e : Expr} {t t' : L2.St → Hp → XK → Prop} (h : PMk X e t) (i : ∀ σ H Q, t' σ H Q → t σ H Q) : PMk X e t' := fun pins s σ H Q I q => h pins s σ H Q I (i _ _ _ q)
theorem ds_raise (hc : X.calm = true) (tk : Takes X (fun c d σ H => E σ c d H)) (M0 : Exk X.prog X.w X.K X.mg X.base x C names) (hr : Room 2 X.A) (ha : DAs X E (e :: es) Ta) (hn : names ≠ [] := by simp) (hl : names.length ≤ 1000 := by decide) (hg : Gl X x := by rfl)
    (hdb : (x == ("__debug__" : Str)) = false := by decide) (he : starEach (e :: es) X.env = (false, eval e X.env) :: starEach es X.env := by rfl) (hpl : (backTo pos (starEach es X.env)).any (·.1) = false := by rfl) :
    DS X E (.Raise (some (.Call (.Name x p) (e :: es) [] pos)) none pos') (dRaise C names Ta) := by
  refine ⟨(L2.ps_raise hc tk (pmk_ex M0 hr ha.p hg hdb he hpl)).imp fun D σ H ⟨F, M, G, τ, N, rs, rep, h, lk⟩ => ?_⟩
  refine ⟨F, M, G, τ, _, _, rs, rep, h, fun ds M1 F1 H1 vs q s1 rep1 r1 => ?_, lk.ex.at rs⟩
  have hl2 : vs.length = names.length := by rw [r1.len]; exact q.1
  refine mkEx (Q := fun c d H' => E σ c d H') hl2 hn (by rw [hl2]; exact hl) fun d hd => ?_
  obtain ⟨rep2, s2⟩ := rep1.newF (o := .xd ((names.zip vs).reverse)) hd
  exact ((lk.ex.at rs).le s1) C _ M1 _ _ (some d) q.2 s2 rep2 ⟨_, upd_same, ((Rfs.zip r1).reverse).mono s2⟩
/-! ### try .. except X as n, X own -/
def Exm (K : Frg) (C C0 : Addr) (b : Bool) : Prop := PySem.W.exmOne K (.ref C) (.ref C0) = some b
def endS (i : Nat) (N : EndsD) : EndsD := { nx := fun τ M => N.nx (τ.set i none) M, rt := N.rt, bk := fun τ M => N.bk (τ.set i none) M, ct := fun τ M => N.ct (τ.set i none) M }
def dTry (K : Frg) (C0 : Addr) (i : Nat) (Tb : TSD) (Ts : Addr → Value → Option Addr → TSD) : TSD := fun N τ M => Tb { N with ex := fun τ' C fs M' => ∃ b, Exm K C C0 b ∧ (b = true → ∀ a d, (fs ≠ [] → d.isSome = true) → Ts a (.ref C) d (endS i N) (τ'.set i (some (.exc a d C fs))) M') ∧ (b = false → N.ex τ' C fs M') } τ M
theorem Rx.some {K : Frg} {F : Hp} {d : Option Addr} {fs : List (Str × D)} (h : Rx K F d fs) (n : fs ≠ []) : d.isSome = true := by
  cases d with
  | none => exact absurd (show fs = [] from h) n
  | some d => rfl
theorem Rx.rv {K : Frg} {F : Hp} {d : Option Addr} {fs : List (Str × D)} (h : Rx K F d fs) (a C : Addr) : Rv K F (.ref a) (.exc a d C fs) := by
  cases d with
  | none => cases (show fs = [] from h); exact .exc0 a C
  | some d => obtain ⟨gs, e, r⟩ := h; exact .exc1 e r
theorem ds_try {K : Frg} (hk : X.K = K) (i : Nat) (hs : X.stack = X.env :: X.outer) (hf : X.env.frame = some X.env.locals) (hN : X.N.Nodup) (hi : X.N[i]? = some n) (hln : X.env.kindOf n = some .local) (hc : Names X x (.ref C0)) (tk : Takes X (fun c d σ H => E σ c d H))
    (hb : ∀ (W : WX) (pn : List (Addr × Obj)) (xe : Value → Shared → Prop), Takes (X.tr pn xe) W → PassesOwn (model X.prog X.w) X.A X.env xe → DSs (X.tr pn xe) (WE W) body Tb)
    (hsu : ∀ (a : Addr) (oe : Obj) (cls : Value) (d : Option Addr) (pn : List (Addr × Obj)), Zc cls d oe → (∃ vs, oe.data = .fields vs) → DSs (X.suite a ((a, oe) :: pn)) E0' (b₀ :: suite) (Ts a cls d)) :
    DS X E (.Try body [.ExceptHandler (some (.Name x np)) (some n) (b₀ :: suite) pos'] [] [] pos) (dTry K C0 i Tb Ts) := by
  subst hk
  refine ⟨(L2.ps_try_as (tb := fun W => upS X.K (WE W) Tb) (ts := fun a cls d => upS X.K E0' (Ts a cls d)) hs hf hN hi hln hc tk (fun W pn xe tk' po => (hb W pn xe tk' po).p) (fun a oe cls d pn hz hf' => (hsu a oe cls d pn hz hf').p)).imp fun D σ H ⟨F, M, G, τ, N, rs, rep, h, lk⟩ => ?_⟩
  refine ⟨F, M, G, τ, _, rs, rep, h, ⟨lk.nx, lk.rt, lk.bk, lk.ct, fun σ' τ' F1 s1 rs1 C fs M' F2 H' d q s2 rep2 rx => ?_⟩⟩
  obtain ⟨b, eb, h1, h2⟩ := q
  have s12 := s1.trans s2
  refine ⟨b, eb, fun hb a ha => ?_, fun hb => ?_⟩
  · refine ⟨F2, M', G, _, _, (rs1.mono s2).set (rx.rv a C) i, rep2, h1 hb a d rx.some, ⟨?_, lk.rt.le s12, ?_, ?_, ?_⟩⟩
    · exact fun σ5 τ5 M5 F5 H5 q5 s5 rep5 rs5 => lk.nx _ _ M5 F5 H5 q5 (s12.trans s5) rep5 (rs5.none i)
    · exact fun σ5 τ5 M5 F5 H5 q5 s5 rep5 rs5 => lk.bk _ _ M5 F5 H5 q5 (s12.trans s5) rep5 (rs5.none i)
    · exact fun σ5 τ5 M5 F5 H5 q5 s5 rep5 rs5 => lk.ct _ _ M5 F5 H5 q5 (s12.trans s5) rep5 (rs5.none i)
    · exact fun _ _ _ _ _ => KX.none
  · exact (lk.ex σ' τ' F1 s1 rs1) C fs M' F2 H' d (h2 hb) s2 rep2 rx
/-- try .. except X: -/
def dTry0 (K : Frg) (C0 : Addr) (Tb : TSD) (Ts : Addr → Value → Option Addr → TSD) : TSD := fun N τ M => Tb { N with ex := fun τ' C fs M' => ∃ b, Exm K C C0 b ∧ (b = true → ∀ a d, (fs ≠ [] → d.isSome = true) → Ts a (.ref C) d { N with ex := fun _ => XF } τ' M') ∧ (b = false → N.ex τ' C fs M') } τ M
theorem ds_try0 {K : Frg} (hk : X.K = K) (hs : X.stack = X.env :: X.outer) (hf : X.env.frame = some X.env.locals) (hc : Names X x (.ref C0)) (tk : Takes X (fun c d σ H => E σ c d H))
    (hb : ∀ (W : WX) (pn : List (Addr × Obj)) (xe : Value → Shared → Prop), Takes (X.tr pn xe) W → PassesOwn (model X.prog X.w) X.A X.env xe → DSs (X.tr pn xe) (WE W) body Tb)
    (hsu : ∀ (a : Addr) (oe : Obj) (cls : Value) (d : Option Addr) (pn : List (Addr × Obj)), Zc cls d oe → (∃ vs, oe.data = .fields vs) → DSs (X.suite a ((a, oe) :: pn)) E0' (b₀ :: suite) (Ts a cls d)) :
    DS X E (.Try body [.ExceptHandler (some (.Name x np)) none (b₀ :: suite) pos'] [] [] pos) (dTry0 K C0 Tb Ts) := by
  subst hk
  refine ⟨(L2.ps_try_only (tb := fun W => upS X.K (WE W) Tb) (ts := fun a cls d => upS X.K E0' (Ts a cls d)) hs hf hc tk (fun W pn xe tk' po => (hb W pn xe tk' po).p) (fun a oe cls d pn hz hf' => (hsu a oe cls d pn hz hf').p)).imp fun D σ H ⟨F, M, G, τ, N, rs, rep, h, lk⟩ => ?_⟩
  refine ⟨F, M, G, τ, _, rs, rep, h, ⟨lk.nx, lk.rt, lk.bk, lk.ct, fun σ' τ' F1 s1 rs1 C fs M' F2 H' d q s2 rep2 rx => ?_⟩⟩
  obtain ⟨b, eb, h1, h2⟩ := q
  have s12 := s1.trans s2
  refine ⟨b, eb, fun hb a ha => ?_, fun hb => ?_⟩
  · exact ⟨F2, M', G, _, _, rs1.mono s2, rep2, h1 hb a d rx.some, ⟨lk.nx.le s12, lk.rt.le s12, lk.bk.le s12, lk.ct.le s12, fun _ _ _ _ _ => KX.none⟩⟩
  · exact (lk.ex σ' τ' F1 s1 rs1) C fs M' F2 H' d (h2 hb) s2 rep2 rx
/-- n.f of the caught one -/
def dXf (a : Addr) (cls : Value) (d : Option Addr) (f : Str) (i : Nat) (C : Addr) (To : TD) : TD := fun τ M R W => To τ M (fun v M1 => match v with
  | .exc a' d' C' gs => a' = a ∧ d' = d ∧ cls = .ref C ∧ C' = C ∧ d.isSome = true ∧ (gs.map (·.1)).Nodup ∧ (match gs[i]? with
    | some (g, x) => g = f ∧ R x M1
    | none => False)
  | _ => False) W
theorem de_xf {a : Addr} {oe : Obj} {cls : Value} {d : Option Addr} {pn : List (Addr × Obj)} (f : Str) (i : Nat) (T : XfC X.K C) (hno : PySem.W.findIn X.K (.ref C) f = some none)
    (hz : Zc cls d oe) (hf : ∃ vs, oe.data = .fields vs) (he : DE (X.suite a ((a, oe) :: pn)) E e To) (hb : attributeBase e f X.env (eval e X.env) = eval e X.env := by rfl) :
    DE (X.suite a ((a, oe) :: pn)) E (.Attribute e f pos) (dXf a cls d f i C To) := by
  refine ⟨(L2.pe_xf T hno hz hf he.p hb).imp fun σ H Q ⟨F, M, G, τ, R, W, rs, rep, h, k, kx⟩ => ?_⟩
  refine ⟨F, M, G, τ, _, W, rs, rep, h, fun v M1 F1 H1 w q s1 rep1 r1 => ?_, kx⟩
  dsimp only at q
  split at q
  · obtain ⟨rfl, rfl, rfl, rfl, ds, nd, q⟩ := q
    split at q
    · rename_i g z e
      obtain ⟨rfl, q⟩ := q
      cases r1 with
      | exc0 => cases ds
      | exc1 e1 rr =>
        obtain ⟨u, l, ru⟩ := rr.look nd e
        exact ⟨rfl, rfl, _, _, u, rfl, rep1.fz _ _ e1, l, k _ M1 F1 H1 _ q s1 rep1 ru⟩
    · exact q.elim
  · exact q.elim
/-- isinstance(n, c) of the caught one -/
def dIsX (K : Frg) (a : Addr) (cls : Value) (d : Option Addr) (C : Addr) (ds : List D) (M : MS) (R : D → MS → Prop) : Prop := match ds with
  | [.exc a' d' C' _, c] => a' = a ∧ d' = d ∧ cls = .ref C ∧ C' = C ∧ (match clsTag c with
    | some t => ∃ b, IsA K (.own C) t b ∧ R (.bl b) M
    | none => False)
  | _ => False
theorem rc_isX {K : Frg} {a : Addr} {cls : Value} {d : Option Addr} : RC K (fun xs H Q => cls = .ref C ∧ (∀ dd, d = some dd → ∃ fs, H dd = some (.xd fs)) ∧ rIsE K C a xs H Q) (dIsX K a cls d C) := fun F M G H vs ds R Q r rep h k => by
  unfold dIsX at h
  split at h
  · obtain ⟨rfl, rfl, rfl, rfl, h⟩ := h
    cases r with
    | cons r1 r2 =>
      cases r2 with
      | cons r2 r3 =>
        cases r3
        split at h
        · rename_i t e
          obtain ⟨b, hb, h⟩ := h
          have cv := rv_clsTag r2 e
          cases r1 with
          | exc0 => exact ⟨rfl, (fun dd z => nomatch z), _, _, b, rfl, fun u ru => cv.eq ru, hb, k _ M F H _ h (L2.Same.refl F) rep (.bl _)⟩
          | exc1 e1 rr => exact ⟨rfl, fun dd z => (by cases z; exact ⟨_, rep.fz _ _ e1⟩), _, _, b, rfl, fun u ru => cv.eq ru, hb, k _ M F H _ h (L2.Same.refl F) rep (.bl _)⟩
        · exact h.elim
  · exact h.elim
end
end RS

set_option maxRecDepth 100000
set_option maxHeartbeats 4000000
namespace RS
open PySem PySem.Spec PyProof.Rows L2 NdefX He PySem.W
variable [Tbls]
/-! ### the bag as data -/
theorem FnOk.ofCX0 {P : Program} {w : World} {K : Frg} {mg : Str → Option Value} {base : Heap} {CX : CXT} {k : Nat} {f : Addr} {fd : FuncData} {ps : List Str} {sp : Sp} (F : FnOk P w K mg base CX0 k f fd ps sp) : FnOk P w K mg base CX k f fd ps sp :=
  ⟨F.len, fun A outer s H args us vs Q E hr he hb hv hs => codeAny_mono (F.run A outer s H args us vs Q E hr he hb hv hs) fun r s' h => by
    match r, h with
    | .error e, h => exact h.elim
    | .ok (.ret u), h => exact h
    | .ok .next, h => exact h.elim
    | .ok .brk, h => exact h.elim
    | .ok .cont, h => exact h.elim⟩
theorem FnOk.toCX0 {P : Program} {w : World} {K : Frg} {mg : Str → Option Value} {base : Heap} {k : Nat} {f : Addr} {fd : FuncData} {ps : List Str} {sp : Sp} (F : FnOk P w K mg base (L2.CX P w) k f fd ps sp) : FnOk P w K mg base CX0 k f fd ps (fun vs H Q _ => sp vs H Q E0) :=
  ⟨fun vs H Q E h => F.len vs H Q E0 h, fun A outer s H args us vs Q E hr he hb hv hs => codeAny_mono (F.run A outer s H args us vs Q E0 hr he hb hv hs) fun r s' h => by
    match r, h with
    | .error e, h =>
      obtain ⟨_, _, _, _, _, _, _, _, _, _, _, _, z⟩ := h
      exact z.elim
    | .ok (.ret u), h => exact h
    | .ok .next, h => exact h.elim
    | .ok .brk, h => exact h.elim
    | .ok .cont, h => exact h.elim⟩
def bagDD (cs : List Int) (a d n f : Int) : List (Key × D) := [(.inr "cells", .lst (cs.map .int)), (.inr "at", .int a), (.inr "digits", .int d), (.inr "count", .int n), (.inr "fold", .int f)]
/-- a bag from which b numbers may still be drawn -/
def BagM (m : MO) (b : Nat) : Prop := ∃ (cs : List Int) (a d n f : Int), m = .dct (bagDD cs a d n f) ∧ 0 ≤ a ∧ 0 ≤ d ∧ 0 ≤ n ∧ n + b ≤ 2 ^ 50 ∧ 0 ≤ f ∧ f < 2 ^ 32
theorem BagM.mono {m : MO} {b b' : Nat} (h : b' ≤ b) (x : BagM m b) : BagM m b' := by
  obtain ⟨cs, a, d, n, f, h1, h2, h3, h4, h5, h6, h7⟩ := x
  exact ⟨cs, a, d, n, f, h1, h2, h3, h4, by omega, h6, h7⟩
theorem ints_rv {K : Frg} {F : Hp} : ∀ {vs : List V} {cs : List Int}, Rvs K F vs (cs.map D.int) → vs = cs.map V.int
  | _, [], .nil => rfl
  | _, c :: cs, .cons r rs => by cases r; rw [ints_rv rs]; rfl
theorem BagM.pen {K : Frg} {F : Hp} {M : MS} {G H : Hp} {p : Addr} {m : MO} {b : Nat} (rep : Rep K F M G H) (e : M p = some m) (x : BagM m b) : ∃ (c : Addr) (cs : List Int), F c = some (.lst (cs.map V.int)) ∧ Pen H p c b := by
  obtain ⟨cs, a, d, n, f, rfl, h2, h3, h4, h5, h6, h7⟩ := x
  obtain ⟨kvs, h1, r⟩ := rep.dct e
  unfold bagDD at r
  cases r with
  | cons r1 r =>
  cases r with
  | cons r2 r =>
  cases r with
  | cons r3 r =>
  cases r with
  | cons r4 r =>
  cases r with
  | cons r5 r =>
  cases r
  cases r1 with
  | lst fc rr =>
  cases r2; cases r3; cases r4; cases r5
  cases ints_rv rr
  exact ⟨_, cs, fc, ⟨cs, a, d, n, f, h1, rep.fz _ _ fc, h2, h3, h4, h5, h6, h7⟩⟩
theorem Pen.bag {K : Frg} {F : Hp} {H : Hp} {p c : Addr} {b : Nat} {cs : List Int} (x : Pen H p c b) (fc : F c = some (.lst (cs.map V.int))) (hc : H c = some (.lst (cs.map V.int))) : ∃ m o, H p = some o ∧ RepO K F (some o) m ∧ BagM m b := by
  obtain ⟨cs', a, d, n, f, h1, h2, h3, h4, h5, h6, h7, h8⟩ := x.ex
  rw [h2] at hc
  have e : cs' = cs := by
    have := HO.lst.inj (Option.some.inj hc)
    have inj : ∀ {xs ys : List Int}, xs.map V.int = ys.map V.int → xs = ys := by
      intro xs
      induction xs with
      | nil => intro ys h; cases ys with
        | nil => rfl
        | cons y ys => simp at h
      | cons x xs ih => intro ys h; cases ys with
        | nil => simp at h
        | cons y ys =>
          rw [List.map_cons, List.map_cons] at h
          obtain ⟨h1, h2⟩ := List.cons.inj h
          cases h1
          rw [ih h2]
    exact inj this
  subst e
  exact ⟨.dct (bagDD cs' a d n f), _, h1, .cons (.lst fc (Rvs.ints cs')) (.cons (.int _) (.cons (.int _) (.cons (.int _) (.cons (.int _) .nil)))), ⟨cs', a, d, n, f, rfl, h3, h4, h5, h6, h7, h8⟩⟩
def spDrawD : SpD := fun ds M R _ => ∃ (p : Addr) (m : MO) (i : Int) (b : Nat), ds = [.ref p, .int i] ∧ 0 < i ∧ i.natAbs.log2 < 9000 ∧ M p = some m ∧ BagM m (b + 1) ∧ ∀ z m', 0 ≤ z → z < i → BagM m' b → R (.int z) (updM M p m')
def spPenD : SpD := fun ds M R _ => ∃ ns : List Int, ds = [.scr ns] ∧ ns.length ≤ 63 ∧ ∀ p m, M p = none → BagM m (2 ^ 49) → R (.ref p) (updM M p m)
theorem draw_up {K : Frg} (vs : List V) (H : Hp) (Q : VK) (E : XK) (h : upSp K spDrawD vs H Q E) : spDraw vs H Q E := by
  obtain ⟨F, M, G, ds, R, W, rv, rep, ⟨p, m, i, b, rfl, h1, h2, h3, h4, h5⟩, k, kx⟩ := h
  cases rv with
  | cons r1 rv =>
  cases rv with
  | cons r2 rv =>
  cases rv; cases r1; cases r2
  obtain ⟨c, cs, fc, pn⟩ := h4.pen rep h3
  refine ⟨p, c, i, b, rfl, h1, h2, pn, fun z H' z0 z1 pn' sv => ?_⟩
  have np : ∀ {a : Addr} {o : HO}, F a = some o → a ≠ p := fun e q => by subst q; rw [(rep.mu _ _ h3).1] at e; cases e
  have hc : H' c = some (.lst (cs.map V.int)) := sv _ _ (np fc) (rep.fz _ _ fc)
  obtain ⟨m', o, e1, ro, bm⟩ := pn'.bag (K := K) fc hc
  refine k _ _ F H' _ (h5 z m' z0 z1 bm) (L2.Same.refl F) ⟨fun a o e => sv _ _ (np e) (rep.fz _ _ e), fun a n e => ?_, fun a o e => ?_, rep.nt, rep.ng, tabs_rep rep h3 sv⟩ (.int z)
  · by_cases ha : a = p
    · subst ha
      rw [updM_same] at e
      cases e
      rw [e1]
      exact ⟨(rep.mu _ _ h3).1, (rep.mu _ _ h3).2.1, ro⟩
    · rw [updM_ne ha] at e
      obtain ⟨x, y, w⟩ := rep.mu _ _ e
      obtain ⟨u, hu⟩ := w.some
      rw [sv _ _ ha hu, ← hu]
      exact ⟨x, y, w⟩
  · have ha : a ≠ p := fun q => by subst q; rw [(rep.mu _ _ h3).2.1] at e; cases e
    exact ⟨sv _ _ ha (rep.fr _ _ e).1, (rep.fr _ _ e).2⟩
theorem pen_up {K : Frg} (vs : List V) (H : Hp) (Q : VK) (E : XK) (h : upSp K spPenD vs H Q E) : spPen K vs H Q E := by
  obtain ⟨F, M, G, ds, R, W, rv, rep, ⟨ns, rfl, h1, h2⟩, k, kx⟩ := h
  cases rv with
  | cons r1 rv =>
  cases rv
  cases r1 with
  | scr sq =>
  refine ⟨_, ns, rfl, rep.fz.seq sq, h1, fun p c H' s hp hc pn => ?_⟩
  obtain ⟨cs, a, d, n, f, e1, e2, _⟩ := id pn.ex
  have npc : p ≠ c := ne_of e1 e2 fun z => nomatch z
  have s' : L2.Same F (upd F c (.lst (cs.map V.int))) := Same.new (rep.freeF hc)
  obtain ⟨m, o, e3, ro, bm⟩ := pn.bag (K := K) (F := upd F c (.lst (cs.map V.int))) upd_same e2
  refine k _ _ _ H' _ (h2 p m (rep.freeM hp) bm) s' ⟨fun b o e => ?_, fun b n e => ?_, fun b o e => ?_, fun b o e => ?_, rep.ng, rep.tb.ext s⟩ (.ref p)
  · by_cases hb : b = c
    · subst hb; rw [upd_same] at e; cases e; exact e2
    · rw [upd_ne hb] at e; exact s _ _ (rep.fz _ _ e)
  · by_cases hb : b = p
    · subst hb
      rw [updM_same] at e
      cases e
      rw [e3, upd_ne npc]
      exact ⟨rep.freeF hp, rep.freeG hp, ro⟩
    · rw [updM_ne hb] at e
      obtain ⟨x, y, w⟩ := rep.mu _ _ e
      obtain ⟨u, hu⟩ := w.some
      have hbc : b ≠ c := fun q => by subst q; rw [hc] at hu; cases hu
      rw [upd_ne hbc, s _ _ hu, ← hu]
      exact ⟨x, y, w.mono s'⟩
  · have hbc : b ≠ c := fun q => by subst q; rw [rep.freeG hc] at e; cases e
    rw [upd_ne hbc]
    exact ⟨s _ _ (rep.fr _ _ e).1, (rep.fr _ _ e).2⟩
  · by_cases hb : b = c
    · subst hb; rw [upd_same] at e; cases e; exact True.intro
    · rw [upd_ne hb] at e; exact rep.nt _ _ e
/-- the law, from what its def does with data -/
def spLawD : SpD := fun ds _ R _ => ∃ ns : List Int, ds = [.scr ns] ∧ ns.length ≤ 63 ∧ ∀ M', R (.bl true) M'
def spLawP (K : Frg) : Sp := fun vs H Q _ => ∃ (a : Addr) (ns : List Int), vs = [.ref a] ∧ SqL K H a (ns.map V.int) ∧ ns.length ≤ 63 ∧ ∀ H', Q (.bl true) H'
def noTb (H : Hp) : Hp := fun b => match H b with
  | some (.tbl _) => none
  | o => o
theorem noTb_eq {H : Hp} {b : Addr} {o : HO} (e : noTb H b = some o) : H b = some o ∧ Hd o := by
  unfold noTb at e
  split at e
  · cases e
  · rename_i o' hn
    refine ⟨e, ?_⟩
    cases o <;> first | exact True.intro | exact (hn _ e).elim
theorem noTb_of {H : Hp} {b : Addr} {o : HO} (e : H b = some o) (h : Hd o) : noTb H b = some o := by
  unfold noTb
  rw [e]
  cases o <;> first | rfl | exact h.elim
theorem sqL_noTb {K : Frg} {H : Hp} {a : Addr} {xs : List V} (h : SqL K H a xs) : SqL K (noTb H) a xs := by
  rcases h with (h | ⟨o, h⟩) | h
  · exact .inl (.inl (noTb_of h True.intro))
  · exact .inl (.inr ⟨o, noTb_of h True.intro⟩)
  · exact .inr h
theorem law_upT {K : Frg} (vs : List V) (H : Hp) (Q : VK) (E : XK) (tb : LamX.Tabs TL H) (h : spLawP K vs H Q E) : upSp K spLawD vs H Q E := by
  obtain ⟨a, ns, rfl, sq, h1, h2⟩ := h
  refine ⟨noTb H, fun _ => none, fun _ => none, [.scr ns], fun d _ => d = .bl true, XF, .cons (.scr (sqL_noTb sq)) .nil, ⟨fun _ _ e => (noTb_eq e).1, fun _ _ e => (nomatch e), fun _ _ e => (nomatch e), fun _ _ e => (noTb_eq e).2, fun _ _ e => (nomatch e), tb⟩, ⟨ns, rfl, h1, fun _ => rfl⟩, fun d M' F' H' v e _ _ r => ?_, KX.none⟩
  cases e
  cases r
  exact h2 H'
theorem law_up {K : Frg} (vs : List V) (H : Hp) (Q : VK) (E : XK) (h : spLawP K vs H Q E) (hT : TL = [] := by rfl) : upSp K spLawD vs H Q E := law_upT vs H Q E (fun p hp => by rw [hT] at hp; exact nomatch hp) h
end RS

set_option maxRecDepth 100000
set_option maxHeartbeats 4000000
namespace RS
open PySem PySem.Spec PyProof.Rows L2 NdefX He PySem.W
variable [Tbls]
section
variable {X : Cx} {E : L2.St → XK} {pos : Pos} {a b c : Expr} {rest : List Expr} {Ta Tb Tc : TD} {A : TTD}
/-! ### and, or, not as values -/
theorem de_one {op} (h : DE X E a Ta) : DE X E (.BoolOp op [a] pos) Ta := ⟨pe_one h.p⟩
def dAndV (Ta Tb : TD) : TD := fun τ M R W => Ta τ M (fun d M1 => match d with
  | .bl k => dIte k (Tb τ M1 R W) (R (.bl false) M1)
  | _ => False) W
def dOrV (Ta Tb : TD) : TD := fun τ M R W => Ta τ M (fun d M1 => match d with
  | .bl k => dIte k (R (.bl true) M1) (Tb τ M1 R W)
  | _ => False) W
theorem de_and (ha : DE X E a Ta) (hb : DE X E (.BoolOp .And (b :: rest) pos) Tb) : DE X E (.BoolOp .And (a :: b :: rest) pos) (dAndV Ta Tb) := by
  refine ⟨(pe_and ha.p hb.p).imp fun σ H Q ⟨F, M, G, τ, R, W, rs, rep, h, k, kx⟩ => ?_⟩
  refine ⟨F, M, G, τ, _, W, rs, rep, h, fun d M1 F1 H1 v q s1 rep1 r1 => ?_, kx⟩
  cases d <;> try exact q.elim
  cases r1
  refine ⟨_, rfl, ?_⟩
  rename_i z
  cases z with
  | true => exact iteT ⟨F1, M1, G, τ, R, W, rs.mono s1, rep1, q.1 rfl, k.le s1, kx.le s1⟩
  | false => exact iteF (k _ M1 F1 H1 _ (q.2 rfl) s1 rep1 (.bl _))
theorem de_or (ha : DE X E a Ta) (hb : DE X E (.BoolOp .Or (b :: rest) pos) Tb) : DE X E (.BoolOp .Or (a :: b :: rest) pos) (dOrV Ta Tb) := by
  refine ⟨(pe_or ha.p hb.p).imp fun σ H Q ⟨F, M, G, τ, R, W, rs, rep, h, k, kx⟩ => ?_⟩
  refine ⟨F, M, G, τ, _, W, rs, rep, h, fun d M1 F1 H1 v q s1 rep1 r1 => ?_, kx⟩
  cases d <;> try exact q.elim
  cases r1
  refine ⟨_, rfl, ?_⟩
  rename_i z
  cases z with
  | false => exact iteF ⟨F1, M1, G, τ, R, W, rs.mono s1, rep1, q.2 rfl, k.le s1, kx.le s1⟩
  | true => exact iteT (k _ M1 F1 H1 _ (q.1 rfl) s1 rep1 (.bl _))
def dNotV (Ta : TD) : TD := fun τ M R W => Ta τ M (fun d M1 => match d with
  | .bl k => R (.bl (!k)) M1
  | _ => False) W
theorem de_not (ha : DE X E a Ta) : DE X E (.UnaryOp .Not a pos) (dNotV Ta) := by
  refine ⟨(pe_not ha.p).imp fun σ H Q ⟨F, M, G, τ, R, W, rs, rep, h, k, kx⟩ => ?_⟩
  refine ⟨F, M, G, τ, _, W, rs, rep, h, fun d M1 F1 H1 v q s1 rep1 r1 => ?_, kx⟩
  cases d <;> try exact q.elim
  cases r1
  exact ⟨_, rfl, k _ M1 F1 H1 _ q s1 rep1 (.bl _)⟩
def dIfE (A : TTD) (Ta Tb : TD) : TD := fun τ M R W => A τ M (fun k M1 => dIte k (Ta τ M1 R W) (Tb τ M1 R W)) W
theorem de_ifExp (hc : DT X E c A) (ha : DE X E a Ta) (hb : DE X E b Tb) : DE X E (.IfExp c a b pos) (dIfE A Ta Tb) := by
  refine ⟨(pe_ifExp hc.p ha.p hb.p).imp fun σ H Q ⟨F, M, G, τ, R, W, rs, rep, h, k, kx⟩ => ?_⟩
  refine ⟨F, M, G, τ, _, W, rs, rep, h, fun d M1 F1 H1 q s1 rep1 => ?_, kx⟩
  cases d with
  | true => exact iteT ⟨F1, M1, G, τ, R, W, rs.mono s1, rep1, q.1 rfl, k.le s1, kx.le s1⟩
  | false => exact iteF ⟨F1, M1, G, τ, R, W, rs.mono s1, rep1, q.2 rfl, k.le s1, kx.le s1⟩
def dNeg (Ta : TD) : TD := fun τ M R W => Ta τ M (fun d M1 => match d with
  | .int i => R (.int (-i)) M1
  | _ => False) W
theorem de_neg (ha : DE X E a Ta) : DE X E (.UnaryOp .USub a pos) (dNeg Ta) := by
  refine ⟨(pe_un un_neg ha.p).imp fun σ H Q ⟨F, M, G, τ, R, W, rs, rep, h, k, kx⟩ => ?_⟩
  refine ⟨F, M, G, τ, _, W, rs, rep, h, fun d M1 F1 H1 v q s1 rep1 r1 => ?_, kx⟩
  cases d <;> try exact q.elim
  cases r1
  exact ⟨_, rfl, k _ M1 F1 H1 _ q s1 rep1 (.int _)⟩
/-- a < b < c of numbers -/
def dChain (f g : Int → Int → Bool) (Ta Tb Tc : TD) : TD := fun τ M R W => Ta τ M (fun x M1 => Tb τ M1 (fun y M2 => match x, y with
  | .int i, .int j => dIte (f i j) (Tc τ M2 (fun z M3 => match z with
    | .int l => R (.bl (g j l)) M3
    | _ => False) W) (R (.bl false) M2)
  | _, _ => False) W) W
theorem de_chain {op op' : CmpOp} {f g : Int → Int → Bool} (ho : OpR X (compareOp op) (rI0 fun i j => .bl (f i j))) (ho' : OpR X (compareOp op') (rI0 fun i j => .bl (g i j))) (ha : DE X E a Ta) (hb : DE X E b Tb) (hc : DE X E c Tc)
    (hm : lastMarks [op, op'] [b, c] = false := by with_unfolding_all rfl) : DE X E (.Compare a [op, op'] [b, c] pos) (dChain f g Ta Tb Tc) := by
  refine ⟨(pe_chain ho ho' ha.p hb.p hc.p hm).imp fun σ H Q ⟨F, M, G, τ, R, W, rs, rep, h, k, kx⟩ => ?_⟩
  refine ⟨F, M, G, τ, _, W, rs, rep, h, fun d M1 F1 H1 v q s1 rep1 r1 => ?_, kx⟩
  refine ⟨F1, M1, G, τ, _, W, rs.mono s1, rep1, q, fun e M2 F2 H2 u q2 s2 rep2 r2 => ?_, kx.le s1⟩
  dsimp only at q2
  split at q2
  · rename_i i j
    cases r1; cases r2
    refine ⟨_, _, rfl, rfl, _, rfl, ?_⟩
    have s12 := s1.trans s2
    cases z : f i j with
    | true =>
      refine iteT ⟨F2, M2, G, τ, _, W, rs.mono s12, rep2, q2.1 z, fun w M3 F3 H3 u q3 s3 rep3 r3 => ?_, kx.le s12⟩
      cases w <;> try exact q3.elim
      cases r3
      exact ⟨_, _, rfl, rfl, k _ M3 F3 H3 _ q3 (s12.trans s3) rep3 (.bl _)⟩
    | false => exact iteF (k _ M2 F2 H2 _ (q2.2 z) s12 rep2 (.bl _))
  · exact q2.elim
theorem dt_chain {op op' : CmpOp} {f g : Int → Int → Bool} (ho : OpR X (compareOp op) (rI0 fun i j => .bl (f i j))) (ho' : OpR X (compareOp op') (rI0 fun i j => .bl (g i j))) (ha : DE X E a Ta) (hb : DE X E b Tb) (hc : DE X E c Tc)
    (hm : lastMarks [op, op'] [b, c] = false := by with_unfolding_all rfl) : DT X E (.Compare a [op, op'] [b, c] pos) (dTB (dChain f g Ta Tb Tc)) := by
  refine ⟨(pt_chain ho ho' ha.p hb.p hc.p hm).imp fun σ H Q ⟨F, M, G, τ, R, W, rs, rep, h, k, kx⟩ => ?_⟩
  refine ⟨F, M, G, τ, _, W, rs, rep, h, fun d M1 F1 H1 v q s1 rep1 r1 => ?_, kx⟩
  refine ⟨F1, M1, G, τ, _, W, rs.mono s1, rep1, q, fun e M2 F2 H2 u q2 s2 rep2 r2 => ?_, kx.le s1⟩
  dsimp only at q2
  split at q2
  · rename_i i j
    cases r1; cases r2
    refine ⟨_, _, rfl, rfl, _, rfl, ?_⟩
    have s12 := s1.trans s2
    cases z : f i j with
    | true =>
      refine iteT ⟨F2, M2, G, τ, _, W, rs.mono s12, rep2, q2.1 z, fun w M3 F3 H3 u q3 s3 rep3 r3 => ?_, kx.le s12⟩
      cases w <;> try exact q3.elim
      cases r3
      exact ⟨_, _, rfl, rfl, _, rfl, k _ M3 F3 H3 q3 (s12.trans s3) rep3⟩
    | false => exact iteF ⟨_, rfl, k _ M2 F2 H2 (q2.2 z) s12 rep2⟩
  · exact q2.elim
/-! ### texts -/
def dFmt (Ta : TD) : TD := fun τ M R W => Ta τ M (fun d M1 => match d with
  | .str y => y.length ≤ sizeLine ∧ R (.str y) M1
  | .int i => i.natAbs.log2 < 1920 ∧ R (.str (toString i)) M1
  | _ => False) W
theorem de_fmt (ha : DE X E a Ta) : DE X E (.FormattedValue a (-1) none pos) (dFmt Ta) := by
  refine ⟨(pe_fmt ha.p).imp fun σ H Q ⟨F, M, G, τ, R, W, rs, rep, h, k, kx⟩ => ?_⟩
  refine ⟨F, M, G, τ, _, W, rs, rep, h, fun d M1 F1 H1 v q s1 rep1 r1 => ?_, kx⟩
  dsimp only at q
  split at q
  · cases r1
    exact .inl ⟨_, rfl, q.1, k _ M1 F1 H1 _ q.2 s1 rep1 (.str _)⟩
  · cases r1
    exact .inr ⟨_, rfl, q.1, k _ M1 F1 H1 _ q.2 s1 rep1 (.str _)⟩
  · exact q.elim
inductive DJ (X : Cx) (E : L2.St → XK) : List Expr → List TD → Prop where
  | nil : DJ X E [] []
  | cons {e : Expr} {t : TD} {es : List Expr} {ts : List TD} (h : DE X E e t) (r : DJ X E es ts) : DJ X E (e :: es) (t :: ts)
def dJs : List TD → Str → SD → MS → (Str → MS → Prop) → XD → Prop
  | [], acc, _, M, R, _ => R acc M
  | t :: ts, acc, τ, M, R, W => t τ M (fun d M1 => match d with
    | .str y => (acc ++ y).length ≤ sizeLine ∧ dJs ts (acc ++ y) τ M1 R W
    | _ => False) W
theorem DJ.pj {es : List Expr} {ts : List TD} (h : DJ X E es ts) : PJ X es (ts.map (up X.K E)) := by
  induction h with
  | nil => exact .nil
  | cons h r ih => exact .cons h.p ih
theorem up_js {σ : L2.St} {Q : Str → Hp → Prop} : ∀ {ts : List TD} {acc : Str} {H : Hp} {F G : Hp} {M : MS} {τ : SD} {R : Str → MS → Prop} {W : XD}, Rs X.K F σ τ → Rep X.K F M G H → dJs ts acc τ M R W → (∀ y M' F' H', R y M' → L2.Same F F' → Rep X.K F' M' G H' → Q y H') → KX X.K F G W (E σ) → tJs (ts.map (up X.K E)) acc σ H Q
  | [], acc, H, F, G, M, τ, R, W, rs, rep, h, k, kx => k acc M F H h (L2.Same.refl F) rep
  | t :: ts, acc, H, F, G, M, τ, R, W, rs, rep, h, k, kx => by
    refine ⟨F, M, G, τ, _, W, rs, rep, h, fun d M1 F1 H1 v q s1 rep1 r1 => ?_, kx⟩
    cases d <;> try exact q.elim
    cases r1
    exact ⟨_, rfl, q.1, up_js (rs.mono s1) rep1 q.2 (fun y M' F' H' hy s => k y M' F' H' hy (s1.trans s)) (kx.le s1)⟩
def dJoined (ts : List TD) : TD := fun τ M R W => dJs ts Str.empty τ M (fun y M1 => R (.str y) M1) W
theorem de_joined {v1 v2 : Expr} {rest : List Expr} {ts : List TD} (h : DJ X E (v1 :: v2 :: rest) ts) : DE X E (.JoinedStr (v1 :: v2 :: rest) pos) (dJoined ts) :=
  ⟨(pe_joined h.pj).imp fun σ H Q ⟨F, M, G, τ, R, W, rs, rep, h, k, kx⟩ => up_js rs rep h (fun y M' F' H' hy s rep' => k _ M' F' H' _ hy s rep' (.str y)) kx⟩
theorem de_joined1 (h : DE X E a Ta) : DE X E (.JoinedStr [a] pos) Ta := ⟨pe_joined1 h.p⟩
def texts : List D → Option (List Str)
  | [] => some []
  | .str b :: r => (texts r).map (b :: ·)
  | _ => none
theorem texts_rv {K : Frg} {F : Hp} : ∀ {vs : List V} {ds : List D} {bs : List Str}, Rvs K F vs ds → texts ds = some bs → vs = bs.map V.str
  | _, [], bs, .nil, e => by cases e; rfl
  | _, d :: ds, bs, .cons r rs, e => by
    cases d <;> first | (simp only [texts] at e; cases e; done) | skip
    cases r
    unfold texts at e
    cases h : texts ds with
    | none => rw [h] at e; cases e
    | some cs =>
      rw [h] at e
      cases e
      rw [texts_rv rs h]
      rfl
theorem texts_map {α : Type} (f : α → Str) : ∀ xs : List α, texts (xs.map fun x => D.str (f x)) = some (xs.map f)
  | [] => rfl
  | x :: xs => by rw [List.map_cons, texts, texts_map f xs]; rfl
def dJoin (To Ta : TD) : TD := fun τ M R W => To τ M (fun s M1 => match s with
  | .str s => Ta τ M1 (fun d M2 => match vw M2 d with
    | .lst xs => ∃ ys, texts xs = some ys ∧ (ys.map (·.length)).sum + ys.length * s.length ≤ 16777216 ∧ R (.str (Txt.join s ys)) M2
    | .tup xs => ∃ ys, texts xs = some ys ∧ (ys.map (·.length)).sum + ys.length * s.length ≤ 16777216 ∧ R (.str (Txt.join s ys)) M2
    | _ => False) W
  | _ => False) W
theorem de_join {apos : Pos} (ho : DE X E a Ta) (he : DE X E b Tb) (hs : starEach [b] X.env = [(false, eval b X.env)] := by rfl) (hbase : attributeBase a "join" X.env (eval a X.env) = eval a X.env := by rfl) (hline : (apos.endLine == pos.line) = true := by rfl) :
    DE X E (.Call (.Attribute a "join" apos) [b] [] pos) (dJoin Ta Tb) := by
  refine ⟨(pe_join ho.p he.p hs hbase hline).imp fun σ H Q ⟨F, M, G, τ, R, W, rs, rep, h, k, kx⟩ => ?_⟩
  refine ⟨F, M, G, τ, _, W, rs, rep, h, fun d M1 F1 H1 v q s1 rep1 r1 => ?_, kx⟩
  cases d <;> try exact q.elim
  cases r1
  refine ⟨⟨_, rfl⟩, F1, M1, G, τ, _, W, rs.mono s1, rep1, q, fun d M2 F2 H2 u q2 s2 rep2 r2 => ?_, kx.le s1⟩
  dsimp only at q2
  split at q2
  · rename_i xs e
    obtain ⟨ys, e2, b1, q2⟩ := q2
    obtain ⟨p, vs, rfl, h1, rr⟩ := vw_lst rep2 r2 e
    rw [texts_rv rr e2] at h1
    exact ⟨_, p, ys, rfl, rfl, .inl (SqL.of h1), b1, k _ M2 F2 H2 _ q2 (s1.trans s2) rep2 (.str _)⟩
  · rename_i xs e
    obtain ⟨ys, e2, b1, q2⟩ := q2
    obtain ⟨p, vs, rfl, h1, rr⟩ := vw_tup rep2 r2 e
    rw [texts_rv rr e2] at h1
    exact ⟨_, p, ys, rfl, rfl, .inr (Same.sqT rep2.fz h1), b1, k _ M2 F2 H2 _ q2 (s1.trans s2) rep2 (.str _)⟩
  · exact q2.elim
/-! ### what passes -/
theorem passLS {X : Cx} : ∀ σ, PassesAt (L2.CX X.prog X.w) X σ (E0' σ) := fun σ pins H s e s' _ h => by
  obtain ⟨_, _, _, _, _, _, _, _, _, _, _, _, z⟩ := h
  exact z.elim
end
end RS

set_option maxRecDepth 100000
set_option maxHeartbeats 4000000
namespace RS
open PySem PySem.Spec PyProof.Rows L2 NdefX He PySem.W
variable [Tbls]
/-! ### a for over a list that could change, but does not -/
def dLoopM (a : Addr) (xs : List D) (tg : TGD) (tb : TSD) (N : EndsD) : List D → SD → MS → Prop
  | [], τ, M => N.nx τ M
  | d :: r, τ, M => tg d τ M (fun τ1 M1 => tb { N with nx := fun τ2 M2 => M2 a = some (.lst xs) ∧ dLoopM a xs tg tb N r τ2 M2, ct := fun τ2 M2 => M2 a = some (.lst xs) ∧ dLoopM a xs tg tb N r τ2 M2, bk := N.nx } τ1 M1) N.ex
def dForV (To : TD) (tg : TGD) (tb : TSD) : TSD := fun N τ M => To τ M (fun d M1 => match d with
  | .lst xs => dLoop tg tb N xs τ M1
  | .tup xs => dLoop tg tb N xs τ M1
  | .ref a => (match M1 a with
    | some (.lst xs) => dLoopM a xs tg tb N xs τ M1
    | _ => False)
  | _ => False) (N.ex τ)
section
variable {X : Cx} {E : L2.St → XK} {pos : Pos} {tg iter c : Expr} {body : List Stmt} {To : TD} {g : TGD} {tb : TSD}
theorem ds_forV (hp : PassesOwn (model X.prog X.w) X.A X.env X.xe) (hc : X.calm = true) (ho : DE X E iter To) (hg : DG X E tg g) (hb : DSs X E body tb) (hs : ∀ x, foldedSetIterable iter X.env x = pure x := by intro _; rfl) : DS X E (.For tg iter body [] pos) (dForV To g tb) := by
  refine ⟨(ps_for hp hc (pi_sq ho.p) hg.p hb.p hs).imp fun De σ H ⟨F, M, G, τ, N, rs, rep, h, lk⟩ => ?_⟩
  refine ⟨F, M, G, τ, _, _, rs, rep, h, fun d M1 F1 H1 v q s1 rep1 r1 => ?_, lk.ex.at rs⟩
  have frozen : ∀ (ds : List D) (J : L2.It), (∀ G', ItOk X.K G' J F1 ds) → dLoop g tb N ds τ M1 →
      ∃ W : Nat → Nat → L2.St → Hp → Prop, (∃ m, W 0 m σ H1) ∧ ∀ i m σ H, W i m σ H → (J.stop i H ∧ De.nx σ H) ∨ (J.go i H ∧ ∃ N' : L2.St → Hp → Prop, (∀ σ' H', N' σ' H' → ∃ m', m' < m ∧ W (i + 1) m' σ' H') ∧ ∀ x H', J.yld i H x H' → upG X.K E g x σ H' fun σ2 H2 => upS X.K E tb { De with nx := N', ct := N', bk := De.nx } σ2 H2) := by
    intro ds J ok q
    have ok := ok G
    refine ⟨fun i m σ H => m = ds.length - i ∧ i ≤ ds.length ∧ ∃ F2 M2 τ2, L2.Same F1 F2 ∧ Rs X.K F2 σ τ2 ∧ Rep X.K F2 M2 G H ∧ dLoop g tb N (ds.drop i) τ2 M2, ⟨_, rfl, Nat.zero_le _, F1, M1, τ, L2.Same.refl F1, rs.mono s1, rep1, q⟩, ?_⟩
    rintro i m σ2 H2 ⟨rfl, hi, F2, M2, τ2, s2, rs2, rep2, q2⟩
    obtain ⟨o1, o2⟩ := ok i F2 M2 H2 s2 rep2 hi
    by_cases hlt : i < ds.length
    · obtain ⟨go, yld⟩ := o2 hlt
      refine .inr ⟨go, fun σ' H' => ∃ F3 M3 τ3, L2.Same F1 F3 ∧ Rs X.K F3 σ' τ3 ∧ Rep X.K F3 M3 G H' ∧ dLoop g tb N (ds.drop (i + 1)) τ3 M3, fun σ' H' z => ⟨ds.length - (i + 1), by omega, rfl, hlt, z⟩, fun x H' y => ?_⟩
      obtain ⟨F3, d, s3, rep3, e, r⟩ := yld x H' y
      have ed : ds.drop i = d :: ds.drop (i + 1) := by
        obtain ⟨h1, h2⟩ := List.getElem?_eq_some_iff.mp e
        rw [List.drop_eq_getElem_cons hlt, h2]
      rw [ed] at q2
      have s13 := s2.trans s3
      refine ⟨F3, M2, G, τ2, d, _, N.ex, r, rs2.mono s3, rep3, q2, fun σ4 τ4 M4 F4 H4 q4 s4 rep4 rs4 => ?_, lk.ex.le (s1.trans s13)⟩
      have s14 := s13.trans s4
      refine ⟨F4, M4, G, τ4, _, rs4, rep4, q4, ⟨?_, lk.rt.le (s1.trans s14), lk.nx.le (s1.trans s14), ?_, lk.ex.le (s1.trans s14)⟩⟩
      · exact fun σ5 τ5 M5 F5 H5 q5 s5 rep5 rs5 => ⟨F5, M5, τ5, s14.trans s5, rs5, rep5, q5⟩
      · exact fun σ5 τ5 M5 F5 H5 q5 s5 rep5 rs5 => ⟨F5, M5, τ5, s14.trans s5, rs5, rep5, q5⟩
    · have e : i = ds.length := by omega
      refine .inl ⟨o1 e, ?_⟩
      rw [e, List.drop_length] at q2
      exact lk.nx _ _ _ F2 _ q2 (s1.trans s2) rep2 rs2
  cases d <;> try exact q.elim
  rotate_left
  · rename_i ds
    cases r1 with
    | tup sq rr =>
    rename_i a vs
    refine ⟨a, rfl, .inr ⟨⟨vs, Same.sqT rep1.fz sq⟩, frozen ds _ (fun G' => itok_same rr fun F' M' H s rep i => ?_) q⟩⟩
    have sq' : SqT X.K H a vs := Same.sqT rep.fz (Same.sqT s sq)
    exact ⟨fun hi => ⟨vs, sq', hi⟩, fun x hx => ⟨vs, x, sq', hx⟩, fun x H' ⟨e, y⟩ => ⟨e, fun z hz => by rw [y vs sq'] at hz; exact Option.some.inj hz⟩⟩
  · rename_i ds
    cases r1 with
    | lst sq rr =>
    rename_i a vs
    refine ⟨a, rfl, .inl ⟨⟨vs, SqL.of (rep1.fz _ _ sq)⟩, frozen ds _ (fun G' => itok_same rr fun F' M' H s rep i => ?_) q⟩⟩
    have sq' : SqL X.K H a vs := SqL.of (rep.fz _ _ (s _ _ sq))
    exact ⟨fun hi => ⟨vs, sq', hi⟩, fun x hx => ⟨vs, x, sq', hx⟩, fun x H' ⟨e, y⟩ => ⟨e, fun z hz => by rw [y vs sq'] at hz; exact Option.some.inj hz⟩⟩
  · rename_i a
    cases r1
    dsimp only at q
    split at q
    · rename_i xs em
      obtain ⟨vs0, e0, rr0⟩ := rep1.lst em
      refine ⟨a, rfl, .inl ⟨⟨_, SqL.of e0⟩, ?_⟩⟩
      refine ⟨fun i m σ H => m = xs.length - i ∧ i ≤ xs.length ∧ ∃ F2 M2 τ2, L2.Same F1 F2 ∧ Rs X.K F2 σ τ2 ∧ Rep X.K F2 M2 G H ∧ M2 a = some (.lst xs) ∧ dLoopM a xs g tb N (xs.drop i) τ2 M2, ⟨_, rfl, Nat.zero_le _, F1, M1, τ, L2.Same.refl F1, rs.mono s1, rep1, em, q⟩, ?_⟩
      rintro i m σ2 H2 ⟨rfl, hi, F2, M2, τ2, s2, rs2, rep2, em2, q2⟩
      obtain ⟨vs, ev, rr⟩ := rep2.lst em2
      have hl := rr.len
      by_cases hlt : i < xs.length
      · have ex : vs[i]? = some (vs[i]'(by omega)) := List.getElem?_eq_getElem _
        obtain ⟨d, e, r⟩ := rr.at ex
        refine .inr ⟨⟨vs, _, SqL.of ev, ex⟩, fun σ' H' => ∃ F3 M3 τ3, L2.Same F1 F3 ∧ Rs X.K F3 σ' τ3 ∧ Rep X.K F3 M3 G H' ∧ M3 a = some (.lst xs) ∧ dLoopM a xs g tb N (xs.drop (i + 1)) τ3 M3, fun σ' H' z => ⟨xs.length - (i + 1), by omega, rfl, hlt, z⟩, fun x H' y => ?_⟩
        obtain ⟨eH, y⟩ := y
        subst eH
        have := y vs (SqL.of ev)
        rw [ex] at this
        cases this
        have ed : xs.drop i = d :: xs.drop (i + 1) := by
          obtain ⟨h1, h2⟩ := List.getElem?_eq_some_iff.mp e
          rw [List.drop_eq_getElem_cons hlt, h2]
        rw [ed] at q2
        refine ⟨F2, M2, G, τ2, d, _, N.ex, r, rs2, rep2, q2, fun σ4 τ4 M4 F4 H4 q4 s4 rep4 rs4 => ?_, lk.ex.le (s1.trans s2)⟩
        have s14 := s2.trans s4
        refine ⟨F4, M4, G, τ4, _, rs4, rep4, q4, ⟨?_, lk.rt.le (s1.trans s14), lk.nx.le (s1.trans s14), ?_, lk.ex.le (s1.trans s14)⟩⟩
        · exact fun σ5 τ5 M5 F5 H5 q5 s5 rep5 rs5 => ⟨F5, M5, τ5, s14.trans s5, rs5, rep5, q5.1, q5.2⟩
        · exact fun σ5 τ5 M5 F5 H5 q5 s5 rep5 rs5 => ⟨F5, M5, τ5, s14.trans s5, rs5, rep5, q5.1, q5.2⟩
      · have e : i = xs.length := by omega
        refine .inl ⟨⟨vs, SqL.of ev, by omega⟩, ?_⟩
        rw [e, List.drop_length] at q2
        exact lk.nx _ _ _ F2 _ q2 (s1.trans s2) rep2 rs2
    · exact q.elim
/-- the same in one: o is the list that could change -/
def chk (o : Option Addr) (xs : List D) (M : MS) : Prop := match o with
  | none => True
  | some a => M a = some (.lst xs)
def dLoopO (o : Option Addr) (xs : List D) (tg : TGD) (tb : TSD) (N : EndsD) : List D → SD → MS → Prop
  | [], τ, M => N.nx τ M
  | d :: r, τ, M => tg d τ M (fun τ1 M1 => tb { N with nx := fun τ2 M2 => chk o xs M2 ∧ dLoopO o xs tg tb N r τ2 M2, ct := fun τ2 M2 => chk o xs M2 ∧ dLoopO o xs tg tb N r τ2 M2, bk := N.nx } τ1 M1) N.ex
def seqOf (M : MS) : D → Option (List D × Option Addr)
  | .lst xs => some (xs, none)
  | .tup xs => some (xs, none)
  | .ref a => (match M a with
    | some (.lst xs) => some (xs, some a)
    | _ => none)
  | _ => none
def dForO (To : TD) (tg : TGD) (tb : TSD) : TSD := fun N τ M => To τ M (fun d M1 => match seqOf M1 d with
  | some (xs, o) => dLoopO o xs tg tb N xs τ M1
  | none => False) (N.ex τ)
theorem dLoopO_some {a : Addr} {ys : List D} {tg : TGD} {tb : TSD} {N : EndsD} : ∀ xs, dLoopO (some a) ys tg tb N xs = dLoopM a ys tg tb N xs
  | [] => rfl
  | d :: r => by
    funext τ M
    unfold dLoopO dLoopM
    rw [dLoopO_some r]
    rfl
theorem dLoopO_none {ys : List D} {tg : TGD} {tb : TSD} {N : EndsD} : ∀ xs, dLoopO none ys tg tb N xs = dLoop tg tb N xs
  | [] => rfl
  | d :: r => by
    funext τ M
    unfold dLoopO dLoop
    rw [dLoopO_none r]
    have e : (fun (τ2 : SD) (M2 : MS) => chk none ys M2 ∧ dLoop tg tb N r τ2 M2) = dLoop tg tb N r := by
      funext τ2 M2
      exact propext ⟨fun z => z.2, fun z => ⟨trivial, z⟩⟩
    rw [e]
theorem ds_forO (hp : PassesOwn (model X.prog X.w) X.A X.env X.xe) (hc : X.calm = true) (ho : DE X E iter To) (hg : DG X E tg g) (hb : DSs X E body tb) (hs : ∀ x, foldedSetIterable iter X.env x = pure x := by intro _; rfl) : DS X E (.For tg iter body [] pos) (dForO To g tb) := by
  refine ⟨(ds_forV hp hc ho hg hb hs).p.imp fun De σ H ⟨F, M, G, τ, N, rs, rep, h, lk⟩ => ⟨F, M, G, τ, N, rs, rep, ?_, lk⟩⟩
  unfold dForO at h
  unfold dForV
  have e : (fun d M1 => match seqOf M1 d with
      | some (xs, o) => dLoopO o xs g tb N xs τ M1
      | none => False) = (fun d M1 => match d with
      | .lst xs => dLoop g tb N xs τ M1
      | .tup xs => dLoop g tb N xs τ M1
      | .ref a => (match M1 a with
        | some (.lst xs) => dLoopM a xs g tb N xs τ M1
        | _ => False)
      | _ => False) := by
    funext d M1
    cases d <;> try rfl
    · rename_i a
      unfold seqOf
      dsimp only
      cases M1 a with
      | none => rfl
      | some m => cases m <;> first | rfl | (dsimp only; rw [dLoopO_some])
    · dsimp only [seqOf]; rw [dLoopO_none]
    · dsimp only [seqOf]; rw [dLoopO_none]
  rw [← e]
  exact h
/-- constants of the module -/
theorem de_int1 {x : Str} {i : Int} {pos : Pos} (hm : ∃ t, X.mg x = some (.int i t)) (hg : Gl X x := by rfl) (hd : (x == ("__debug__" : Str)) = false := by decide) : DE X E (.Name x pos) (dC (.int i)) := by
  obtain ⟨t, hm⟩ := hm
  exact de_con (v := .int i) hm ⟨t, rfl⟩ (fun _ => .int i) hg hd
theorem de_str1 {x : Str} {i : Str} {pos : Pos} (hm : ∃ t, X.mg x = some (.str i t)) (hg : Gl X x := by rfl) (hd : (x == ("__debug__" : Str)) = false := by decide) : DE X E (.Name x pos) (dC (.str i)) := by
  obtain ⟨t, hm⟩ := hm
  exact de_con (v := .str i) hm ⟨t, rfl⟩ (fun _ => .str i) hg hd
/-- over the signs of a text -/
def dStrIt (T : TD) : TID := fun τ M R W => T τ M (fun d M1 => match d with
  | .str x => R (x.cps.toList.map fun c => .str ⟨#[c]⟩) M1
  | _ => False) W
theorem di_str {e : Expr} {Te : TD} (h : DE X E e Te) : DI X E tg e (dStrIt Te) := by
  refine ⟨(pi_str h.p).imp fun σ H R ⟨F, M, G, τ, Rd, W, rs, rep, h, k, kx⟩ => ?_⟩
  refine ⟨F, M, G, τ, _, W, rs, rep, h, fun d M1 F1 H1 v q s1 rep1 r1 => ?_, kx⟩
  cases d <;> try exact q.elim
  cases r1
  rename_i x
  have rr : ∀ F, Rvs X.K F (x.cps.toList.map fun c => V.str ⟨#[c]⟩) (x.cps.toList.map fun c => D.str ⟨#[c]⟩) := by
    intro F
    generalize x.cps.toList = l
    induction l with
    | nil => exact .nil
    | cons a l ih => exact .cons (.str _) ih
  refine ⟨x, rfl, k _ M1 F1 H1 _ q s1 rep1 fun G' => itok_same (rr F1) fun F' M' H s rep i => ?_⟩
  refine ⟨fun hi => ?_, fun y hy => ?_, fun y H' ⟨e, c, hc, ey⟩ => ⟨e, fun z hz => ?_⟩⟩
  · have hi' : x.cps.size ≤ i := by simpa using hi
    exact hi'
  · have h1 := (List.getElem?_eq_some_iff.mp hy).1
    have h2 : i < x.cps.size := by simpa using h1
    exact h2
  · subst ey
    rw [List.getElem?_map, Array.getElem?_toList, hc] at hz
    exact Option.some.inj hz
end
end RS

set_option maxRecDepth 100000
set_option maxHeartbeats 4000000
namespace RS
open PySem PySem.Spec PyProof.Rows L2 NdefX He PySem.W
variable [Tbls]
theorem SubM.upd' {A B : MS} {p : Addr} {m : MO} (h : ∀ a n, a ≠ p → A a = some n → B a = some n) : SubM (updM A p m) (updM B p m) := fun a n e => by
  by_cases ha : a = p
  · subst ha
    rw [updM_same] at e ⊢
    exact e
  · rw [updM_ne ha] at e ⊢
    exact h a n ha e
theorem updM_swap {M : MS} {p q : Addr} {a b l : MO} (h : q ≠ p) : updM (updM (updM M p a) q l) p b = updM (updM M p b) q l := by
  rw [updM_comm h, updM_updM]
theorem updM_at {M : MS} {p q : Addr} {a b : MO} (h : q ≠ p) : updM (updM M p a) q b p = some a := by
  rw [updM_ne h.symm, updM_same]
theorem log_ok {i : Int} (h : i.natAbs ≤ 8000) : i.natAbs.log2 < 9000 := by
  have := Nat.log2_le_self i.natAbs
  omega
theorem str_app (a b : List Nat) : (⟨a.toArray⟩ : Str) ++ ⟨b.toArray⟩ = ⟨(a ++ b).toArray⟩ := by
  show (⟨a.toArray ++ b.toArray⟩ : Str) = _
  rw [List.append_toArray]
/-- the numbers from j on -/
def upD : Nat → Nat → List D
  | _, 0 => []
  | j, n + 1 => .int j :: upD (j + 1) n
theorem range_up : ∀ (n j : Nat), ((List.range n).map fun (i : Nat) => D.int ((j : Int) + (i : Int))) = upD j n
  | 0, _ => rfl
  | n + 1, j => by
    rw [List.range_succ_eq_map, List.map_cons, List.map_map, upD, ← range_up n (j + 1)]
    congr 1
    · refine List.map_congr_left fun i _ => ?_
      show D.int ((j : Int) + ((i + 1 : Nat) : Int)) = D.int (((j + 1 : Nat) : Int) + (i : Int))
      congr 1
      omega
theorem rangeD_up (n : Nat) : rangeD 0 n = upD 0 n := range_up n 0
theorem updM_self {M : MS} {p : Addr} {m : MO} (h : M p = some m) : updM M p m = M := by
  funext a
  by_cases ha : a = p
  · subst ha; rw [updM_same, h]
  · rw [updM_ne ha]
/-! ### looks -/
theorem vw_same {M : MS} {p : Addr} {m : MO} : vw (updM M p m) (.ref p) = m.d := by
  simp only [vw, updM_same]
theorem vw_at {M : MS} {p : Addr} {m : MO} (h : M p = some m) : vw M (.ref p) = m.d := by
  simp only [vw, h]
theorem vw_ne {M : MS} {p q : Addr} {m : MO} (h : q ≠ p) : vw (updM M p m) (.ref q) = vw M (.ref q) := by
  simp only [vw, updM_ne h]
theorem isLst_upd {M : MS} {p : Addr} {xs : List D} : isLst (updM M p (.lst xs)) (.ref p) := by
  unfold isLst
  rw [vw_same]
  trivial
theorem le_line {n : Nat} (h : Nat.ble n 64 = true) : n ≤ sizeLine := Nat.le_trans (Nat.le_of_ble_eq_true h) (by rw [sizeLine_eq]; decide)
theorem lt_line {n : Nat} (h : n ≤ 16000) : n < sizeLine := Nat.lt_of_le_of_lt h (by rw [sizeLine_eq]; decide)
theorem le_line2 {n : Nat} (h : n ≤ 16000) : n ≤ sizeLine := Nat.le_of_lt (lt_line h)
theorem ni_nil {f : Str} : f ∉ ([] : List (Str × D)).map (·.1) := by simp
theorem ni_cons {f g : Str} {x : D} {r : List (Str × D)} (h : decide (f = g) = false) (h2 : f ∉ r.map (·.1)) : f ∉ ((g, x) :: r).map (·.1) := by
  rw [List.map_cons, List.mem_cons, not_or]
  exact ⟨of_decide_eq_false h, h2⟩
theorem lt1000 {n : Nat} (h : Nat.ble n 900 = true) : n < 1000 := Nat.lt_of_le_of_lt (Nat.le_of_ble_eq_true h) (by decide)
theorem atD_last {xs : List D} {y : D} : atD (xs ++ [y]) (-1) = some y := by
  have e : ixN (xs ++ [y]).length (-1) = some xs.length := by
    unfold ixN
    rw [if_neg (by omega), if_pos (by simp only [List.length_append, List.length_singleton]; omega)]
    congr 1
    simp only [List.length_append, List.length_singleton]
    omega
  unfold atD
  rw [e]
  simp
theorem atD_nat {xs : List D} {i : Nat} (h : i < xs.length) : atD xs (i : Int) = xs[i]? := by
  have e : ixN xs.length (i : Int) = some i := by
    unfold ixN
    rw [if_pos (by omega), if_pos (by omega)]
    congr 1
  unfold atD
  rw [e]
theorem atD_0 {x : D} {xs : List D} : atD (x :: xs) 0 = some x := by
  have := atD_nat (xs := x :: xs) (i := 0) (by simp)
  simpa using this
theorem atD_1 {x y : D} {xs : List D} : atD (x :: y :: xs) 1 = some y := by
  have := atD_nat (xs := x :: y :: xs) (i := 1) (by simp)
  simpa using this
theorem atD_2 {x y z : D} {xs : List D} : atD (x :: y :: z :: xs) 2 = some z := by
  have := atD_nat (xs := x :: y :: z :: xs) (i := 2) (by simp)
  simpa using this
theorem dEqB_int (i j : Int) : dEqB (.int i) (.int j) = decide (i = j) := rfl
theorem dEqB_str (i j : Str) : dEqB (.str i) (.str j) = decide (i = j) := rfl
/-! ### loops by what stays true -/
theorem dLoop_ind {tg : TGD} {tb : TSD} {N : EndsD} (I : List D → SD → MS → Prop) {xs : List D} {τ : SD} {M : MS} (h0 : I xs τ M)
    (hs : ∀ d r τ M, I (d :: r) τ M → (∀ τ' M', I r τ' M' → dLoop tg tb N r τ' M') → tg d τ M (fun τ1 M1 => tb { N with nx := dLoop tg tb N r, ct := dLoop tg tb N r, bk := N.nx } τ1 M1) N.ex)
    (hd : ∀ τ M, I [] τ M → N.nx τ M) : dLoop tg tb N xs τ M := by
  induction xs generalizing τ M with
  | nil => exact hd τ M h0
  | cons d r ih => exact hs d r τ M h0 fun τ' M' h => ih h
theorem dLoopO_ind {o : Option Addr} {ys : List D} {tg : TGD} {tb : TSD} {N : EndsD} (I : List D → SD → MS → Prop) {xs : List D} {τ : SD} {M : MS} (h0 : I xs τ M)
    (hs : ∀ d r τ M, I (d :: r) τ M → (∀ τ' M', I r τ' M' → chk o ys M' → chk o ys M' ∧ dLoopO o ys tg tb N r τ' M') → tg d τ M (fun τ1 M1 => tb { N with nx := fun τ2 M2 => chk o ys M2 ∧ dLoopO o ys tg tb N r τ2 M2, ct := fun τ2 M2 => chk o ys M2 ∧ dLoopO o ys tg tb N r τ2 M2, bk := N.nx } τ1 M1) N.ex)
    (hd : ∀ τ M, I [] τ M → N.nx τ M) : dLoopO o ys tg tb N xs τ M := by
  induction xs generalizing τ M with
  | nil => exact hd τ M h0
  | cons d r ih => exact hs d r τ M h0 fun τ' M' h e => ⟨e, ih h⟩
theorem chk.new {o : Option Addr} {xs : List D} {M : MS} {p : Addr} {m : MO} (h : chk o xs M) (hp : M p = none) : chk o xs (updM M p m) := by
  cases o with
  | none => trivial
  | some a =>
    have h' : M a = some (.lst xs) := h
    have e : a ≠ p := by rintro rfl; rw [hp] at h'; cases h'
    show updM M p m a = _
    rw [updM_ne e]
    exact h'
theorem dLcL_ind {g : TGD} {tt : TTD} {te : TD} {vs : List Nat} {τ : SD} {R : List D → MS → Prop} (I : List D → List D → MS → Prop) {xs acc : List D} {M : MS} (h0 : I xs acc M)
    (hs : ∀ d r acc M, I (d :: r) acc M → (∀ acc' M', I r acc' M' → dLcL g tt te vs τ R r acc' M') → g d τ M (fun τ2 M2 => tt τ2 M2 (fun b M3 => dIte b (te τ2 M3 (fun y M4 => acc.length < sizeLine ∧ dLcL g tt te vs τ R r (acc ++ [y]) M4) XF) (dLcL g tt te vs τ R r acc M3)) XF) (fun _ => XF))
    (hd : ∀ acc M, I [] acc M → R acc M) : dLcL g tt te vs τ R xs acc M := by
  induction xs generalizing acc M with
  | nil => exact hd acc M h0
  | cons d r ih => exact hs d r acc M h0 fun acc' M' h => ih h
/-- .. the store stays -/
theorem dLcL_indC {g : TGD} {tt : TTD} {te : TD} {vs : List Nat} {τ : SD} {R : List D → MS → Prop} {M : MS} (I : List D → List D → Prop) {xs acc : List D} (h0 : I xs acc)
    (hs : ∀ d r acc, I (d :: r) acc → (∀ acc', I r acc' → dLcL g tt te vs τ R r acc' M) → g d τ M (fun τ2 M2 => tt τ2 M2 (fun b M3 => dIte b (te τ2 M3 (fun y M4 => acc.length < sizeLine ∧ dLcL g tt te vs τ R r (acc ++ [y]) M4) XF) (dLcL g tt te vs τ R r acc M3)) XF) (fun _ => XF))
    (hd : ∀ acc, I [] acc → R acc M) : dLcL g tt te vs τ R xs acc M := by
  induction xs generalizing acc with
  | nil => exact hd acc h0
  | cons d r ih => exact hs d r acc h0 fun acc' h => ih h
theorem dLoop_indC {tg : TGD} {tb : TSD} {N : EndsD} {M : MS} (I : List D → SD → Prop) {xs : List D} {τ : SD} (h0 : I xs τ)
    (hs : ∀ d r τ, I (d :: r) τ → (∀ τ', I r τ' → dLoop tg tb N r τ' M) → tg d τ M (fun τ1 M1 => tb { N with nx := dLoop tg tb N r, ct := dLoop tg tb N r, bk := N.nx } τ1 M1) N.ex)
    (hd : ∀ τ, I [] τ → N.nx τ M) : dLoop tg tb N xs τ M := by
  induction xs generalizing τ with
  | nil => exact hd τ h0
  | cons d r ih => exact hs d r τ h0 fun τ' h => ih h
theorem dWhile_ind {c : TTD} {tb : TSD} {N : EndsD} (I : Nat → SD → MS → Prop) {n : Nat} {τ : SD} {M : MS} (h0 : I n τ M)
    (hs : ∀ n τ M, I n τ M → ∀ W : SD → MS → Prop, (∀ m τ' M', m < n → I m τ' M' → W τ' M') → c τ M (fun b M1 => dIte b (tb { N with nx := W, ct := W, bk := N.nx } τ M1) (N.nx τ M1)) (N.ex τ)) : dWhile c tb N τ M := by
  have key : ∀ n τ M, I n τ M → ∀ k, n < k → dWh c tb N k τ M := by
    intro n
    induction n using Nat.strongRecOn with
    | _ n ih =>
      intro τ M h k hk
      cases k with
      | zero => omega
      | succ k => exact hs n τ M h _ fun m τ' M' hm h' => ih m hm τ' M' h' k (by omega)
  exact ⟨n + 1, key n τ M h0 _ (Nat.lt_succ_self n)⟩
/-! ### steps and their normal form -/
abbrev SL := List (Str × Int)
def nStep (r : SL) (q : Str × Int) : SL := match r.getLast? with
  | some l => if l.1 = q.1 then (if q.2 + l.2 = 0 then r.dropLast else r.dropLast ++ [(q.1, q.2 + l.2)]) else (if q.2 = 0 then r else r ++ [q])
  | none => if q.2 = 0 then r else r ++ [q]
def nrm (qs : SL) : SL := qs.foldl nStep []
theorem nStep_len (r : SL) (q : Str × Int) : (nStep r q).length ≤ r.length + 1 := by
  unfold nStep
  split
  · split
    · split
      · rw [List.length_dropLast]; omega
      · rw [List.length_append, List.length_dropLast]; show r.length - 1 + 1 ≤ _; omega
    · split
      · omega
      · rw [List.length_append]; exact Nat.le_refl _
  · split
    · omega
    · rw [List.length_append]; exact Nat.le_refl _
def stD (q : Str × Int) : D := .tup [.str q.1, .int q.2]
/-- a pair, told as a tuple or a list -/
def Item2 (d : D) (p : D × Int) : Prop := d = .tup [p.1, .int p.2] ∨ d = .lst [p.1, .int p.2]
inductive Items : List D → List (D × Int) → Prop
  | nil : Items [] []
  | cons {d : D} {ds : List D} {p : D × Int} {ps : List (D × Int)} : Item2 d p → Items ds ps → Items (d :: ds) (p :: ps)
/-- a list, a tuple of pairs, or a list that may change elsewhere -/
def Seq2 (M : MS) (d : D) (ps : List (D × Int)) : Prop := ∃ ds o, seqOf M d = some (ds, o) ∧ Items ds ps
theorem seqOf_chk {M : MS} {d : D} {xs : List D} {o : Option Addr} (h : seqOf M d = some (xs, o)) : RS.chk o xs M := by
  unfold seqOf at h
  split at h
  · cases h; trivial
  · cases h; trivial
  · split at h
    · cases h; assumption
    · cases h
  · cases h
theorem seqOf_new {M : MS} {d : D} {xs : List D} {o : Option Addr} {p : Addr} {m : MO} (h : seqOf M d = some (xs, o)) (hp : M p = none) : seqOf (updM M p m) d = some (xs, o) := by
  unfold seqOf at h ⊢
  split at h
  · exact h
  · exact h
  · rename_i a
    have e : a ≠ p := by rintro rfl; rw [hp] at h; cases h
    rw [updM_ne e]
    exact h
  · cases h
theorem seqOf_ins {M : MS} {d : D} {xs : List D} {o : Option Addr} {p C : Addr} {fs : List (Str × D)} {m : MO} (h : seqOf M d = some (xs, o)) (hp : M p = some (.ins C fs)) : seqOf (updM M p m) d = some (xs, o) := by
  unfold seqOf at h ⊢
  split at h
  · exact h
  · exact h
  · rename_i a
    have e : a ≠ p := by rintro rfl; rw [hp] at h; cases h
    rw [updM_ne e]
    exact h
  · cases h
theorem Items.len : ∀ {ds : List D} {ps : List (D × Int)}, Items ds ps → ds.length = ps.length
  | _, _, .nil => rfl
  | _, _, .cons _ y => by rw [List.length_cons, List.length_cons, Items.len y]
def qD (q : Str × Int) : D × Int := (.str q.1, q.2)
end RS

set_option maxRecDepth 100000
set_option maxHeartbeats 4000000
namespace RS
open PySem PySem.Spec PyProof.Rows L2 NdefX He PySem.W
variable [Tbls]
/-! ### == of dicts too, where they are the same -/
def flatD : D → Bool
  | .int _ => true
  | .str _ => true
  | .bl _ => true
  | .non => true
  | _ => false
def rEqA (K : Frg) : R2 := fun x y H Q => rEqP K false x y H Q ∨ rEqDA x y H Q
def rNeA (K : Frg) : R2 := fun x y H Q => rEqP K true x y H Q ∨ rNeDA x y H Q
theorem op_eqA {X : Cx} (hu : X.A.units + 64 < cLine) : OpR X (compareOp .Eq) (rEqA X.K) := OpR.or (op_eqP hu) (op_eq_dictA (by omega))
theorem op_neA {X : Cx} (hu : X.A.units + 64 < cLine) : OpR X (compareOp .NotEq) (rNeA X.K) := OpR.or (op_neP hu) (op_ne_dictA (by omega))
def dEqA (neg : Bool) (x y : D) (M : MS) (R : D → MS → Prop) (W : XD) : Prop := match vw M x, vw M y with
  | .dct ks, .dct ls => ks = ls ∧ (ks.map (·.1)).Nodup ∧ ks.all (fun p => flatD p.2) = true ∧ R (.bl (!neg)) M
  | _, _ => dEq neg x y M R W
theorem Rks.same {K : Frg} {F : Hp} : ∀ {ks : List (Key × D)} {kvs lvs : List (Key × V)}, Rks K F kvs ks → Rks K F lvs ks → ks.all (fun p => flatD p.2) = true → kvs = lvs ∧ (∀ p ∈ kvs, flatB p.2 = true) ∧ kvs.map (·.1) = ks.map (·.1)
  | _, _, _, .nil, .nil, _ => ⟨rfl, fun _ h => (nomatch h), rfl⟩
  | _, _, _, .cons (k := k) (d := d) r rs, .cons r' rs', h => by
    rw [List.all_cons, Bool.and_eq_true] at h
    obtain ⟨rfl, h2, h3⟩ := Rks.same rs rs' h.2
    have hd : flatD d = true := h.1
    cases d <;> first
      | (simp only [flatD] at hd; cases hd; done)
      | (cases r; cases r'
         refine ⟨rfl, fun p hp => ?_, by rw [List.map_cons, List.map_cons, h3]⟩
         rcases List.mem_cons.mp hp with rfl | hp
         · rfl
         · exact h2 p hp)
theorem valV_mem : ∀ {kvs : List (Key × V)}, (kvs.map (·.1)).Nodup → ∀ p ∈ kvs, valV kvs p.1 = some p.2
  | [], _, p, h => nomatch h
  | q :: kvs, n, p, h => by
    rw [List.map_cons, List.nodup_cons] at n
    rcases List.mem_cons.mp h with rfl | h
    · exact valV_pos rfl
    · have ne : ¬ q.1 = p.1 := fun e => n.1 (by rw [e]; exact List.mem_map.mpr ⟨p, h, rfl⟩)
      have := valV_mem n.2 p h
      unfold valV at this ⊢
      rw [List.find?_cons, decide_eq_false ne]
      exact this
theorem ro_eqA {K : Frg} : RO K (rEqA K) (dEqA false) := fun F M G H x y v u R W Q rx ry rep h k => by
  unfold dEqA at h
  split at h
  · rename_i ks ls e1 e2
    obtain ⟨rfl, nd, fl, h⟩ := h
    obtain ⟨a, kvs, rfl, h1, r1⟩ := vw_dct rep rx e1
    obtain ⟨b, lvs, rfl, h2, r2⟩ := vw_dct rep ry e2
    obtain ⟨rfl, f1, f2⟩ := Rks.same r1 r2 fl
    exact .inr ⟨a, b, _, _, rfl, rfl, h1, h2, rfl, fun p hp => ⟨valV_mem (by rw [f2]; exact nd) p hp, f1 p hp⟩, k _ M F H _ h (L2.Same.refl F) rep (.bl _)⟩
  · exact .inl (ro_eq false F M G H x y v u R W Q rx ry rep h k)
theorem ro_neA {K : Frg} : RO K (rNeA K) (dEqA true) := fun F M G H x y v u R W Q rx ry rep h k => by
  unfold dEqA at h
  split at h
  · rename_i ks ls e1 e2
    obtain ⟨rfl, nd, fl, h⟩ := h
    obtain ⟨a, kvs, rfl, h1, r1⟩ := vw_dct rep rx e1
    obtain ⟨b, lvs, rfl, h2, r2⟩ := vw_dct rep ry e2
    obtain ⟨rfl, f1, f2⟩ := Rks.same r1 r2 fl
    exact .inr ⟨a, b, _, _, rfl, rfl, h1, h2, rfl, fun p hp => ⟨valV_mem (by rw [f2]; exact nd) p hp, f1 p hp⟩, k _ M F H _ h (L2.Same.refl F) rep (.bl _)⟩
  · exact .inl (ro_eq true F M G H x y v u R W Q rx ry rep h k)
/-! ### is True, is False -/
def dIsB (neg : Bool) (x y : D) (M : MS) (R : D → MS → Prop) (_ : XD) : Prop := match x, y with
  | .bl a, .bl b => R (.bl (if neg then !decide (a = b) else decide (a = b))) M
  | _, _ => False
theorem ro_isB {K : Frg} : RO K rIsB (dIsB false) := fun F M G H x y v u R W Q rx ry rep h k => by
  unfold dIsB at h
  split at h
  · cases rx; cases ry
    exact ⟨_, _, rfl, rfl, k _ M F H _ h (L2.Same.refl F) rep (.bl _)⟩
  · exact h.elim
theorem ro_isNotB {K : Frg} : RO K rNotB (dIsB true) := fun F M G H x y v u R W Q rx ry rep h k => by
  unfold dIsB at h
  split at h
  · cases rx; cases ry
    exact ⟨_, _, rfl, rfl, k _ M F H _ h (L2.Same.refl F) rep (.bl _)⟩
  · exact h.elim
/-! ### {k: v, ..} -/
def mergeD (ks more : List (Key × D)) : List (Key × D) := more.foldl (fun acc p => putD acc p.1 p.2) ks
theorem Rks.merge {K : Frg} {F : Hp} : ∀ {more : List (Key × V)} {m : List (Key × D)} {kvs : List (Key × V)} {ks : List (Key × D)}, Rks K F more m → Rks K F kvs ks → Rks K F (mergeK kvs more) (mergeD ks m)
  | _, _, _, _, .nil, r => r
  | _, _, _, _, .cons x xs, r => by
    unfold mergeK mergeD
    rw [List.foldl_cons, List.foldl_cons]
    exact Rks.merge xs (r.put x)
structure DPs (X : Cx) (E : L2.St → XK) (pos : Pos) (keys : List (Option Expr)) (values : List Expr) (ts : List (TD × TD)) : Prop where
  p : PPs X pos keys values (ts.map fun t => (up X.K E t.1, up X.K E t.2))
theorem dps_nil {X : Cx} {E : L2.St → XK} {pos : Pos} : DPs X E pos [] [] [] := ⟨pps_nil⟩
theorem dps_cons {X : Cx} {E : L2.St → XK} {pos : Pos} {k v : Expr} {ks : List (Option Expr)} {vs : List Expr} {tk tv : TD} {ts : List (TD × TD)} (hk : DE X E k tk) (hv : DE X E v tv) (hr : DPs X E pos ks vs ts) : DPs X E pos (some k :: ks) (v :: vs) ((tk, tv) :: ts) := ⟨pps_cons hk.p hv.p hr.p⟩
def dPairs : List (TD × TD) → SD → MS → (List (Key × D) → MS → Prop) → XD → Prop
  | [], _, M, R, _ => R [] M
  | (tk, tv) :: r, τ, M, R, W => tk τ M (fun k M1 => match keyD k with
    | some k => tv τ M1 (fun v M2 => dPairs r τ M2 (fun ks M3 => R ((k, v) :: ks) M3) W) W
    | none => False) W
theorem up_pairs {X : Cx} {E : L2.St → XK} {σ : L2.St} : ∀ {ts : List (TD × TD)} {H : Hp} {F G : Hp} {M : MS} {τ : SD} {R : List (Key × D) → MS → Prop} {W : XD} {Q : List (V × V) → Hp → Prop}, Rs X.K F σ τ → Rep X.K F M G H → dPairs ts τ M R W →
    (∀ ks M' F' H' kvs, R ks M' → L2.Same F F' → Rep X.K F' M' G H' → Rks X.K F' kvs ks → Q (kvs.map fun kv => (kV kv.1, kv.2)) H') → KX X.K F G W (E σ) → tPairs (ts.map fun t => (up X.K E t.1, up X.K E t.2)) σ H Q
  | [], H, F, G, M, τ, R, W, Q, rs, rep, h, k, kx => k [] M F H [] h (L2.Same.refl F) rep .nil
  | (tk, tv) :: r, H, F, G, M, τ, R, W, Q, rs, rep, h, k, kx => by
    refine ⟨F, M, G, τ, _, W, rs, rep, h, fun d M1 F1 H1 v q s1 rep1 r1 => ?_, kx⟩
    dsimp only at q
    split at q
    · rename_i kk ek
      cases key_rv r1 ek
      refine ⟨F1, M1, G, τ, _, W, rs.mono s1, rep1, q, fun d2 M2 F2 H2 v2 q2 s2 rep2 r2 => ?_, kx.le s1⟩
      have s12 := s1.trans s2
      exact up_pairs (rs.mono s12) rep2 q2 (fun ks M' F' H' kvs hr s rep' rr => k _ M' F' H' ((kk, v2) :: kvs) hr (s12.trans s) rep' (.cons (r2.mono s) rr)) (kx.le s12)
    · exact q.elim
def dDisp (ts : List (TD × TD)) : TD := fun τ M R W => dPairs ts τ M (fun ks M1 => ks.length ≤ 15 ∧ R (.dct (mergeD [] ks)) M1) W
theorem de_disp {X : Cx} {E : L2.St → XK} {pos : Pos} {keys : List (Option Expr)} {values : List Expr} {ts : List (TD × TD)} (h : DPs X E pos keys values ts) (hall : keys.all (·.isSome) = true := by rfl) (hl : keys.length = values.length := by rfl) (h0 : keys ≠ [] := by simp)
    (h15 : keys.length ≤ 15 := by decide) : DE X E (.Dict keys values pos) (dDisp ts) := by
  refine ⟨(pe_disp h.p hall hl h0 h15).imp fun σ H Q ⟨F, M, G, τ, R, W, rs, rep, h, k, kx⟩ p hp => ?_⟩
  have gp := rep.freeG hp
  refine up_pairs rs (rep.newG (o := .dK []) hp) h (fun ks M' F' H' kvs hr s rep' rr => ?_) ?_
  · refine ⟨(rep'.fr p _ upd_same).1, kvs, rfl, by rw [rr.len]; exact hr.1, ?_⟩
    obtain ⟨rep2, s2⟩ := (rep'.putG (o := .dK (mergeK [] kvs))).frzG gp
    exact k _ M' _ _ _ hr.2 (s.trans s2) rep2 (.dct upd_same ((Rks.merge rr .nil).mono s2))
  · intro C fs M' F' H' a w s rep' rx
    refine kx C fs M' F' H' a w s ⟨rep'.fz, fun b m e => ?_, fun b o e => ?_, rep'.nt, fun b o e => ?_, rep'.tb⟩ rx
    · obtain ⟨x, y, z⟩ := rep'.mu b m e
      refine ⟨x, ?_, z⟩
      by_cases hb : b = p
      · subst hb; exact gp
      · rw [upd_ne hb] at y; exact y
    · have hb : b ≠ p := by rintro rfl; rw [gp] at e; cases e
      exact rep'.fr b o (by rw [upd_ne hb]; exact e)
    · have hb : b ≠ p := by rintro rfl; rw [gp] at e; cases e
      exact rep'.ng b o (by rw [upd_ne hb]; exact e)
end RS

set_option maxRecDepth 100000
set_option maxHeartbeats 4000000
namespace RS
open PySem PySem.Spec PyProof.Rows L2 NdefX He PySem.W
/-! ### names, kinds -/
def LT : Str := "abcdefghijklmnopqrstuvwxyz"
def DGT : Str := "0123456789"
def okS (c : Nat) : Bool := decide (c ∈ LT.cps.toList) || decide (c ∈ DGT.cps.toList)
def headB (x : Str) : Bool := match x.cps.toList with
  | [] => false
  | c :: _ => decide (c ∈ LT.cps.toList)
def nameB (x : Str) : Bool := (decide (1 ≤ x.length) && decide (x.length ≤ 12)) && (headB x && x.cps.toList.all okS)
abbrev PL := List (Str × Str)
def kdS (s : Str) : Bool := decide (s = "free") || (decide (s = "rising") || decide (s = "falling"))
structure GoodP (ps : PL) : Prop where
  ne : ps ≠ []
  few : ps.length ≤ 100
  nm : ∀ q ∈ ps, nameB q.1 = true
  kd : ∀ q ∈ ps, kdS q.2 = true
  nd : (ps.map (·.1)).Nodup
theorem GoodP.at {ps : PL} (g : GoodP ps) {i : Nat} {q : Str × Str} (h : ps[i]? = some q) : q.1 ∉ (ps.take i).map (·.1) ∧ nameB q.1 = true ∧ kdS q.2 = true := by
  have hm := List.mem_of_getElem? h
  refine ⟨fun z => ?_, g.nm q hm, g.kd q hm⟩
  obtain ⟨q', hq', e⟩ := List.mem_map.mp z
  obtain ⟨j, hj⟩ := List.mem_iff_getElem?.mp hq'
  have hji : j < i := by
    have h1 := (List.getElem?_eq_some_iff.mp hj).1
    rw [List.length_take] at h1
    omega
  have hj' : ps[j]? = some q' := by rw [List.getElem?_take_of_lt hji] at hj; exact hj
  have nd := g.nd
  have e1 : (ps.map (·.1))[j]? = some q'.1 := by rw [List.getElem?_map, hj']; rfl
  have e2 : (ps.map (·.1))[i]? = some q.1 := by rw [List.getElem?_map, h]; rfl
  rw [e] at e1
  have := nodup_ix nd e1 e2
  omega
theorem name_len {x : Str} (h : nameB x = true) : x.length ≤ sizeLine := by
  unfold nameB at h
  obtain ⟨h1, _⟩ := ba h
  obtain ⟨_, h2⟩ := ba h1
  have := of_decide_eq_true h2
  rw [sizeLine_eq]
  omega
structure IdentP (k : Nat) (x : Str) : Prop where
  ex : ∃ l : List Nat, x = ⟨(l ++ [48 + k]).toArray⟩ ∧ 1 ≤ l.length ∧ l.length ≤ 11 ∧ ∀ c ∈ l, c ∈ LT.cps.toList
theorem dg_ok : ∀ k : Nat, k < 10 → decide (48 + k ∈ DGT.cps.toList) = true := by decide +kernel
theorem IdentP.good {k : Nat} {x : Str} (h : IdentP k x) (hk : k < 10) : nameB x = true := by
  obtain ⟨l, rfl, h1, h2, h3⟩ := h.ex
  cases l with
  | nil => simp at h1
  | cons c l =>
    have hc := h3 c (List.mem_cons_self ..)
    have hl : (⟨((c :: l) ++ [48 + k]).toArray⟩ : Str).length = l.length + 2 := by
      show ((c :: l) ++ [48 + k]).toArray.size = _
      simp
    have e2 : l.length + 2 ≤ 12 := by simp at h2; omega
    unfold nameB headB
    rw [hl, decide_eq_true (show 1 ≤ l.length + 2 by omega), decide_eq_true e2]
    show (true && true && (decide (c ∈ LT.cps.toList) && ((c :: l) ++ [48 + k]).all okS)) = true
    rw [decide_eq_true hc, List.all_append]
    have a1 : (c :: l).all okS = true := List.all_eq_true.mpr fun y hy => by
      unfold okS
      rw [decide_eq_true (h3 y hy), Bool.true_or]
    have a2 : [48 + k].all okS = true := by
      rw [List.all_cons, List.all_nil, Bool.and_true]
      unfold okS
      rw [dg_ok k hk, Bool.or_true]
    rw [a1, a2]
    rfl
theorem IdentP.inj {j k : Nat} {x : Str} (h : IdentP j x) (h' : IdentP k x) : j = k := by
  obtain ⟨l, rfl, _⟩ := h.ex
  obtain ⟨m, e, _⟩ := h'.ex
  have e2 : (l ++ [48 + j]).toArray = (m ++ [48 + k]).toArray := congrArg Str.cps e
  have e3 : l ++ [48 + j] = m ++ [48 + k] := by simpa using congrArg Array.toList e2
  have e4 := (List.append_inj' e3 rfl).2
  simp at e4
  exact e4
theorem str_k : ∀ k : Nat, k < 10 → ((toString (k : Int) : String) : Str) = ⟨#[48 + k]⟩ := by decide +kernel
theorem lt_at {d : Int} (h0 : 0 ≤ d) (h1 : d < 26) : ∃ c, atI LT.cps.toList d = some c ∧ c ∈ LT.cps.toList := by
  obtain ⟨n, rfl⟩ : ∃ n : Nat, d = (n : Int) := ⟨d.toNat, by omega⟩
  have hl : LT.cps.toList.length = 26 := by decide +kernel
  have hn : n < LT.cps.toList.length := by omega
  exact ⟨LT.cps.toList[n], atI_nat (List.getElem?_eq_getElem hn), List.getElem_mem hn⟩
structure KdP (ps : PL) : Prop where
  at_ : ∀ (i : Nat) (q : Str × Str), ps[i]? = some q → IdentP i q.1 ∧ kdS q.2 = true
  pos : 1 ≤ ps.length
  few : ps.length ≤ 9
theorem KdP.good {ps : PL} (h : KdP ps) : GoodP ps := by
  refine ⟨fun z => ?_, by have := h.few; omega, fun q hq => ?_, fun q hq => ?_, ?_⟩
  · have := h.pos
    rw [z] at this
    simp at this
  · obtain ⟨i, hi⟩ := List.mem_iff_getElem?.mp hq
    have := (List.getElem?_eq_some_iff.mp hi).1
    exact (h.at_ i q hi).1.good (by have := h.few; omega)
  · obtain ⟨i, hi⟩ := List.mem_iff_getElem?.mp hq
    exact (h.at_ i q hi).2
  · refine List.pairwise_iff_getElem.mpr fun i j hi hj hij => ?_
    rw [List.length_map] at hi hj
    rw [List.getElem_map, List.getElem_map]
    intro e2
    have h1 := (h.at_ i _ (List.getElem?_eq_getElem hi)).1
    have h2 := (h.at_ j _ (List.getElem?_eq_getElem hj)).1
    rw [e2] at h1
    have := h1.inj h2
    omega
/-! ### scales, rows -/
def prD (q : Str × Str) : D := .tup [.str q.1, .str q.2]
def kdD (ps : PL) : List (Key × D) := ps.map fun q => (.inr q.1, .str q.2)
def scD (C : Addr) (ps : PL) : D := .ins C [("pairs", .tup (ps.map prD)), ("names", .tup (ps.map fun q => .str q.1)), ("kinds_told", .dct (kdD ps))]
def rowD (C Cs : Addr) (ps : PL) (qs : SL) : D := .ins C [("scales", scD Cs ps), ("steps", .tup (qs.map stD))]
/-- data of a plain kind -/
def Pln : D → Prop
  | .non => True
  | .bl _ => True
  | .int _ => True
  | .str x => x.length ≤ sizeLine
  | .tup _ => True
  | .lst _ => True
  | .dct _ => True
  | _ => False
def nameD : D → Bool
  | .str x => nameB x
  | _ => false
def hasN (ps : PL) : D → Bool
  | .str x => decide (x ∈ ps.map (·.1))
  | _ => false
theorem valD_kd (x : Str) : ∀ ps : PL, (valD (kdD ps) (.inr x)).isSome = decide (x ∈ ps.map (·.1))
  | [] => rfl
  | q :: ps => by
    have ih := valD_kd x ps
    unfold valD kdD at *
    rw [List.map_cons, List.map_cons, List.find?_cons]
    by_cases h : q.1 = x
    · rw [decide_eq_true (show (Sum.inr q.1 : Key) = Sum.inr x by rw [h])]
      simp [h]
    · rw [decide_eq_false (fun z => h (Sum.inr.inj z)), ih]
      simp only [List.mem_cons, decide_eq_decide]
      exact ⟨fun z => .inr z, fun z => z.elim (fun e => absurd e.symm h) id⟩
theorem putD_kd {x v : Str} {ps : PL} (h : x ∉ ps.map (·.1)) : putD (kdD ps) (.inr x) (.str v) = kdD (ps ++ [(x, v)]) := by
  have e : ((kdD ps).any fun p => decide (p.1 = (.inr x : Key))) = false := by
    rw [List.any_eq_false]
    intro p hp
    unfold kdD at hp
    obtain ⟨q, hq, rfl⟩ := List.mem_map.mp hp
    simp only [decide_eq_true_eq]
    intro z
    exact h (List.mem_map.mpr ⟨q, hq, Sum.inr.inj z⟩)
  unfold putD
  rw [e]
  simp [kdD]
/-- a pair of anything -/
def ItemP (d : D) (p : D × D) : Prop := d = .tup [p.1, p.2] ∨ d = .lst [p.1, p.2]
inductive ItemsP : List D → List (D × D) → Prop
  | nil : ItemsP [] []
  | cons {d : D} {ds : List D} {p : D × D} {ps : List (D × D)} : ItemP d p → ItemsP ds ps → ItemsP (d :: ds) (p :: ps)
theorem ItemsP.len : ∀ {ds : List D} {ps : List (D × D)}, ItemsP ds ps → ds.length = ps.length
  | _, _, .nil => rfl
  | _, _, .cons _ y => by rw [List.length_cons, List.length_cons, ItemsP.len y]
def qP (q : Str × Str) : D × D := (.str q.1, .str q.2)
theorem ItemsP.of : ∀ ps : PL, ItemsP (ps.map prD) (ps.map qP)
  | [] => .nil
  | q :: ps => .cons (.inl rfl) (ItemsP.of ps)
/-- what is wrong first with pairs -/
inductive ScF where
  | name (x : D) | twice (x : D) | kind (x : D)
def kindD : D → Option Str
  | .str s => if kdS s then some s else none
  | _ => none
def scan (done : PL) : List (D × D) → Except ScF PL
  | [] => .ok done
  | (.str n, k) :: r => if nameB n = true then (if n ∈ done.map (·.1) then .error (.twice (.str n)) else match kindD k with
    | some s => scan (done ++ [(n, s)]) r
    | none => .error (.kind k)) else .error (.name (.str n))
  | (x, _) :: _ => .error (.name x)
theorem scan_good : ∀ {ps done : PL}, (∀ q ∈ ps, nameB q.1 = true) → (∀ q ∈ ps, kdS q.2 = true) → ((done ++ ps).map (·.1)).Nodup → scan done (ps.map qP) = .ok (done ++ ps)
  | [], done, _, _, _ => by rw [List.append_nil]; rfl
  | q :: ps, done, h1, h2, h3 => by
    have n : q.1 ∉ done.map (·.1) := fun z => by
      rw [List.map_append, List.nodup_append] at h3
      exact h3.2.2 _ z _ (List.mem_map.mpr ⟨q, List.mem_cons_self .., rfl⟩) rfl
    show scan done ((.str q.1, .str q.2) :: ps.map qP) = _
    unfold scan
    rw [if_pos (h1 q (List.mem_cons_self ..)), if_neg n]
    unfold kindD
    dsimp only
    rw [if_pos (h2 q (List.mem_cons_self ..))]
    have := scan_good (ps := ps) (done := done ++ [q]) (fun x hx => h1 x (List.mem_cons_of_mem _ hx)) (fun x hx => h2 x (List.mem_cons_of_mem _ hx)) (by rw [List.append_assoc]; exact h3)
    rw [List.append_assoc] at this
    exact this
theorem pair_d (q : Str × Str) : prD q = Dt.d q := rfl
theorem step_d (q : Str × Int) : stD q = Dt.d q := rfl
theorem pairs_d (ps : PL) : D.tup (ps.map prD) = Dt.d (Tup.mk ps) := rfl
theorem steps_d (qs : SL) : D.tup (qs.map stD) = Dt.d (Tup.mk qs) := rfl
theorem PD_d {α : Type} [DecidableEq α] [Dt α] (a : α) {n : Nat} (h : (Dt.toDatum (α := α)).depth ≤ n := by decide) : PD n (Dt.d a) := (Dt.pd a).up h
theorem scan_no {x : Str} {kk : D} {done : PL} {xs : List (D × D)} (h1 : nameB x = true) (h2 : x ∉ done.map (·.1)) (e : kindD kk = none) : scan done ((.str x, kk) :: xs) = .error (.kind kk) := by
  unfold scan
  rw [if_pos h1, if_neg h2, e]
theorem scan_ok {x s : Str} {kk : D} {done : PL} {xs : List (D × D)} (h1 : nameB x = true) (h2 : x ∉ done.map (·.1)) (e : kindD kk = some s) : scan done ((.str x, kk) :: xs) = scan (done ++ [(x, s)]) xs := by
  conv => lhs; unfold scan
  rw [if_pos h1, if_neg h2, e]
theorem strs_pd (l : List Str) : ∀ d ∈ l.map D.str, PD 63 d := fun d h => by
  obtain ⟨x, _, rfl⟩ := List.mem_map.mp h
  exact PD_d x
theorem kd_in (y : Str) : inB (.str y) [.str "free", .str "rising", .str "falling"] = kdS y := by
  unfold kdS inB
  have e : ∀ a : Str, dEqB (.str a) (.str y) = decide (y = a) := fun a => by
    show decide (a = y) = _
    exact decide_eq_decide.mpr eq_comm
  rw [List.any_cons, List.any_cons, List.any_cons, List.any_nil, e, e, e, Bool.or_false]
theorem bools_map {α : Type} (f : α → Bool) : ∀ xs : List α, bools (xs.map fun x => D.bl (f x)) = some (xs.map f)
  | [] => rfl
  | x :: xs => by rw [List.map_cons, bools, bools_map f xs]; rfl
/-! ### a row as text -/
def stT (q : Str × Int) : Str := if q.2 = 1 then q.1 else q.1 ++ "^" ++ toString q.2
def rowT (qs : SL) : Str := if qs = [] then "." else Txt.join " " (qs.map stT)
def SmallQ (qs : SL) : Prop := qs.length ≤ 100 ∧ ∀ q ∈ qs, (stT q).length ≤ 1000 ∧ q.2.natAbs.log2 < 1920 ∧ q.1.length ≤ 100
theorem texts_mapF {α : Type} (f : α → Str) : ∀ xs : List α, texts (xs.map fun x => D.str (f x)) = some (xs.map f)
  | [] => rfl
  | x :: xs => by rw [List.map_cons, texts, texts_mapF f xs]; rfl
theorem sum_le {α : Type} (f : α → Nat) (b : Nat) : ∀ xs : List α, (∀ x ∈ xs, f x ≤ b) → (xs.map f).sum ≤ xs.length * b
  | [], _ => by simp
  | x :: xs, h => by
    have h1 := h x (List.mem_cons_self ..)
    have h2 := sum_le f b xs fun y hy => h y (List.mem_cons_of_mem _ hy)
    rw [List.map_cons, List.sum_cons, List.length_cons, Nat.succ_mul]
    omega
theorem emp_app (n : Str) : Str.empty ++ n = n := by
  obtain ⟨c⟩ := n
  show Str.mk (#[] ++ c) = _
  rw [Array.empty_append]
theorem str_len_app (a b : Str) : (a ++ b : Str).length = a.length + b.length := by
  obtain ⟨c⟩ := a
  obtain ⟨d⟩ := b
  show (c ++ d).size = _
  exact Array.size_append
end RS

set_option maxRecDepth 100000
set_option maxHeartbeats 4000000
namespace RS
open PySem PySem.Spec PyProof.Rows L2 NdefX He PySem.W
variable [Tbls]
/-! ### every way of rewriting ends with nrm -/
theorem snocRec {α : Type} {P : List α → Prop} (h0 : P []) (hs : ∀ r l, P r → P (r ++ [l])) (xs : List α) : P xs := by
  have h : ∀ ys : List α, P ys.reverse := fun ys => by
    induction ys with
    | nil => exact h0
    | cons a r ih => rw [List.reverse_cons]; exact hs _ _ ih
  rw [← List.reverse_reverse xs]
  exact h _
inductive Red : SL → Prop
  | nil : Red []
  | snoc {r : SL} {q : Str × Int} : Red r → q.2 ≠ 0 → (∀ l, r.getLast? = some l → l.1 ≠ q.1) → Red (r ++ [q])
theorem nStep_snoc (r : SL) (l q : Str × Int) : nStep (r ++ [l]) q = if l.1 = q.1 then (if q.2 + l.2 = 0 then r else r ++ [(q.1, q.2 + l.2)]) else (if q.2 = 0 then r ++ [l] else r ++ [l] ++ [q]) := by
  unfold nStep
  rw [List.getLast?_concat]
  dsimp only
  rw [List.dropLast_concat]
theorem nStep_fresh {r : SL} {q : Str × Int} (h : ∀ l, r.getLast? = some l → l.1 ≠ q.1) : nStep r q = if q.2 = 0 then r else r ++ [q] := by
  unfold nStep
  cases e : r.getLast? with
  | none => rfl
  | some l => dsimp only; rw [if_neg (h l e)]
theorem nStep_zero {r : SL} (h : Red r) (n : Str) : nStep r (n, 0) = r := by
  cases h with
  | nil => rfl
  | snoc h hq hl =>
    rename_i r l
    rw [nStep_snoc]
    split
    · rename_i e
      rw [if_neg (by show ¬ (0 + l.2 = 0); omega)]
      show r ++ [(n, 0 + l.2)] = _
      rw [Int.zero_add]
      have : l = (n, l.2) := by cases l; cases e; rfl
      rw [← this]
    · rw [if_pos rfl]
theorem nStep_two {r : SL} (h : Red r) (n : Str) (x y : Int) : nStep (nStep r (n, x)) (n, y) = nStep r (n, x + y) := by
  have fresh : ∀ {r : SL}, (∀ l, r.getLast? = some l → l.1 ≠ n) → nStep (nStep r (n, x)) (n, y) = nStep r (n, x + y) := by
    intro r hf
    rw [nStep_fresh (q := (n, x)) hf, nStep_fresh (q := (n, x + y)) hf]
    dsimp only
    by_cases hx : x = 0
    · rw [if_pos hx, nStep_fresh (q := (n, y)) hf]
      dsimp only
      rw [hx, Int.zero_add]
    · rw [if_neg hx, nStep_snoc, if_pos rfl]
      dsimp only
      by_cases hy : y + x = 0
      · rw [if_pos hy, if_pos (by omega)]
      · rw [if_neg hy, if_neg (by omega), Int.add_comm y x]
  cases h with
  | nil => exact fresh (r := []) (fun l z => by simp at z)
  | snoc h hq hl =>
    rename_i r l
    by_cases hn : l.1 = n
    · have hf : ∀ k, r.getLast? = some k → k.1 ≠ n := fun k hk => by rw [← hn]; exact hl k hk
      rw [nStep_snoc r l (n, x), nStep_snoc r l (n, x + y), if_pos hn, if_pos hn]
      dsimp only
      by_cases hx : x + l.2 = 0
      · rw [if_pos hx, nStep_fresh (q := (n, y)) hf]
        dsimp only
        have e : x + y + l.2 = y := by omega
        rw [e]
      · rw [if_neg hx, nStep_snoc, if_pos rfl]
        dsimp only
        have e : x + y + l.2 = y + (x + l.2) := by omega
        rw [e]
    · exact fresh fun k hk => by rw [List.getLast?_concat] at hk; cases hk; exact hn
theorem Red.last {r : SL} {l : Str × Int} (h : Red (r ++ [l])) : Red r ∧ l.2 ≠ 0 ∧ ∀ k, r.getLast? = some k → k.1 ≠ l.1 := by
  generalize e : r ++ [l] = s at h
  cases h with
  | nil => simp at e
  | snoc h hq hl =>
    obtain ⟨e1, e2⟩ := List.append_inj' e rfl
    cases e1
    cases e2
    exact ⟨h, hq, hl⟩
theorem Red.step {r : SL} (h : Red r) (q : Str × Int) : Red (nStep r q) := by
  cases h with
  | nil =>
    rw [nStep_fresh (fun l z => by simp at z)]
    split
    · exact .nil
    · exact Red.snoc (r := []) .nil (by assumption) fun l z => by simp at z
  | snoc h hq hl =>
    rename_i r l
    rw [nStep_snoc]
    split
    · rename_i e
      split
      · exact h
      · exact .snoc h (by assumption) fun k hk => by rw [← e]; exact hl k hk
    · rename_i e
      split
      · exact .snoc h hq hl
      · exact .snoc (.snoc h hq hl) (by assumption) fun k hk => by rw [List.getLast?_concat] at hk; cases hk; exact e
theorem Red.fold : ∀ (qs : SL) {r : SL}, Red r → Red (qs.foldl nStep r)
  | [], _, h => h
  | q :: qs, _, h => Red.fold qs (h.step q)
theorem nrm_Red (qs : SL) : Red (nrm qs) := Red.fold qs .nil
theorem nrm_drop (a b : SL) (n : Str) : nrm (a ++ (n, 0) :: b) = nrm (a ++ b) := by
  unfold nrm
  rw [List.foldl_append, List.foldl_append, List.foldl_cons, nStep_zero (Red.fold a .nil)]
theorem nrm_join (a b : SL) (n : Str) (x y : Int) : nrm (a ++ (n, x) :: (n, y) :: b) = nrm (a ++ (n, x + y) :: b) := by
  unfold nrm
  rw [List.foldl_append, List.foldl_append, List.foldl_cons, List.foldl_cons, List.foldl_cons, nStep_two (Red.fold a .nil)]
theorem fold_red : ∀ (b a : SL), Red (a ++ b) → b.foldl nStep a = a ++ b
  | [], a, _ => by rw [List.append_nil]; rfl
  | q :: b, a, h => by
    have h' : Red ((a ++ [q]) ++ b) := by rw [List.append_assoc]; exact h
    have pre : ∀ (c : SL) {d : SL}, Red (d ++ c) → Red d := by
      intro c
      refine snocRec (P := fun c => ∀ {d : SL}, Red (d ++ c) → Red d) ?_ ?_ c
      · intro d h; rw [List.append_nil] at h; exact h
      · intro c l ih d h; exact ih (by rw [← List.append_assoc] at h; exact h.last.1)
    have hq := (pre b h').last
    rw [List.foldl_cons, nStep_fresh hq.2.2, if_neg hq.2.1, fold_red b _ h', List.append_assoc]
    rfl
theorem nrm_red {qs : SL} (h : Red qs) : nrm qs = qs := fold_red qs [] h
theorem nrm_nrm (qs : SL) : nrm (nrm qs) = nrm qs := nrm_red (nrm_Red qs)
theorem red_of : ∀ (qs : SL) (h0 : ∀ (i : Nat) q, qs[i]? = some q → q.2 ≠ 0) (h1 : ∀ (i : Nat) p q, qs[i]? = some p → qs[i + 1]? = some q → p.1 ≠ q.1), Red qs := by
  refine snocRec ?_ ?_
  · exact fun _ _ => .nil
  · intro r l ih h0 h1
    refine .snoc (ih (fun i q e => h0 i q ?_) (fun i p q e e' => h1 i p q ?_ ?_)) (h0 r.length l (by simp)) fun k hk => ?_
    · rw [List.getElem?_append_left (List.getElem?_eq_some_iff.mp e).1]; exact e
    · rw [List.getElem?_append_left (List.getElem?_eq_some_iff.mp e).1]; exact e
    · rw [List.getElem?_append_left (List.getElem?_eq_some_iff.mp e').1]; exact e'
    · rw [List.getLast?_eq_getElem?] at hk
      have hlt := (List.getElem?_eq_some_iff.mp hk).1
      refine h1 (r.length - 1) k l ?_ ?_
      · rw [List.getElem?_append_left hlt]; exact hk
      · have e : r.length - 1 + 1 = r.length := by omega
        rw [e]
        simp
/-! ### how large it gets -/
def absS (qs : SL) : Nat := (qs.map fun q => q.2.natAbs).sum
theorem absS_app (a b : SL) : absS (a ++ b) = absS a + absS b := by unfold absS; rw [List.map_append, List.sum_append]
theorem absS_nStep (r : SL) (q : Str × Int) : absS (nStep r q) ≤ absS r + q.2.natAbs := by
  rcases List.eq_nil_or_concat r with rfl | ⟨r, l, rfl⟩
  · rw [nStep_fresh (fun l z => by simp at z)]
    split
    · omega
    · rw [absS_app]; show absS [] + (q.2.natAbs + 0) ≤ _; omega
  · rw [List.concat_eq_append, nStep_snoc]
    have e1 : absS (r ++ [l]) = absS r + l.2.natAbs := by rw [absS_app]; rfl
    split
    · split
      · omega
      · rw [absS_app, e1]
        show absS r + ((q.2 + l.2).natAbs + 0) ≤ _
        omega
    · split
      · omega
      · rw [absS_app]; show absS (r ++ [l]) + (q.2.natAbs + 0) ≤ _; omega
theorem absS_fold : ∀ (qs r : SL), absS (qs.foldl nStep r) ≤ absS r + absS qs
  | [], r => Nat.le_refl _
  | q :: qs, r => by
    have h1 := absS_fold qs (nStep r q)
    have h2 := absS_nStep r q
    have h3 : absS (q :: qs) = q.2.natAbs + absS qs := by unfold absS; rw [List.map_cons, List.sum_cons]
    rw [List.foldl_cons, h3]
    omega
theorem absS_nrm (qs : SL) : absS (nrm qs) ≤ absS qs := by
  have := absS_fold qs []
  unfold nrm
  have h0 : absS [] = 0 := rfl
  omega
theorem absS_mem {qs : SL} {q : Str × Int} (h : q ∈ qs) : q.2.natAbs ≤ absS qs := by
  induction qs with
  | nil => cases h
  | cons a r ih =>
    have h3 : absS (a :: r) = a.2.natAbs + absS r := by unfold absS; rw [List.map_cons, List.sum_cons]
    rcases List.mem_cons.mp h with rfl | h
    · omega
    · have := ih h; omega
theorem nm_fold : ∀ (qs r : SL) (q : Str × Int), q ∈ qs.foldl nStep r → q.1 ∈ r.map (·.1) ∨ q.1 ∈ qs.map (·.1)
  | [], r, q, h => .inl (List.mem_map.mpr ⟨q, h, rfl⟩)
  | p :: qs, r, q, h => by
    rcases nm_fold qs (nStep r p) q h with h | h
    · obtain ⟨z, hz, e⟩ := List.mem_map.mp h
      have : z.1 ∈ r.map (·.1) ∨ z.1 = p.1 := by
        rcases List.eq_nil_or_concat r with rfl | ⟨r, l, rfl⟩
        · rw [nStep_fresh (fun l z => by simp at z)] at hz
          split at hz
          · cases hz
          · have := List.mem_singleton.mp hz
            exact .inr (by rw [this])
        · rw [List.concat_eq_append, nStep_snoc] at hz
          rw [List.concat_eq_append]
          have key : ∀ s : SL, z ∈ s → (∀ y ∈ s, y ∈ r ++ [l] ∨ y.1 = p.1) → z.1 ∈ (r ++ [l]).map (·.1) ∨ z.1 = p.1 := fun s hs hh => (hh z hs).imp (fun y => List.mem_map.mpr ⟨z, y, rfl⟩) id
          refine key _ hz fun y hy => ?_
          split at hy
          · split at hy
            · exact .inl (List.mem_append_left _ hy)
            · rcases List.mem_append.mp hy with hy | hy
              · exact .inl (List.mem_append_left _ hy)
              · rw [List.mem_singleton.mp hy]; exact .inr rfl
          · split at hy
            · exact .inl hy
            · rcases List.mem_append.mp hy with hy | hy
              · exact .inl hy
              · rw [List.mem_singleton.mp hy]; exact .inr rfl
      rw [← e]
      rcases this with h | h
      · exact .inl h
      · exact .inr (by rw [h, List.map_cons]; exact List.mem_cons_self ..)
    · exact .inr (by rw [List.map_cons]; exact List.mem_cons_of_mem _ h)
theorem nm_nrm {qs : SL} {q : Str × Int} (h : q ∈ nrm qs) : q.1 ∈ qs.map (·.1) := by
  rcases nm_fold qs [] q h with h | h
  · cases h
  · exact h
theorem len_fold : ∀ (qs r : SL), (qs.foldl nStep r).length ≤ r.length + qs.length
  | [], r => Nat.le_refl _
  | q :: qs, r => by
    have h1 := len_fold qs (nStep r q)
    have h2 := nStep_len r q
    rw [List.foldl_cons, List.length_cons]
    omega
theorem len_nrm (qs : SL) : (nrm qs).length ≤ qs.length := by
  have := len_fold qs []
  rw [List.length_nil] at this
  unfold nrm
  omega
theorem nat_len {n k : Nat} (hk : 0 < k) (h : n < 10 ^ k) : n.repr.toList.length ≤ k := by
  rw [Nat.toList_repr]
  exact (Nat.length_toDigits_le_iff (by decide) hk).mpr h
theorem int_len {i : Int} {k : Nat} (hk : 0 < k) (h : i.natAbs < 10 ^ k) : ((toString i : String) : Str).length ≤ k + 1 := by
  have e : ∀ s : String, (s : Str).length = s.toList.length := fun s => by
    show (Str.ofString s).cps.size = _
    rw [Str.ofString_eq_toList]
    simp
  rw [e]
  cases i with
  | ofNat n =>
    show n.repr.toList.length ≤ _
    exact Nat.le_succ_of_le (nat_len hk h)
  | negSucc n =>
    show ("-" ++ (n + 1).repr).toList.length ≤ _
    have h1 := nat_len (n := n + 1) hk h
    rw [String.toList_append, List.length_append]
    have h2 : ("-" : String).toList.length = 1 := by decide
    omega
/-! ### places where a row may be rewritten -/
theorem atD_mapZ {α : Type} {f : α → D} {xs : List α} {z : Int} (h0 : 0 ≤ z) (h1 : z < (xs.length : Int)) : ∃ r ∈ xs, atD (xs.map f) z = some (f r) := by
  obtain ⟨n, rfl⟩ : ∃ n : Nat, z = (n : Int) := ⟨z.toNat, by omega⟩
  have hn : n < xs.length := by omega
  refine ⟨xs[n], List.getElem_mem hn, ?_⟩
  rw [atD_nat (by rw [List.length_map]; exact hn), List.getElem?_map, List.getElem?_eq_getElem hn]
  rfl
theorem atD_some {α : Type} {f : α → D} {xs : List α} {i : Nat} {r : α} {z : Int} (h : xs[i]? = some r) (hz : z = (i : Int)) : atD (xs.map f) z = some (f r) := by
  subst hz
  have hn := (List.getElem?_eq_some_iff.mp h).1
  rw [atD_nat (by rw [List.length_map]; exact hn), List.getElem?_map, h]
  rfl
theorem cut_from {xs : List D} {i : Nat} {z : Int} (hz : z = (i : Int)) : cutD xs (some z) none = xs.drop i := by
  subst hz
  unfold cutD
  rw [HT.sIx_nat, HT.sIx_none]
  by_cases h : i ≤ xs.length
  · rw [Nat.min_eq_left h, ← List.length_drop, List.take_length]
  · rw [Nat.min_eq_right (by omega), List.drop_length, List.drop_eq_nil_of_le (by omega), List.take_nil]
theorem cut_to {xs : List D} {i : Nat} {z : Int} (hz : z = (i : Int)) : cutD xs none (some z) = xs.take i := by
  subst hz
  unfold cutD
  rw [HT.sIx_nat, HT.sIx_none, List.drop_zero, Nat.sub_zero]
  by_cases h : i ≤ xs.length
  · rw [Nat.min_eq_left h]
  · rw [Nat.min_eq_right (by omega), List.take_length, List.take_of_length_le (by omega)]
theorem split1 {α : Type} {qs : List α} {i : Nat} {q : α} (h : qs[i]? = some q) : qs = qs.take i ++ q :: qs.drop (i + 1) := by
  obtain ⟨h1, h2⟩ := List.getElem?_eq_some_iff.mp h
  rw [← h2, ← List.drop_eq_getElem_cons h1, List.take_append_drop]
theorem split2 {α : Type} {qs : List α} {i : Nat} {q q2 : α} (h : qs[i]? = some q) (h2 : qs[i + 1]? = some q2) : qs = qs.take i ++ q :: q2 :: qs.drop (i + 2) := by
  obtain ⟨h1, h3⟩ := List.getElem?_eq_some_iff.mp h2
  have e : qs.drop (i + 1) = q2 :: qs.drop (i + 2) := by rw [← h3]; exact List.drop_eq_getElem_cons h1
  rw [← e]
  exact split1 h
def Rdx (qs : SL) (f : Int × Str) : Prop := ∃ (i : Nat) (q : Str × Int), f.1 = (i : Int) ∧ qs[i]? = some q ∧ ((q.2 = 0 ∧ f.2 = "drop") ∨ (f.2 = "join" ∧ ∃ q2, qs[i + 1]? = some q2 ∧ q2.1 = q.1))
structure DrF (qs : SL) (j : Nat) (fs : List (Int × Str)) : Prop where
  rdx : ∀ f ∈ fs, Rdx qs f
  few : fs.length ≤ j
  all : fs = [] → ∀ (i : Nat) q, i < j → qs[i]? = some q → q.2 ≠ 0
structure JnF (qs : SL) (j : Nat) (fs : List (Int × Str)) : Prop where
  rdx : ∀ f ∈ fs, Rdx qs f
  few : fs.length ≤ j
  all : fs = [] → ∀ (i : Nat) p q, i < j → qs[i]? = some p → qs[i + 1]? = some q → p.1 ≠ q.1
theorem DrF.zero (qs : SL) : DrF qs 0 [] := ⟨fun _ z => (nomatch z), Nat.le_refl _, fun _ i q h => absurd h (by omega)⟩
theorem JnF.zero (qs : SL) : JnF qs 0 [] := ⟨fun _ z => (nomatch z), Nat.le_refl _, fun _ i p q h => absurd h (by omega)⟩
theorem DrF.no {qs : SL} {j : Nat} {fs : List (Int × Str)} {q : Str × Int} (h : DrF qs j fs) (e : qs[j]? = some q) (n : q.2 ≠ 0) : DrF qs (j + 1) fs := ⟨h.rdx, Nat.le_succ_of_le h.few, fun z i r hi hr => by
  by_cases hj : i = j
  · subst hj; rw [e] at hr; cases hr; exact n
  · exact h.all z i r (by omega) hr⟩
theorem DrF.yes {qs : SL} {j : Nat} {fs : List (Int × Str)} {q : Str × Int} (h : DrF qs j fs) (e : qs[j]? = some q) (n : q.2 = 0) : DrF qs (j + 1) (fs ++ [((j : Int), ("drop" : Str))]) := ⟨fun f hf => by
  rcases List.mem_append.mp hf with hf | hf
  · exact h.rdx f hf
  · rw [List.mem_singleton.mp hf]; exact ⟨j, q, rfl, e, .inl ⟨n, rfl⟩⟩, by rw [List.length_append]; exact Nat.succ_le_succ h.few, fun z => by simp at z⟩
theorem JnF.no {qs : SL} {j : Nat} {fs : List (Int × Str)} {p q : Str × Int} (h : JnF qs j fs) (e : qs[j]? = some p) (e2 : qs[j + 1]? = some q) (n : p.1 ≠ q.1) : JnF qs (j + 1) fs := ⟨h.rdx, Nat.le_succ_of_le h.few, fun z i r s hi hr hs => by
  by_cases hj : i = j
  · subst hj; rw [e] at hr; rw [e2] at hs; cases hr; cases hs; exact n
  · exact h.all z i r s (by omega) hr hs⟩
theorem JnF.yes {qs : SL} {j : Nat} {fs : List (Int × Str)} {p q : Str × Int} (h : JnF qs j fs) (e : qs[j]? = some p) (e2 : qs[j + 1]? = some q) (n : p.1 = q.1) : JnF qs (j + 1) (fs ++ [((j : Int), ("join" : Str))]) := ⟨fun f hf => by
  rcases List.mem_append.mp hf with hf | hf
  · exact h.rdx f hf
  · rw [List.mem_singleton.mp hf]; exact ⟨j, p, rfl, e, .inr ⟨rfl, q, e2, n.symm⟩⟩, by rw [List.length_append]; exact Nat.succ_le_succ h.few, fun z => by simp at z⟩
/-- the places of a row -/
structure Plc (qs : SL) (fs : List (Int × Str)) : Prop where
  rdx : ∀ f ∈ fs, Rdx qs f
  few : fs.length ≤ 2 * qs.length
  red : fs = [] → Red qs
theorem Plc.of {qs : SL} {fs gs : List (Int × Str)} (h : DrF qs qs.length fs) (h2 : JnF qs (qs.length - 1) gs) : Plc qs (fs ++ gs) := ⟨fun f hf => (List.mem_append.mp hf).elim (h.rdx f) (h2.rdx f), by rw [List.length_append]; have := h.few; have := h2.few; omega, fun z => by
  obtain ⟨z1, z2⟩ := List.append_eq_nil_iff.mp z
  refine red_of qs (fun i q e => h.all z1 i q (List.getElem?_eq_some_iff.mp e).1 e) fun i p q e e2 => h2.all z2 i p q ?_ e e2
  have := (List.getElem?_eq_some_iff.mp e2).1
  omega⟩
end RS

set_option maxRecDepth 100000
set_option maxHeartbeats 4000000
namespace RS
open PySem PySem.Spec PyProof.Rows L2 NdefX He PySem.W
variable [Tbls]
/-! ### the head's facts, for the D layer -/
def allBT : List BT := [.int, .bool, .str, .tuple, .list, .dict, .none, .verr]
theorem allBT_mem (t : BT) : t ∈ allBT := by cases t <;> simp [allBT]
def kaB (K : Frg) (C : Addr) : Bool := allBT.all fun t => decide (PySem.W.kitOne K (.type t.name) (.ref C) = some false)
theorem kaB_ok {K : Frg} {C : Addr} (h : kaB K C = true) (t : BT) : IsA K (.bt t) (.own C) false := show PySem.W.kitOne K (.type t.name) (.ref C) = some false from of_decide_eq_true (List.all_eq_true.mp h t (allBT_mem t))
def kbB (K : Frg) (C : Addr) : Bool := allBT.all fun t => decide (PySem.W.kitOne K (.ref C) (.type t.name) = some false)
theorem kbB_ok {K : Frg} {C : Addr} (h : kbB K C = true) (t : BT) : IsA K (.own C) (.bt t) false := show PySem.W.kitOne K (.ref C) (.type t.name) = some false from of_decide_eq_true (List.all_eq_true.mp h t (allBT_mem t))
def nbB (K : Frg) (C : Addr) : Bool := allBT.all fun t => PySem.W.notFirst K C (.type t.name)
theorem nbB_ok {K : Frg} {C : Addr} (h : nbB K C = true) (t : BT) : NotF K C (.bt t) := List.all_eq_true.mp h t (allBT_mem t)
/-- constants as data -/
def dvD : Dv → Option D
  | .non => some .non
  | .bl b => some (.bl b)
  | .int i => some (.int i)
  | .str x => some (.str x)
  | _ => none
def dvDs : List Dv → Option (List D)
  | [] => some []
  | v :: vs => match dvD v, dvDs vs with
    | some d, some ds => some (d :: ds)
    | _, _ => none
theorem dvD_ok {K : Frg} {F : Hp} {v : Dv} {d : D} (h : dvD v = some d) : Rv K F (Dv.v K v) d := by
  cases v <;> cases h
  · exact .non
  · exact .bl _
  · exact .int _
  · exact .str _
theorem dvDs_ok {K : Frg} {F : Hp} : ∀ {vs : List Dv} {ds : List D}, dvDs vs = some ds → Rvs K F (vs.map (Dv.v K)) ds
  | [], _, h => by cases h; exact .nil
  | v :: vs, ds, h => by
    unfold dvDs at h
    split at h
    · rename_i d ds' e1 e2
      cases h
      exact .cons (dvD_ok e1) (dvDs_ok e2)
    · cases h
theorem tupd_ok {K : Frg} {x : Str} {vs : List Dv} {ds : List D} (h : tupB K x vs = true) (e : dvDs vs = some ds) (F : Hp) : Rv K F (.ref (ga K x)) (.tup ds) := .tup (tupB_ok h F) (dvDs_ok e)
/-- the tuple at a holds these -/
def tupAB (K : Frg) (a : Addr) (vs : List Dv) : Bool := match K.lookup a with
  | some ⟨.type c, _, .seq its _, _⟩ => decide (c = "tuple") && (decide (its.size ≤ sizeLine) && relAll (vs.map (Dv.v K)) its.toList)
  | _ => false
theorem tupAB_ok {K : Frg} {a : Addr} {vs : List Dv} (h : tupAB K a vs = true) (H : Hp) : SqT K H a (vs.map (Dv.v K)) := by
  unfold tupAB at h
  split at h
  · rename_i c od its n osl q
    obtain ⟨h1, h2⟩ := ba h
    obtain ⟨h3, h4⟩ := ba h2
    exact .inr ⟨_, its, n, q, congrArg Value.type (of_decide_eq_true h1), rfl, of_decide_eq_true h3, relAll_ok h4⟩
  · cases h
theorem tupad_ok {K : Frg} {a : Addr} {vs : List Dv} {ds : List D} (h : tupAB K a vs = true) (e : dvDs vs = some ds) (F : Hp) : Rv K F (.ref a) (.tup ds) := .tup (tupAB_ok h F) (dvDs_ok e)
theorem Dfl.one {K : Frg} {v : V} {d : D} (h : ∀ F, Rv K F v d) : Dfl K [v] [d] := fun F => .cons (h F) .nil
theorem Dfl.cons {K : Frg} {v : V} {d : D} {vs : List V} {ds : List D} (h : ∀ F, Rv K F v d) (t : Dfl K vs ds) : Dfl K (v :: vs) (d :: ds) := fun F => .cons (h F) (t F)
end RS

set_option maxRecDepth 100000
set_option maxHeartbeats 4000000
namespace RS
open PySem PySem.Spec PyProof.Rows L2 He
/-! ### the head's facts where the top is large: only what some names reach -/
def frN {α : Type} (n : Nat) (k : Nat → α) : α := match n with
  | 0 => k 0
  | m + 1 => k (m + 1)
theorem frN_eq {α : Type} (n : Nat) (k : Nat → α) : frN n k = k n := by
  cases n <;> rfl
def frL {α : Type} : List Addr → (List Addr → α) → α
  | [], k => k []
  | a :: r, k => frN a fun a => frL r fun r => k (a :: r)
theorem frL_eq {α : Type} : ∀ (as : List Addr) (k : List Addr → α), frL as k = k as
  | [], _ => rfl
  | a :: r, k => by
    unfold frL
    rw [frN_eq, frL_eq r]
def hasN' (x : Addr) : List Addr → Bool
  | [] => false
  | a :: r => match Nat.beq x a with
    | true => true
    | false => hasN' x r
def newS (done : List Addr) : List Addr → List Addr → List Addr
  | [], acc => acc
  | x :: r, acc => match hasN' x done || hasN' x acc with
    | true => newS done r acc
    | false => newS done r (x :: acc)
def refsS (g : Addr → Option Obj) (a : Addr) : List Addr := match Nat.beq a mainGlobals || Nat.beq a cStatics with
  | true => []
  | false => match g a with
    | some o => refsD o
    | none => []
def growS (g : Addr → Option Obj) : Nat → List Addr → List Addr → List Addr
  | 0, done, fr => fr ++ done
  | n + 1, done, fr => frL (newS done fr []) fun fr => frL (fr ++ done) fun done => growS g n done (fr.flatMap (refsS g))
def asS (g : Addr → Option Obj) (xs : List Str) (n : Nat) : List Addr := growS g n [mainGlobals, cStatics] (xs.map (ga (frG g [mainGlobals])))
def obsSG (xs : List Str) (n : Nat) (ex : Frg → Bool) (fn : List DefR) (g : Addr → Option Obj) : AlR := frL (asS g xs n) fun as => obsR ex fn (frG g as)
def hookS (xs : List Str) (n : Nat) (ex : Frg → Bool) (fn : List DefR) : PySem.W.Hook where
  α := AlR
  obs := fun s => obsSG xs n ex fn s.heap.get?
  val := fun _ => valR fn
  says := fun _ h => ∃ K : Frg, K.In h ∧ SaysR ex fn K
  of := fun _ s e => by
    have e2 : obsSG xs n ex fn s.heap.get? = valR fn := e
    unfold obsSG at e2
    rw [frL_eq] at e2
    exact ⟨_, frG_in, e2⟩
  keeps := fun _ _ _ ⟨K, hK, c⟩ k => ⟨K, PySem.W.Frag.In.keeps hK k, c⟩
theorem obsSG_eq {xs : List Str} {n : Nat} {ex : Frg → Bool} {fn : List DefR} {g : Addr → Option Obj} {s : Shared} (h : ∀ a, g a = s.heap.get? a) : obsSG xs n ex fn g = (hookS xs n ex fn).obs s := by
  have e : g = s.heap.get? := funext h
  rw [e] <;> rfl
/-! ### the run's equation in three parts -/
open HandSHeadRun PySem.W PySem.Calls in
theorem run_join {r : OpenRow} {q : Program} {H : Hook} {ob : SharedT → H.α} {M : Nat} {loose : List PySem.Str} {w : World}
    (h1 : ∀ os : OsState, (endF (stepQ (denQ tabQ) r.prog w) M r.prog w os).map (fun s => looksF r.prog (boot_heap w.params) s.abs) = some true)
    (h2 : ∀ os : OsState, (endF (stepQ (denQ tabQ) r.prog w) M r.prog w os).map (fun s => seenQ q loose (importedModules r.prog.main.body) (fun s => xlAt q [] s && recOk r.toRowW.records s) s.abs) = some (openGood q loose))
    (h3 : ∀ os : OsState, (endF (stepQ (denQ tabQ) r.prog w) M r.prog w os).map ob = some (H.val w)) : RunEq r q H ob M loose w := fun os => by
  have e1 := h1 os
  have e2 := h2 os
  have e3 := h3 os
  cases e : endF (stepQ (denQ tabQ) r.prog w) M r.prog w os with
  | none => rw [e] at e1; cases e1
  | some s =>
    rw [e] at e1 e2 e3
    have e1' : looksF r.prog (boot_heap w.params) s.abs = true := Option.some.inj e1
    have e2' : seenQ q loose (importedModules r.prog.main.body) (fun s => xlAt q [] s && recOk r.toRowW.records s) s.abs = openGood q loose := Option.some.inj e2
    have e3' : ob s = H.val w := Option.some.inj e3
    show some (looksF r.prog (boot_heap w.params) s.abs, seenQ q loose (importedModules r.prog.main.body) (fun s => xlAt q [] s && recOk r.toRowW.records s) s.abs, ob s) = _
    rw [e1', e2', e3']
end RS

set_option maxRecDepth 100000
set_option maxHeartbeats 0
namespace RS
open PySem PySem.Spec PyProof.Rows L2 He
open NdefX
namespace Hd
def top (i : Nat) : Stmt := PySem.Challenge.pw_risingscales_k51_books_made_and_refused.main.body.getD i (.Pass ⟨0, 0, 0, 0⟩)
def dx (adr : Frg → Addr) (n q : Str) (st : Stmt) (dfl : List Dv) (clo : List Str) : DefR := ⟨adr, n, q, defArgs st, defBody st, defScope st, dfl, clo⟩
def fn : List DefR := [
  dx (fun K => inA K "BadClaim") "__init__" "BadClaim.__init__" (inClass (top 10) 0) [] ["__class__"],
  dx (fun K => inA K "BadFact") "__init__" "BadFact.__init__" (inClass (top 9) 0) [] ["__class__"],
  dx (fun K => inA K "BadKind") "__init__" "BadKind.__init__" (inClass (top 5) 0) [] ["__class__"],
  dx (fun K => inA K "BadName") "__init__" "BadName.__init__" (inClass (top 3) 0) [] ["__class__"],
  dx (fun K => inA K "NoScale") "__init__" "NoScale.__init__" (inClass (top 7) 0) [] ["__class__"],
  dx (fun K => inA K "OtherScales") "__init__" "OtherScales.__init__" (inClass (top 8) 0) [] ["__class__"],
  dx (fun K => inA K "TwiceNamed") "__init__" "TwiceNamed.__init__" (inClass (top 4) 0) [] ["__class__"],
  dx (fun K => ga K "normal_steps") "normal_steps" "normal_steps" (top 12) [] [],
  dx (fun K => ga K "is_name") "is_name" "is_name" (top 67) [] [],
  dx (fun K => ma K (ga K "Scales") "__contains__") "__contains__" "Scales.__contains__" (inClass (top 77) 5) [] [],
  dx (fun K => ma K (ga K "Scales") "__eq__") "__eq__" "Scales.__eq__" (inClass (top 77) 7) [] [],
  dx (fun K => ma K (ga K "Row") "__init__") "__init__" "Row.__init__" (inClass (top 13) 1) [.adr (dflAt ("Row", some "__init__") 0)] [],
  dx (fun K => ma K (ga K "Scales") "__init__") "__init__" "Scales.__init__" (inClass (top 77) 0) [] [],
  dx (fun K => ma K (ga K "Scales") "__getitem__") "__getitem__" "Scales.__getitem__" (inClass (top 77) 3) [] [],
  dx (fun K => prA K (ga K "Scales") "still") "still" "Scales.still" (inClass (top 77) 4) [] [],
  dx (fun K => ma K (ga K "Row") "__eq__") "__eq__" "Row.__eq__" (inClass (top 13) 11) [] [],
  dx (fun K => ga K "need_like") "need_like" "need_like" (top 15) [] [],
  dx (fun K => ga K "highs_of") "highs_of" "highs_of" (top 16) [] [],
  dx (fun K => ga K "lows_of") "lows_of" "lows_of" (top 17) [] [],
  dx (fun K => ga K "choices") "choices" "choices" (top 19) [] [],
  dx (fun K => ga K "kept_lists") "kept_lists" "kept_lists" (top 20) [] [],
  dx (fun K => ma K (ga K "Form") "__init__") "__init__" "Form.__init__" (inClass (top 14) 0) [] [],
  dx (fun K => ga K "higher") "higher" "higher" (top 21) [] [],
  dx (fun K => ma K (ga K "Row") "__or__") "__or__" "Row.__or__" (inClass (top 13) 4) [] [],
  dx (fun K => ga K "is_relation") "is_relation" "is_relation" (top 27) [] [],
  dx (fun K => ga K "is_claim") "is_claim" "is_claim" (top 28) [] [],
  dx (fun K => ma K (ga K "Book") "__init__") "__init__" "Book.__init__" (inClass (top 70) 0) [.adr (dflAt ("Book", some "__init__") 0)] [],
  dx (fun K => ma K (ga K "Book") "need_claim") "need_claim" "Book.need_claim" (inClass (top 70) 2) [.int 0] [],
  dx (fun K => ma K (ga K "Book") "follows") "follows" "Book.follows" (inClass (top 70) 4) [] [],
  dx (fun K => ga K "_law_bag") "_law_bag" "_law_bag" (top 79) [] [],
  dx (fun K => ga K "_law_draw") "_law_draw" "_law_draw" (top 80) [] [],
  dx (fun K => ga K "_law_ident") "_law_ident" "_law_ident" (top 81) [] [],
  dx (fun K => ga K "_law_scales") "_law_scales" "_law_scales" (top 82) [] [],
  dx (fun K => ga K "_law_steps") "_law_steps" "_law_steps" (top 83) [] [],
  dx (fun K => ga K "_law_relation") "_law_relation" "_law_relation" (top 84) [] [],
  dx (fun K => ga K "_law_tried") "_law_tried" "_law_tried" (top 85) [] [],
  dx (fun K => ga K "_law_refused") "_law_refused" "_law_refused" (top 86) [] [],
  dx (fun K => ga K "_law_strange") "_law_strange" "_law_strange" (top 87) [] [],
  dx (fun K => ga K "law") "law" "law" (top 88) [] []]
def exl : List (Frg → Bool) := [
  fun K => clsB K "Book",
  fun K => noatB K "Book" "facts",
  fun K => noatB K "Book" "names",
  fun K => noatB K "Book" "scales",
  fun K => clsB K "Form",
  fun K => noatB K "Form" "highs",
  fun K => noatB K "Form" "lows",
  fun K => noatB K "Form" "scales",
  fun K => clsB K "Row",
  fun K => noatB K "Row" "scales",
  fun K => noatB K "Row" "steps",
  fun K => clsB K "Scales",
  fun K => noatB K "Scales" "kinds_told",
  fun K => noatB K "Scales" "names",
  fun K => noatB K "Scales" "pairs",
  fun K => freeB K "all",
  fun K => freeB K "any",
  fun K => freeB K "enumerate",
  fun K => freeB K "isinstance",
  fun K => freeB K "len",
  fun K => freeB K "list",
  fun K => freeB K "range",
  fun K => freeB K "str",
  fun K => freeB K "tuple",
  fun K => decide (PySem.W.exmOne K (.ref (ga K "BadClaim")) (.ref (ga K "BadClaim")) = some true),
  fun K => decide (PySem.W.exmOne K (.ref (ga K "BadFact")) (.ref (ga K "BadFact")) = some true),
  fun K => decide (PySem.W.exmOne K (.ref (ga K "BadFact")) (.ref (ga K "BadName")) = some false),
  fun K => decide (PySem.W.exmOne K (.ref (ga K "BadFact")) (.ref (ga K "TwiceNamed")) = some false),
  fun K => decide (PySem.W.exmOne K (.ref (ga K "BadName")) (.ref (ga K "BadName")) = some true),
  fun K => decide (PySem.W.exmOne K (.ref (ga K "TwiceNamed")) (.ref (ga K "BadName")) = some false),
  fun K => decide (PySem.W.exmOne K (.ref (ga K "TwiceNamed")) (.ref (ga K "TwiceNamed")) = some true),
  fun K => gloB K "BadClaim",
  fun K => gloB K "BadFact",
  fun K => gloB K "BadName",
  fun K => gloB K "Form",
  fun K => gloB K "KINDS",
  fun K => gloB K "RELATIONS",
  fun K => gloB K "Row",
  fun K => gloB K "ScaleError",
  fun K => gloB K "Scales",
  fun K => getIn K (ga K "Scales"),
  fun K => (Fa.int "LONGEST" 12).ok K,
  fun K => isiB K "Form",
  fun K => isiB K "Row",
  fun K => isiB K "Scales",
  fun K => kaB K (ga K "Form"),
  fun K => kaB K (ga K "Row"),
  fun K => decide (PySem.W.kitOne K (.ref (ga K "BadFact")) (.ref (ga K "BadClaim")) = some false),
  fun K => decide (PySem.W.kitOne K (.ref (ga K "BadFact")) (.ref (ga K "ScaleError")) = some true),
  fun K => decide (PySem.W.kitOne K (.ref (ga K "BadName")) (.ref (ga K "BadFact")) = some false),
  fun K => decide (PySem.W.kitOne K (.ref (ga K "BadName")) (.ref (ga K "ScaleError")) = some true),
  fun K => decide (PySem.W.kitOne K (.ref (ga K "Form")) (.ref (ga K "Form")) = some true),
  fun K => decide (PySem.W.kitOne K (.ref (ga K "Form")) (.ref (ga K "Row")) = some false),
  fun K => decide (PySem.W.kitOne K (.ref (ga K "Row")) (.ref (ga K "Form")) = some false),
  fun K => decide (PySem.W.kitOne K (.ref (ga K "Row")) (.ref (ga K "Row")) = some true),
  fun K => decide (PySem.W.kitOne K (.ref (ga K "Scales")) (.ref (ga K "Scales")) = some true),
  fun K => decide (PySem.W.kitOne K (.ref (ga K "TwiceNamed")) (.ref (ga K "BadName")) = some false),
  fun K => decide (PySem.W.kitOne K (.ref (ga K "TwiceNamed")) (.ref (ga K "ScaleError")) = some true),
  fun K => noatB K "BadClaim" "index",
  fun K => noatB K "BadFact" "index",
  fun K => noatB K "BadName" "name",
  fun K => noatB K "TwiceNamed" "name",
  fun K => neB K "Scales",
  fun K => PySem.W.notFirst K (ga K "Row") (.ref (ga K "Row")),
  fun K => PySem.W.notFirst K (ga K "Scales") (.ref (ga K "Scales")),
  fun K => (Fa.str "DIGITS" "0123456789").ok K,
  fun K => (Fa.str "LETTERS" "abcdefghijklmnopqrstuvwxyz").ok K,
  fun K => PySem.W.selfFirst K (ga K "Row"),
  fun K => tupB K "KINDS" [.str "free", .str "rising", .str "falling"],
  fun K => tupB K "RELATIONS" [.str "<", .str "<=", .str "=", .str ">=", .str ">"],
  fun K => freeB K "int",
  fun K => tupAB K (dflAt ("Row", some "__init__") 0 K) [],
  fun K => excB K "BadClaim",
  fun K => clxB K "BadClaim" "/claim/cut.py",
  fun K => excB K "BadFact",
  fun K => clxB K "BadFact" "/claim/cut.py",
  fun K => excB K "BadKind",
  fun K => noatB K "BadKind" "kind",
  fun K => clxB K "BadKind" "/claim/cut.py",
  fun K => gloB K "BadKind",
  fun K => excB K "BadName",
  fun K => clxB K "BadName" "/claim/cut.py",
  fun K => excB K "NoScale",
  fun K => noatB K "NoScale" "name",
  fun K => clxB K "NoScale" "/claim/cut.py",
  fun K => gloB K "NoScale",
  fun K => excB K "OtherScales",
  fun K => clxB K "OtherScales" "/claim/cut.py",
  fun K => gloB K "OtherScales",
  fun K => excB K "TwiceNamed",
  fun K => clxB K "TwiceNamed" "/claim/cut.py",
  fun K => gloB K "TwiceNamed",
  fun K => gloB K "normal_steps",
  fun K => gloB K "is_name",
  fun K => methB K "Scales" "__contains__",
  fun K => methB K "Scales" "__eq__",
  fun K => mkrB K "Row",
  fun K => mkrB K "Scales",
  fun K => methB K "Scales" "__getitem__",
  fun K => prpB K "Scales" "still",
  fun K => methB K "Row" "__eq__",
  fun K => gloB K "need_like",
  fun K => gloB K "highs_of",
  fun K => gloB K "lows_of",
  fun K => gloB K "choices",
  fun K => gloB K "kept_lists",
  fun K => mkrB K "Form",
  fun K => gloB K "higher",
  fun K => methB K "Row" "__or__",
  fun K => gloB K "is_relation",
  fun K => gloB K "is_claim",
  fun K => mkrB K "Book",
  fun K => gloB K "Book",
  fun K => methB K "Book" "need_claim",
  fun K => methB K "Book" "follows",
  fun K => gloB K "_law_bag",
  fun K => gloB K "_law_draw",
  fun K => gloB K "_law_ident",
  fun K => gloB K "_law_scales",
  fun K => gloB K "_law_steps",
  fun K => gloB K "_law_relation",
  fun K => gloB K "_law_tried",
  fun K => gloB K "_law_refused",
  fun K => gloB K "_law_strange",
  fun K => freeB K "super",
  fun K => gloB K "law"]
def us : List Str := (["BadClaim", "BadFact", "BadKind", "BadName", "Book", "DIGITS", "Form", "KINDS", "LETTERS", "LONGEST", "NoScale", "OtherScales", "RELATIONS", "Row", "ScaleError", "Scales", "TwiceNamed", "_law_bag", "_law_draw", "_law_ident"] : List Str) ++ (["_law_refused", "_law_relation", "_law_scales", "_law_steps", "_law_strange", "_law_tried", "choices", "higher", "highs_of", "is_claim", "is_name", "is_relation", "kept_lists", "law", "lows_of", "need_like", "normal_steps"] : List Str)
def ex (K : Frg) : Bool := exl.all fun b => b K
abbrev R : PySem.W.OpenRow := PySem.W.OpenLaw.row PySem.Challenge.rw_risingscales_k51_books_made_and_refused
abbrev hk : PySem.W.Hook := hookS us 6 ex fn
def ob (s : PySem.W.SharedT) : AlR := obsSG us 6 ex fn (HandSHeadRun.getT s)
theorem ob_eq (s : PySem.W.SharedT) : ob s = hk.obs s.abs := obsSG_eq (HandSHeadRun.getT_eq s)
def loose : List Str := (["_wall", "ScaleError", "BadName", "TwiceNamed", "BadKind", "NoScales", "NoScale", "OtherScales", "BadFact", "BadClaim", "normal_steps", "Row", "Form", "need_like", "highs_of", "lows_of", "taken_back", "choices", "kept_lists", "higher"] : List Str) ++ (["lower", "behind", "lists_behind", "RELATIONS", "is_relation", "is_claim", "turned", "holds", "base_of", "Joint", "rings_of", "joints_of", "joined", "joined_fit", "bend", "meeting", "blocks_of", "edges_of", "heights_of", "round_of"] : List Str) ++ (["broken", "fits", "REST", "beginnings", "spots_of", "ends_of", "indexes_of", "put_in", "stretch_of", "Search", "way_of", "sign_of", "tidy", "order_against", "is_possible", "shown", "clauses", "LETTERS", "DIGITS", "LONGEST"] : List Str) ++ (["is_name", "is_whole", "Book", "joined_books", "joined_parts", "claims_of", "KINDS", "Scales", "_law_bag", "_law_draw", "_law_ident", "_law_scales", "_law_steps", "_law_relation", "_law_tried", "_law_refused", "_law_strange"] : List Str)
section
open HandSHeadRun PySem.W PySem.Calls
theorem run1_f (w : World) (os : OsState) : (endF (stepQ (denQ tabQ) R.prog (w.withFollow "special-get-raises" false)) 100000 R.prog (w.withFollow "special-get-raises" false) os).map (fun s => looksF R.prog (boot_heap (w.withFollow "special-get-raises" false).params) s.abs) = some true := by kernel_rfl
theorem run2_f (w : World) (os : OsState) : (endF (stepQ (denQ tabQ) R.prog (w.withFollow "special-get-raises" false)) 100000 R.prog (w.withFollow "special-get-raises" false) os).map (fun s => seenQ (PySem.W.view R.prog [88]) loose (importedModules R.prog.main.body) (fun s => xlAt (PySem.W.view R.prog [88]) [] s && recOk R.toRowW.records s) s.abs) = some (openGood (PySem.W.view R.prog [88]) loose) := by kernel_rfl
theorem run3_f (w : World) (os : OsState) : (endF (stepQ (denQ tabQ) R.prog (w.withFollow "special-get-raises" false)) 100000 R.prog (w.withFollow "special-get-raises" false) os).map ob = some (hk.val (w.withFollow "special-get-raises" false)) := by kernel_rfl
theorem run_f (w : World) : HandSHeadRun.RunEq R (PySem.W.view R.prog [88]) hk ob 100000 loose (w.withFollow "special-get-raises" false) := RS.run_join (run1_f w) (run2_f w) (run3_f w)
theorem run1_t (w : World) (os : OsState) : (endF (stepQ (denQ tabQ) R.prog (w.withFollow "special-get-raises" true)) 100000 R.prog (w.withFollow "special-get-raises" true) os).map (fun s => looksF R.prog (boot_heap (w.withFollow "special-get-raises" true).params) s.abs) = some true := by kernel_rfl
theorem run2_t (w : World) (os : OsState) : (endF (stepQ (denQ tabQ) R.prog (w.withFollow "special-get-raises" true)) 100000 R.prog (w.withFollow "special-get-raises" true) os).map (fun s => seenQ (PySem.W.view R.prog [88]) loose (importedModules R.prog.main.body) (fun s => xlAt (PySem.W.view R.prog [88]) [] s && recOk R.toRowW.records s) s.abs) = some (openGood (PySem.W.view R.prog [88]) loose) := by kernel_rfl
theorem run3_t (w : World) (os : OsState) : (endF (stepQ (denQ tabQ) R.prog (w.withFollow "special-get-raises" true)) 100000 R.prog (w.withFollow "special-get-raises" true) os).map ob = some (hk.val (w.withFollow "special-get-raises" true)) := by kernel_rfl
theorem run_t (w : World) : HandSHeadRun.RunEq R (PySem.W.view R.prog [88]) hk ob 100000 loose (w.withFollow "special-get-raises" true) := RS.run_join (run1_t w) (run2_t w) (run3_t w)
end
theorem run (w : World) : HandSHeadRun.RunEq R (PySem.W.view R.prog [88]) hk ob 100000 loose w := by
  exact PySem.W.byRow2 "special-get-raises" (P := fun w => HandSHeadRun.RunEq R (PySem.W.view R.prog [88]) hk ob 100000 loose w) run_f run_t w
end Hd
theorem _root_.RS.SaysR.fact {K : Frg} (c : SaysR Hd.ex Hd.fn K) (i : Nat) {b : Frg → Bool} (h : Hd.exl[i]? = some b := by rfl) : b K = true := List.all_eq_true.mp c.more b (List.mem_of_getElem? h)
end RS

set_option maxRecDepth 100000
set_option maxHeartbeats 4000000
namespace RS.Pn
open PySem PySem.Spec PyProof.Rows L2
/-! ### the second family's source of draws: what its dict holds, and the draw's promise -/
/-- all that was tracked is as it was, but for the object at a -/
def Sav (a : Addr) (H H' : Hp) : Prop := ∀ b o, b ≠ a → H b = some o → H' b = some o
theorem Sav.refl (a : Addr) (H : Hp) : Sav a H H := fun _ _ _ h => h
theorem Sav.trans {a : Addr} {H H1 H2 : Hp} (x : Sav a H H1) (y : Sav a H1 H2) : Sav a H H2 := fun b o n h => y b o n (x b o n h)
theorem Sav.at {a b : Addr} {H H' : Hp} {o : HO} (x : Sav a H H') (n : b ≠ a) (h : H b = some o) : H' b = some o := x b o n h
theorem Sav.new {a p : Addr} {H : Hp} {o : HO} (h : H p = none) : Sav a H (upd H p o) := fun b u _ e => by rw [upd_ne (ne_of_none e h)]; exact e
theorem Sav.own {a : Addr} {H : Hp} {o : HO} : Sav a H (upd H a o) := fun b u n e => by rw [upd_ne n]; exact e
theorem Sav.free {a b : Addr} {H H' : Hp} (x : Sav a H H') (n : b ≠ a) (h : H' b = none) : H b = none := by
  cases q : H b with
  | none => rfl
  | some o => rw [x b o n q] at h; cases h
theorem Same.sav {a : Addr} {H H' : Hp} (x : Same H H') : Sav a H H' := fun b o _ h => x b o h
theorem upd_old {H : Hp} {p q : Addr} {o u : HO} (hp : H p = none) (hq : H q = some o) : upd H p u q = some o := by rw [upd_ne (ne_of_none hq hp)]; exact hq

def penD (c : Addr) (at_ rest : Int) : List (Key × V) := [(.inr "cells", .ref c), (.inr "at", .int at_), (.inr "rest", .int rest)]
theorem ne_ca : ¬ (("cells" : Str) = "at") := by decide +kernel
theorem ne_cr : ¬ (("cells" : Str) = "rest") := by decide +kernel
theorem ne_ar : ¬ (("at" : Str) = "rest") := by decide +kernel
theorem ne_ra : ¬ (("rest" : Str) = "at") := by decide +kernel
theorem pen_cells (c : Addr) (a r : Int) : valV (penD c a r) (Sum.inr "cells") = some (.ref c) := by simp [valV, penD]
theorem pen_at (c : Addr) (a r : Int) : valV (penD c a r) (Sum.inr "at") = some (.int a) := by simp [valV, penD, ne_ca]
theorem pen_rest (c : Addr) (a r : Int) : valV (penD c a r) (Sum.inr "rest") = some (.int r) := by simp [valV, penD, ne_cr, ne_ar]
theorem put_at (c : Addr) (a r z : Int) : putK (penD c a r) (Sum.inr "at") (.int z) = penD c z r := by simp [putK, penD, ne_ca, ne_ra]
theorem put_rest (c : Addr) (a r z : Int) : putK (penD c a r) (Sum.inr "rest") (.int z) = penD c a z := by simp [putK, penD, ne_cr, ne_ar]
section
variable {H : Hp} {p c : Addr} {a r z : Int}
theorem dg_cells (h : H p = some (.dK (penD c a r))) : DGet H p (.str "cells") (some (.ref c)) := by rw [← pen_cells c a r]; exact DGet.k (k := Sum.inr "cells") h
theorem dg_at (h : H p = some (.dK (penD c a r))) : DGet H p (.str "at") (some (.int a)) := by rw [← pen_at c a r]; exact DGet.k (k := Sum.inr "at") h
theorem dg_rest (h : H p = some (.dK (penD c a r))) : DGet H p (.str "rest") (some (.int r)) := by rw [← pen_rest c a r]; exact DGet.k (k := Sum.inr "rest") h
theorem dp_at (h : H p = some (.dK (penD c a r))) : DPut H p (.str "at") (.int z) (upd H p (.dK (penD c z r))) := by
  rw [← put_at c a r z]; exact DPut.k (k := Sum.inr "at") h (by show 3 < sizeLine; rw [sizeLine_eq]; decide)
theorem dp_rest (h : H p = some (.dK (penD c a r))) : DPut H p (.str "rest") (.int z) (upd H p (.dK (penD c a z))) := by
  rw [← put_rest c a r z]; exact DPut.k (k := Sum.inr "rest") h (by show 3 < sizeLine; rw [sizeLine_eq]; decide)
end
/-- a pen stands at p, good for b more draws -/
structure Pen (H : Hp) (p c : Addr) (b : Nat) : Prop where
  ex : ∃ (cs : List Int) (a r : Int), H p = some (.dK (penD c a r)) ∧ H c = some (.lst (cs.map V.int)) ∧ cs.length ≤ 63 ∧ 0 ≤ a ∧ a + b ≤ 2 ^ 60
theorem Pen.mono {H : Hp} {p c : Addr} {b b' : Nat} (x : Pen H p c b) (h : b' ≤ b) : Pen H p c b' := by
  obtain ⟨cs, a, r, h1, h2, h3, h4, h5⟩ := x.ex
  exact ⟨cs, a, r, h1, h2, h3, h4, by omega⟩
theorem Pen.dk {H : Hp} {p c : Addr} {b : Nat} (x : Pen H p c b) : ∃ kvs, H p = some (.dK kvs) := let ⟨_, _, _, h, _⟩ := x.ex; ⟨_, h⟩
/-- what stands at q is not the pen -/
theorem Pen.ne {H : Hp} {p c q : Addr} {b : Nat} {o : HO} (x : Pen H p c b) (h : H q = some o) (d : ∀ kvs, o ≠ .dK kvs) : q ≠ p := by
  obtain ⟨kvs, e⟩ := x.dk
  exact ne_of h e (d kvs)
theorem Pen.fresh_ne {H : Hp} {p c q : Addr} {b : Nat} (x : Pen H p c b) (h : H q = none) : q ≠ p := by
  obtain ⟨kvs, e⟩ := x.dk
  exact (ne_of_none e h).symm
/-- a new object beside it -/
theorem Pen.fresh_ne2 {H : Hp} {p c q : Addr} {b : Nat} (x : Pen H p c b) (h : H q = none) : q ≠ c := by
  obtain ⟨cs, a, r, h1, h2, h3, h4, h5⟩ := x.ex
  exact (ne_of_none h2 h).symm
/-- an object that is neither the pen nor its list is written -/
theorem Pen.mut {H : Hp} {p c q : Addr} {b : Nat} {o : HO} (x : Pen H p c b) (h1 : q ≠ p) (h2 : q ≠ c) : Pen (upd H q o) p c b := by
  obtain ⟨cs, a, r, e1, e2, h3, h4, h5⟩ := x.ex
  exact ⟨cs, a, r, by rw [upd_ne h1.symm]; exact e1, by rw [upd_ne h2.symm]; exact e2, h3, h4, h5⟩
theorem Pen.old {H H' : Hp} {p c : Addr} {b : Nat} (x : Pen H p c b) (k : Same H H') : Pen H' p c b := by
  obtain ⟨cs, a, r, h1, h2, h3, h4, h5⟩ := x.ex
  exact ⟨cs, a, r, k _ _ h1, k _ _ h2, h3, h4, h5⟩
theorem Same.new {H : Hp} {p : Addr} {o : HO} (h : H p = none) : Same H (upd H p o) := fun b u e => by rw [upd_ne (ne_of_none e h)]; exact e
theorem Pen.new {H : Hp} {p c q : Addr} {b : Nat} {o : HO} (x : Pen H p c b) (h : H q = none) : Pen (upd H q o) p c b := x.old (Same.new h)
def spPen (K : PySem.W.Frag) : Sp := fun vs H Q _ => ∃ (a : Addr) (ns : List Int), vs = [.ref a] ∧ SqL K H a (ns.map V.int) ∧ ∀ p c H', Same H H' → H p = none → H c = none → Pen H' p c (2 ^ 59) → Q (.ref p) H'
def spDraw : Sp := fun vs H Q _ => ∃ (p c : Addr) (m : Int) (b : Nat), vs = [.ref p, .int m] ∧ 0 < m ∧ m.natAbs.log2 < 9000 ∧ Pen H p c (b + 1) ∧
  ∀ d H', 0 ≤ d → d < m → Pen H' p c b → Sav p H H' → Q (.int d) H'
theorem dp_ints {K : PySem.W.Frag} {H : Hp} : ∀ cs : List Int, DpAll K H (cs.map V.int) (cs.map PyData.int)
  | [] => .nil
  | c :: cs => .cons (.int c) (dp_ints cs)
theorem shaped_ints (cs : List Int) : SeqAt.shaped (.list (cs.map PyData.int)) = true := PySem.W.shaped_ints cs
theorem eqv_nil (cs : List Int) : (!PyData.eqv (.list (cs.map PyData.int)) (.list [])) = !cs.isEmpty := by cases cs <;> rfl
theorem at_mod {cs : List Int} {a : Int} (h : 0 < cs.length) : ∃ z, atI (cs.map V.int) (a % (((cs.map V.int).length : Nat) : Int)) = some (.int z) := by
  rw [List.length_map]
  have h1 : 0 ≤ a % (cs.length : Int) := Int.emod_nonneg a (by omega)
  have h2 : a % (cs.length : Int) < cs.length := Int.emod_lt_of_pos a (by omega)
  generalize a % (cs.length : Int) = j at *
  obtain ⟨n, rfl⟩ : ∃ n : Nat, j = (n : Int) := ⟨j.toNat, by omega⟩
  have hn : n < cs.length := by omega
  exact ⟨cs[n], atI_nat (by rw [List.getElem?_map, List.getElem?_eq_getElem hn]; rfl)⟩
theorem mul_mod {x y m : Int} (h : 0 < m) (h2 : m < 2 ^ 64) : CMul (x % m) y := .inl ⟨by have := Int.emod_nonneg x (show m ≠ 0 by omega); omega, by have := Int.emod_lt_of_pos x h; omega⟩
theorem Same.mut {H H' : Hp} {p : Addr} {o : HO} (e : Same H H') (h : H p = none) : Same H (upd H' p o) := fun a u ha => by
  rw [upd_ne (ne_of_none ha h)]
  exact e a u ha
theorem cut63 (ns : List Int) : ∃ cs : List Int, cutV (ns.map V.int) none (some 63) = cs.map V.int ∧ cs.length ≤ 63 := by
  refine ⟨ns.take (min 63 ns.length), ?_, by rw [List.length_take]; omega⟩
  show ((ns.map V.int).drop 0).take (HT.sIx (ns.map V.int).length (ns.map V.int).length (some ((63 : Nat) : Int)) - 0) = _
  rw [HT.sIx_nat, List.drop_zero, Nat.sub_zero, List.length_map, List.map_take]
theorem ints_at {cs : List Int} {i : Nat} {x : V} (h : (cs.map V.int)[i]? = some x) : ∃ z, cs[i]? = some z ∧ x = .int z := by
  rw [List.getElem?_map] at h
  cases e : cs[i]? with
  | none => rw [e] at h; cases h
  | some z => rw [e] at h; exact ⟨z, rfl, (Option.some.inj h).symm⟩
theorem take_int {cs : List Int} {i : Nat} {z : Int} (h : cs[i]? = some z) : (cs.take (i + 1)).map V.int = (cs.take i).map V.int ++ [V.int z] := by
  rw [List.take_succ, h, List.map_append]
  rfl
theorem merge_pen (D : Addr) : mergeK [] [(Sum.inr ("cells" : Str), V.ref D), (Sum.inr "at", .int 0), (Sum.inr "rest", .int 0)] = penD D 0 0 := by
  simp [mergeK, putK, penD, ne_ca, ne_cr, ne_ar]
theorem free2 {H : Hp} {p q D : Addr} {o u : HO} (hp : H p = none) (hq : (upd H p o) q = none) (hD : (upd (upd H p o) q u) D = none) : H D = none := by
  have n1 : D ≠ q := fun z => by rw [z, upd_same] at hD; cases hD
  rw [upd_ne n1] at hD
  have n2 : D ≠ p := fun z => by rw [z, upd_same] at hD; cases hD
  rw [upd_ne n2] at hD
  exact hD
theorem mod_in {x m : Int} (h : 0 < m) : 0 ≤ x % m ∧ x % m < m := ⟨Int.emod_nonneg x (by omega), Int.emod_lt_of_pos x h⟩
end RS.Pn

set_option maxRecDepth 100000
set_option maxHeartbeats 4000000
namespace RS.Pn
open PySem PySem.Spec PyProof.Rows L2 NdefX He PySem.W
variable [Tbls]
/-! ### the pen as data -/
def penDD (cs : List Int) (a r : Int) : List (Key × D) := [(.inr "cells", .lst (cs.map .int)), (.inr "at", .int a), (.inr "rest", .int r)]
/-- a pen from which b numbers may still be drawn -/
def PenM (m : MO) (b : Nat) : Prop := ∃ (cs : List Int) (a r : Int), m = .dct (penDD cs a r) ∧ cs.length ≤ 63 ∧ 0 ≤ a ∧ a + b ≤ 2 ^ 60
theorem PenM.mono {m : MO} {b b' : Nat} (h : b' ≤ b) (x : PenM m b) : PenM m b' := by
  obtain ⟨cs, a, r, h1, h2, h3, h4⟩ := x
  exact ⟨cs, a, r, h1, h2, h3, by omega⟩
theorem PenM.pen {K : Frg} {F : Hp} {M : MS} {G H : Hp} {p : Addr} {m : MO} {b : Nat} (rep : Rep K F M G H) (e : M p = some m) (x : PenM m b) : ∃ (c : Addr) (cs : List Int), F c = some (.lst (cs.map V.int)) ∧ Pen H p c b := by
  obtain ⟨cs, a, r, rfl, h2, h3, h4⟩ := x
  obtain ⟨kvs, h1, rr⟩ := rep.dct e
  unfold penDD at rr
  cases rr with
  | cons r1 rr =>
  cases rr with
  | cons r2 rr =>
  cases rr with
  | cons r3 rr =>
  cases rr
  cases r1 with
  | lst fc rr =>
  cases r2; cases r3
  cases ints_rv rr
  exact ⟨_, cs, fc, ⟨cs, a, r, h1, rep.fz _ _ fc, h2, h3, h4⟩⟩
theorem ints_inj : ∀ {xs ys : List Int}, xs.map V.int = ys.map V.int → xs = ys
  | [], [], _ => rfl
  | [], y :: ys, h => by simp at h
  | x :: xs, [], h => by simp at h
  | x :: xs, y :: ys, h => by
    rw [List.map_cons, List.map_cons] at h
    obtain ⟨h1, h2⟩ := List.cons.inj h
    cases h1
    rw [ints_inj h2]
theorem Pen.pm {K : Frg} {F : Hp} {H : Hp} {p c : Addr} {b : Nat} {cs : List Int} (x : Pen H p c b) (fc : F c = some (.lst (cs.map V.int))) (hc : H c = some (.lst (cs.map V.int))) : ∃ m o, H p = some o ∧ RepO K F (some o) m ∧ PenM m b := by
  obtain ⟨cs', a, r, h1, h2, h3, h4, h5⟩ := x.ex
  rw [h2] at hc
  have e : cs' = cs := ints_inj (HO.lst.inj (Option.some.inj hc))
  subst e
  exact ⟨.dct (penDD cs' a r), _, h1, .cons (.lst fc (Rvs.ints cs')) (.cons (.int _) (.cons (.int _) .nil)), ⟨cs', a, r, rfl, h3, h4, h5⟩⟩
def spDrawD : SpD := fun ds M R _ => ∃ (p : Addr) (m : MO) (i : Int) (b : Nat), ds = [.ref p, .int i] ∧ 0 < i ∧ i.natAbs.log2 < 9000 ∧ M p = some m ∧ PenM m (b + 1) ∧ ∀ z m', 0 ≤ z → z < i → PenM m' b → R (.int z) (updM M p m')
def spPenD : SpD := fun ds M R _ => ∃ ns : List Int, ds = [.scr ns] ∧ ns.length ≤ 63 ∧ ∀ p m, M p = none → PenM m (2 ^ 59) → R (.ref p) (updM M p m)
theorem draw_up {K : Frg} (vs : List V) (H : Hp) (Q : VK) (E : XK) (h : upSp K spDrawD vs H Q E) : spDraw vs H Q E := by
  obtain ⟨F, M, G, ds, R, W, rv, rep, ⟨p, m, i, b, rfl, h1, h2, h3, h4, h5⟩, k, kx⟩ := h
  cases rv with
  | cons r1 rv =>
  cases rv with
  | cons r2 rv =>
  cases rv; cases r1; cases r2
  obtain ⟨c, cs, fc, pn⟩ := h4.pen rep h3
  refine ⟨p, c, i, b, rfl, h1, h2, pn, fun z H' z0 z1 pn' sv => ?_⟩
  have np : ∀ {a : Addr} {o : HO}, F a = some o → a ≠ p := fun e q => by subst q; rw [(rep.mu _ _ h3).1] at e; cases e
  have hc : H' c = some (.lst (cs.map V.int)) := sv _ _ (np fc) (rep.fz _ _ fc)
  obtain ⟨m', o, e1, ro, bm⟩ := pn'.pm (K := K) fc hc
  refine k _ _ F H' _ (h5 z m' z0 z1 bm) (L2.Same.refl F) ⟨fun a o e => sv _ _ (np e) (rep.fz _ _ e), fun a n e => ?_, fun a o e => ?_, rep.nt, rep.ng, tabs_rep rep h3 sv⟩ (.int z)
  · by_cases ha : a = p
    · subst ha
      rw [updM_same] at e
      cases e
      rw [e1]
      exact ⟨(rep.mu _ _ h3).1, (rep.mu _ _ h3).2.1, ro⟩
    · rw [updM_ne ha] at e
      obtain ⟨x, y, w⟩ := rep.mu _ _ e
      obtain ⟨u, hu⟩ := w.some
      rw [sv _ _ ha hu, ← hu]
      exact ⟨x, y, w⟩
  · have ha : a ≠ p := fun q => by subst q; rw [(rep.mu _ _ h3).2.1] at e; cases e
    exact ⟨sv _ _ ha (rep.fr _ _ e).1, (rep.fr _ _ e).2⟩
theorem pen_up {K : Frg} (vs : List V) (H : Hp) (Q : VK) (E : XK) (h : upSp K spPenD vs H Q E) : spPen K vs H Q E := by
  obtain ⟨F, M, G, ds, R, W, rv, rep, ⟨ns, rfl, h1, h2⟩, k, kx⟩ := h
  cases rv with
  | cons r1 rv =>
  cases rv
  cases r1 with
  | scr sq =>
  refine ⟨_, ns, rfl, rep.fz.seq sq, fun p c H' s hp hc pn => ?_⟩
  obtain ⟨cs, a, r, e1, e2, _⟩ := id pn.ex
  have npc : p ≠ c := ne_of e1 e2 fun z => nomatch z
  have s' : L2.Same F (upd F c (.lst (cs.map V.int))) := Same.new (rep.freeF hc)
  obtain ⟨m, o, e3, ro, bm⟩ := pn.pm (K := K) (F := upd F c (.lst (cs.map V.int))) upd_same e2
  refine k _ _ _ H' _ (h2 p m (rep.freeM hp) bm) s' ⟨fun b o e => ?_, fun b n e => ?_, fun b o e => ?_, fun b o e => ?_, rep.ng, rep.tb.ext s⟩ (.ref p)
  · by_cases hb : b = c
    · subst hb; rw [upd_same] at e; cases e; exact e2
    · rw [upd_ne hb] at e; exact s _ _ (rep.fz _ _ e)
  · by_cases hb : b = p
    · subst hb
      rw [updM_same] at e
      cases e
      rw [e3, upd_ne npc]
      exact ⟨rep.freeF hp, rep.freeG hp, ro⟩
    · rw [updM_ne hb] at e
      obtain ⟨x, y, w⟩ := rep.mu _ _ e
      obtain ⟨u, hu⟩ := w.some
      have hbc : b ≠ c := fun q => by subst q; rw [hc] at hu; cases hu
      rw [upd_ne hbc, s _ _ hu, ← hu]
      exact ⟨x, y, w.mono s'⟩
  · have hbc : b ≠ c := fun q => by subst q; rw [rep.freeG hc] at e; cases e
    rw [upd_ne hbc]
    exact ⟨s _ _ (rep.fr _ _ e).1, (rep.fr _ _ e).2⟩
  · by_cases hb : b = c
    · subst hb; rw [upd_same] at e; cases e; exact True.intro
    · rw [upd_ne hb] at e; exact rep.nt _ _ e
end RS.Pn

set_option maxRecDepth 100000
set_option maxHeartbeats 4000000
namespace RS
open PySem PySem.Spec PyProof.Rows L2 NdefX He PySem.W RZ
variable [Tbls]
/-! ### zip, enumerate -/
def zipD (xs ys : List D) : List D := (xs.zip ys).map fun p => .tup [p.1, p.2]
theorem zipD_len (xs ys : List D) : (zipD xs ys).length = min xs.length ys.length := by
  unfold zipD
  rw [List.length_map, List.length_zip]
theorem zipD_at {xs ys : List D} {i : Nat} {x y : D} (h1 : xs[i]? = some x) (h2 : ys[i]? = some y) : (zipD xs ys)[i]? = some (.tup [x, y]) := by
  unfold zipD
  rw [List.getElem?_map]
  have e : (xs.zip ys)[i]? = some (x, y) := by
    rw [List.getElem?_zip_eq_some]
    exact ⟨h1, h2⟩
  rw [e]
  rfl
def enumD : Nat → List D → List D
  | _, [] => []
  | j, x :: xs => .tup [.int j, x] :: enumD (j + 1) xs
theorem enumD_len : ∀ (xs : List D) (j : Nat), (enumD j xs).length = xs.length
  | [], _ => rfl
  | x :: xs, j => by rw [enumD, List.length_cons, List.length_cons, enumD_len xs]
theorem enumD_at : ∀ {xs : List D} {j i : Nat} {x : D}, xs[i]? = some x → (enumD j xs)[i]? = some (.tup [.int ((j + i : Nat) : Int), x])
  | [], _, _, _, h => by simp at h
  | y :: xs, j, 0, x, h => by
    simp at h
    subst h
    rfl
  | y :: xs, j, i + 1, x, h => by
    have h2 : xs[i]? = some x := by simpa using h
    have := enumD_at (j := j + 1) h2
    rw [enumD, List.getElem?_cons_succ, this]
    congr 5
    omega
section
variable {K : Frg} {G F : Hp} {a b : Addr} {vs ws : List V} {xs ys : List D}
theorem itok_zipT (r : Rvs K F vs xs) (t : Rvs K F ws ys) (ha : SqT K F a vs) (hb : SqT K F b ws) : ItOk K G (ItzT K a b) F (zipD xs ys) := fun i F' M' H s rep hi => by
  have ha' : SqT K H a vs := Same.sqT rep.fz (Same.sqT s ha)
  have hb' : SqT K H b ws := Same.sqT rep.fz (Same.sqT s hb)
  have l1 := r.len
  have l2 := t.len
  rw [zipD_len]
  refine ⟨fun e => ⟨vs, ws, ha', hb', by omega⟩, fun hlt => ?_⟩
  have e1 : vs[i]? = some (vs[i]'(by omega)) := List.getElem?_eq_getElem _
  have e2 : ws[i]? = some (ws[i]'(by omega)) := List.getElem?_eq_getElem _
  obtain ⟨d1, q1, r1⟩ := r.at e1
  obtain ⟨d2, q2, r2⟩ := t.at e2
  refine ⟨⟨vs, ws, _, _, ha', hb', e1, e2⟩, fun v H' ⟨T, x, y, hv, hT, hH, hx, hy⟩ => ?_⟩
  subst hv hH
  have h1 := hx vs ha'
  have h2 := hy ws hb'
  rw [e1] at h1
  rw [e2] at h2
  cases h1
  cases h2
  obtain ⟨rep', s'⟩ := rep.newF (o := .tup [vs[i]'(by omega), ws[i]'(by omega)]) hT
  refine ⟨_, _, s', rep', zipD_at q1 q2, .tup (SqT.of upd_same) (.cons (r1.mono (s.trans s')) (.cons (r2.mono (s.trans s')) .nil))⟩
theorem itok_zipL (r : Rvs K F vs xs) (t : Rvs K F ws ys) (ha : F a = some (.lst vs)) (hb : F b = some (.lst ws)) : ItOk K G (Itz K a b) F (zipD xs ys) := fun i F' M' H s rep hi => by
  have ha' : SqL K H a vs := SqL.of (rep.fz _ _ (s _ _ ha))
  have hb' : SqL K H b ws := SqL.of (rep.fz _ _ (s _ _ hb))
  have l1 := r.len
  have l2 := t.len
  rw [zipD_len]
  refine ⟨fun e => ⟨vs, ws, ha', hb', by omega⟩, fun hlt => ?_⟩
  have e1 : vs[i]? = some (vs[i]'(by omega)) := List.getElem?_eq_getElem _
  have e2 : ws[i]? = some (ws[i]'(by omega)) := List.getElem?_eq_getElem _
  obtain ⟨d1, q1, r1⟩ := r.at e1
  obtain ⟨d2, q2, r2⟩ := t.at e2
  refine ⟨⟨vs, ws, _, _, ha', hb', e1, e2⟩, fun v H' ⟨T, x, y, hv, hT, hH, hx, hy⟩ => ?_⟩
  subst hv hH
  have h1 := hx vs ha'
  have h2 := hy ws hb'
  rw [e1] at h1
  rw [e2] at h2
  cases h1
  cases h2
  obtain ⟨rep', s'⟩ := rep.newF (o := .tup [vs[i]'(by omega), ws[i]'(by omega)]) hT
  refine ⟨_, _, s', rep', zipD_at q1 q2, .tup (SqT.of upd_same) (.cons (r1.mono (s.trans s')) (.cons (r2.mono (s.trans s')) .nil))⟩
theorem itok_enumL (r : Rvs K F vs xs) (ha : F a = some (.lst vs)) : ItOk K G (Ite K a) F (enumD 0 xs) := fun i F' M' H s rep hi => by
  have ha' : SqL K H a vs := SqL.of (rep.fz _ _ (s _ _ ha))
  have l1 := r.len
  rw [enumD_len]
  refine ⟨fun e => ⟨vs, ha', by omega⟩, fun hlt => ?_⟩
  have e1 : vs[i]? = some (vs[i]'(by omega)) := List.getElem?_eq_getElem _
  obtain ⟨d1, q1, r1⟩ := r.at e1
  refine ⟨⟨vs, _, ha', e1⟩, fun v H' ⟨T, x, hv, hT, hH, hx⟩ => ?_⟩
  subst hv hH
  have h1 := hx vs ha'
  rw [e1] at h1
  cases h1
  obtain ⟨rep', s'⟩ := rep.newF (o := .tup [.int (i : Nat), vs[i]'(by omega)]) hT
  refine ⟨_, _, s', rep', enumD_at q1, .tup (SqT.of upd_same) (.cons ?_ (.cons (r1.mono (s.trans s')) .nil))⟩
  have : ((0 + i : Nat) : Int) = (i : Int) := by omega
  rw [this]
  exact .int _
end
section
variable {X : Cx} {E : L2.St → XK} {pos p tpos : Pos} {e e2 : Expr} {elts : List Expr} {kk : Nat} {Ta : TAD}
def dZip (T : TAD) : TID := fun τ M R W => T τ M (fun ds M1 => match ds with
  | [.tup xs, .tup ys] => R (zipD xs ys) M1
  | [.lst xs, .lst ys] => R (zipD xs ys) M1
  | _ => False) W
theorem di_zip (hm : X.mg "zip" = none) (ha : DAs X E [e, e2] Ta) (hg : Gl X "zip" := by rfl) (hs : starEach [e, e2] X.env = (false, eval e X.env) :: starEach [e2] X.env := by rfl) (hpl : (backTo pos (starEach [e2] X.env)).any (·.1) = false := by rfl) :
    DI X E (.Tuple elts kk tpos) (.Call (.Name "zip" p) [e, e2] [] pos) (dZip Ta) := by
  refine ⟨(pi_zipA hg hm ha.p hs hpl).imp fun σ H R ⟨F, M, G, τ, Rd, W, rs, rep, h, k, kx⟩ => ?_⟩
  refine ⟨F, M, G, τ, _, W, rs, rep, h, fun ds M1 F1 H1 vs q s1 rep1 r1 => ?_, kx⟩
  dsimp only at q
  split at q
  · cases r1 with
    | cons r1 r2 =>
    cases r2 with
    | cons r2 r3 =>
    cases r3
    cases r1 with
    | tup t1 v1 =>
    cases r2 with
    | tup t2 v2 =>
    exact ⟨_, _, _, _, rfl, .inr ⟨Same.sqT rep1.fz t1, Same.sqT rep1.fz t2, k _ M1 F1 H1 _ q s1 rep1 fun G' => itok_zipT v1 v2 t1 t2⟩⟩
  · cases r1 with
    | cons r1 r2 =>
    cases r2 with
    | cons r2 r3 =>
    cases r3
    cases r1 with
    | lst t1 v1 =>
    cases r2 with
    | lst t2 v2 =>
    exact ⟨_, _, _, _, rfl, .inl ⟨SqL.of (rep1.fz _ _ t1), SqL.of (rep1.fz _ _ t2), k _ M1 F1 H1 _ q s1 rep1 fun G' => itok_zipL v1 v2 t1 t2⟩⟩
  · exact q.elim
def dEnum (T : TAD) : TID := fun τ M R W => T τ M (fun ds M1 => match ds with
  | [.lst xs] => R (enumD 0 xs) M1
  | _ => False) W
theorem di_enum (hm : X.mg "enumerate" = none) (ha : DAs X E [e] Ta) (hg : Gl X "enumerate" := by rfl) (hs : starEach [e] X.env = [(false, eval e X.env)] := by rfl) :
    DI X E (.Tuple elts kk tpos) (.Call (.Name "enumerate" p) [e] [] pos) (dEnum Ta) := by
  refine ⟨(pi_enum hg hm ha.p hs).imp fun σ H R ⟨F, M, G, τ, Rd, W, rs, rep, h, k, kx⟩ => ?_⟩
  refine ⟨F, M, G, τ, _, W, rs, rep, h, fun ds M1 F1 H1 vs q s1 rep1 r1 => ?_, kx⟩
  dsimp only at q
  split at q
  · cases r1 with
    | cons r1 r2 =>
    cases r2
    cases r1 with
    | lst t1 v1 =>
    exact ⟨_, _, rfl, SqL.of (rep1.fz _ _ t1), k _ M1 F1 H1 _ q s1 rep1 fun G' => itok_enumL v1 t1⟩
  · exact q.elim
end
end RS

set_option maxRecDepth 100000
set_option maxHeartbeats 4000000
namespace RS
open PySem PySem.Spec PyProof.Rows L2 NdefX He PySem.W
open scoped Rat
variable [Tbls]
/-! ### numbers of the line -/
def nG (a b : Int) : Int := ((Int.gcd a b : Nat) : Int)
def nP (a b : Int) : Int := if b < 0 then -nG a b else nG a b
theorem nG_pos {a b : Int} (h : b ≠ 0) : 0 < nG a b := by
  unfold nG
  have : 0 < Int.gcd a b := Int.gcd_pos_of_ne_zero_right a h
  omega
theorem nP_ne {a b : Int} (h : b ≠ 0) : nP a b ≠ 0 := by
  unfold nP
  have := nG_pos (a := a) h
  split <;> omega
theorem nP_abs (a b : Int) : (nP a b).natAbs = Int.gcd a b := by
  unfold nP nG
  split <;> simp
theorem nP_le {a b : Int} (h : b ≠ 0) : (nP a b).natAbs ≤ b.natAbs := by
  rw [nP_abs]
  exact Nat.le_of_dvd (by omega) (by rw [Int.gcd_eq_natAbs_gcd_natAbs]; exact Nat.gcd_dvd_right _ _)
theorem gcd_step (x y : Nat) : Int.gcd (y : Int) ((x : Int) % (y : Int)) = Int.gcd (x : Int) (y : Int) := by
  rw [← Int.natCast_emod, Int.gcd_natCast_natCast, Int.gcd_natCast_natCast, Nat.gcd_comm y, ← Nat.gcd_rec, Nat.gcd_comm]
theorem abs_if (i : Int) : (if i < 0 then -i else i) = (i.natAbs : Int) := by split <;> omega
/-- x is of fewer than k bits -/
def Bd (k : Nat) (x : Int) : Prop := x.natAbs < 2 ^ k
theorem Bd.mono {k j : Nat} {x : Int} (h : Bd k x) (hk : k ≤ j) : Bd j x := Nat.lt_of_lt_of_le h (Nat.pow_le_pow_right (by decide) hk)
theorem Bd.mul {k j : Nat} {x y : Int} (h : Bd k x) (h2 : Bd j y) : Bd (k + j) (x * y) := wide_lt h h2
theorem Bd.add {k : Nat} {x y : Int} (h : Bd k x) (h2 : Bd k y) : Bd (k + 1) (x + y) := by
  unfold Bd at *
  rw [Nat.pow_succ]
  omega
theorem Bd.sub {k : Nat} {x y : Int} (h : Bd k x) (h2 : Bd k y) : Bd (k + 1) (x - y) := by
  unfold Bd at *
  rw [Nat.pow_succ]
  omega
theorem Bd.neg {k : Nat} {x : Int} (h : Bd k x) : Bd k (-x) := by
  unfold Bd at *
  omega
theorem Bd.w {k j : Nat} {x y : Int} (h : Bd k x) (h2 : Bd j y) (h3 : k ≤ 100000) (h4 : j ≤ 100000) : IntMulOk x y := CMulW.ok (wide_mul (a := k + 1) (b := j + 1) (h.mono (by omega)) (h2.mono (by omega)) (by omega) (by omega) (by omega))
theorem Bd.log {k : Nat} {x : Int} (h : Bd k x) (h9 : k ≤ 8000) : x.natAbs.log2 < 9000 := Nat.lt_of_lt_of_le (PySem.Flt.log2_lt_of (k := k + 1) (by omega) (h.mono (by omega))) (by omega)
theorem Bd.le {k : Nat} {x y : Int} (h : Bd k x) (hy : y.natAbs ≤ x.natAbs) : Bd k y := Nat.lt_of_le_of_lt hy h
theorem bd_of {k n : Nat} {x : Int} (h : x.natAbs ≤ n) (hn : Nat.blt n (2 ^ k) = true) : Bd k x := Nat.lt_of_le_of_lt h (Nat.blt_eq.mp hn)
/-- a number as data -/
def qN (r : Rat) : D := .tup [.int r.num, .int (r.den : Int)]
/-- its size -/
def Sz (k : Nat) (r : Rat) : Prop := Bd k r.num ∧ Bd k (r.den : Int)
theorem Sz.mono {k j : Nat} {r : Rat} (h : Sz k r) (hk : k ≤ j) : Sz j r := ⟨h.1.mono hk, h.2.mono hk⟩
theorem dEqB_qN (a b : Rat) : dEqB (qN a) (qN b) = decide (a = b) := by
  show dEqB (Dt.d ((a.num, (a.den : Int)) : Int × Int)) (Dt.d ((b.num, (b.den : Int)) : Int × Int)) = _
  rw [dEqB_d]
  refine decide_eq_decide.mpr ⟨fun e => ?_, fun e => by rw [e]⟩
  rw [Prod.mk.injEq] at e
  exact Rat.ext e.1 (by omega)
theorem fdiv_dvd {a b : Int} (h : b ∣ a) : a.fdiv b = a / b := by
  rw [Int.fdiv_eq_ediv_of_dvd h]
theorem num_of {top low : Int} (h : low ≠ 0) : top.fdiv (nP top low) = (top /. low).num ∧ low.fdiv (nP top low) = ((top /. low).den : Int) := by
  have g := Int.gcd_pos_of_ne_zero_right top h
  have d1 : ((Int.gcd top low : Nat) : Int) ∣ top := Int.gcd_dvd_left ..
  have d2 : ((Int.gcd top low : Nat) : Int) ∣ low := Int.gcd_dvd_right ..
  rw [Rat.num_divInt, Rat.den_divInt, if_neg h, Int.gcd_comm low top]
  unfold nP nG
  by_cases hl : low < 0
  · rw [if_pos hl]
    have n1 : (-((Int.gcd top low : Nat) : Int)) ∣ top := Int.neg_dvd.mpr d1
    have n2 : (-((Int.gcd top low : Nat) : Int)) ∣ low := Int.neg_dvd.mpr d2
    rw [fdiv_dvd n1, fdiv_dvd n2, Int.ediv_neg, Int.ediv_neg, Int.sign_eq_neg_one_of_neg hl]
    constructor
    · rw [Int.neg_mul, Int.one_mul, Int.neg_ediv_of_dvd d1]
    · rw [Int.natCast_ediv, ← Int.neg_ediv_of_dvd d2]
      congr 1
      omega
  · rw [if_neg hl]
    rw [fdiv_dvd d1, fdiv_dvd d2, Int.sign_eq_one_of_pos (by omega)]
    constructor
    · rw [Int.one_mul]
    · rw [Int.natCast_ediv]
      congr 1
      omega
theorem Sz.of {k : Nat} {top low : Int} (h : low ≠ 0) (h1 : Bd k top) (h2 : Bd k low) : Sz k (top /. low) := by
  have g : 0 < Int.gcd top low := Int.gcd_pos_of_ne_zero_right top h
  constructor
  · refine h1.le ?_
    rw [Rat.num_divInt, Int.gcd_comm low top]
    have d1 : ((Int.gcd top low : Nat) : Int) ∣ low.sign * top := Int.dvd_mul_of_dvd_right (Int.gcd_dvd_left ..)
    rw [Int.natAbs_ediv_of_dvd d1, Int.natAbs_mul]
    refine Nat.le_trans (Nat.div_le_self _ _) ?_
    rw [Int.natAbs_sign_of_ne_zero h]
    omega
  · refine h2.le ?_
    rw [Rat.den_divInt, if_neg h]
    simp only [Int.natAbs_natCast]
    exact Nat.div_le_self _ _
theorem den_ne (r : Rat) : ((r.den : Int)) ≠ 0 := by have := r.den_pos; omega
theorem den_ne2 (a b : Rat) : (a.den : Int) * (b.den : Int) ≠ 0 := Int.mul_ne_zero (den_ne a) (den_ne b)
theorem q_add (a b : Rat) : (a.num * b.den + b.num * a.den) /. ((a.den : Int) * b.den) = a + b := by
  rw [Rat.add_def', ← Int.natCast_mul, Rat.divInt_ofNat]
theorem q_sub (a b : Rat) : (a.num * b.den - b.num * a.den) /. ((a.den : Int) * b.den) = a - b := by
  rw [Rat.sub_def', ← Int.natCast_mul, Rat.divInt_ofNat]
theorem q_mul (a b : Rat) : (a.num * b.num) /. ((a.den : Int) * b.den) = a * b := by
  rw [Rat.mul_def', ← Int.natCast_mul, Rat.divInt_ofNat]
theorem q_div (a b : Rat) : (a.num * b.den) /. ((a.den : Int) * b.num) = a / b := by
  rw [Rat.div_def, Rat.inv_def, ← Rat.divInt_mul_divInt, Rat.num_divInt_den]
theorem Sz.add {k j : Nat} {a b : Rat} (x : Sz k a) (y : Sz j b) : Sz (k + j + 1) (a + b) := by
  rw [← q_add]
  refine Sz.of (den_ne2 a b) ?_ ?_
  · exact Bd.add (x.1.mul y.2) ((y.1.mul x.2).mono (by omega))
  · exact (x.2.mul y.2).mono (by omega)
theorem Sz.sub {k j : Nat} {a b : Rat} (x : Sz k a) (y : Sz j b) : Sz (k + j + 1) (a - b) := by
  rw [← q_sub]
  refine Sz.of (den_ne2 a b) ?_ ?_
  · exact Bd.sub (x.1.mul y.2) ((y.1.mul x.2).mono (by omega))
  · exact (x.2.mul y.2).mono (by omega)
theorem Sz.mul {k j : Nat} {a b : Rat} (x : Sz k a) (y : Sz j b) : Sz (k + j) (a * b) := by
  rw [← q_mul]
  exact Sz.of (den_ne2 a b) (x.1.mul y.1) (x.2.mul y.2)
theorem num_ne {b : Rat} (h : b ≠ 0) : b.num ≠ 0 := fun z => h (Rat.num_eq_zero.mp z)
theorem Sz.div {k j : Nat} {a b : Rat} (h : b ≠ 0) (x : Sz k a) (y : Sz j b) : Sz (k + j) (a / b) := by
  rw [← q_div]
  exact Sz.of (Int.mul_ne_zero (den_ne a) (num_ne h)) (x.1.mul y.2) (x.2.mul y.1)
theorem Sz.int {k : Nat} {i : Int} (h : Bd k i) (h0 : 1 ≤ k) : Sz k (i : Rat) := ⟨h, by
  show Bd k (((i : Rat).den : Nat) : Int)
  rw [Rat.den_intCast]
  exact Nat.lt_of_lt_of_le (show 1 < 2 ^ 1 by decide) (Nat.pow_le_pow_right (by decide) h0)⟩
theorem qN_int (i : Int) : qN (i : Rat) = .tup [.int i, .int 1] := rfl
theorem lt_iff' (a b : Rat) : a < b ↔ a.num * b.den < b.num * a.den := Rat.lt_iff a b
/-- cross sums -/
theorem cross_lt (a b : Rat) : decide (a.num * (b.den : Int) < b.num * (a.den : Int)) = decide (a < b) := decide_eq_decide.mpr (lt_iff' a b).symm
theorem Rt.lt_asymm {a b : Rat} (h : a < b) : ¬ b < a := fun z => Rat.not_le.mpr h (Rat.le_of_lt z)
/-- the sign of the difference -/
def sgQ (a b : Rat) : Int := (if b < a then 1 else 0) - (if a < b then 1 else 0)
theorem sgQ_lt {a b : Rat} (h : a < b) : sgQ a b = -1 := by
  unfold sgQ
  rw [if_pos h, if_neg (Rt.lt_asymm h)]
  rfl
theorem sgQ_neg (a b : Rat) : decide (sgQ a b < 0) = decide (a < b) := by
  refine decide_eq_decide.mpr ?_
  unfold sgQ
  by_cases h : a < b
  · rw [if_pos h, if_neg (Rt.lt_asymm h)]
    exact ⟨fun _ => h, fun _ => by decide⟩
  · rw [if_neg h]
    refine ⟨fun z => ?_, fun z => (h z).elim⟩
    split at z <;> omega
end RS

set_option maxRecDepth 100000
set_option maxHeartbeats 4000000
namespace RS
open PySem PySem.Spec PyProof.Rows L2 NdefX He PySem.W
variable [Tbls]
/-! ### rays and what leads along them -/
structure Ray where
  low : Option Rat
  high : Option Rat
  way : Int
  cs : List (Rat × Rat)
def oN : Option Rat → D
  | none => .non
  | some r => qN r
def cD (c : Rat × Rat) : D := .tup [qN c.1, qN c.2]
/-- as told; as kept -/
def rayG (r : Ray) : D := .tup [oN r.low, oN r.high, .int r.way, .lst (r.cs.map cD)]
def rayD (r : Ray) : D := .tup [oN r.low, oN r.high, .int r.way, .tup (r.cs.map cD)]
def AscQ : List (Rat × Rat) → Prop
  | a :: b :: r => a.1 < b.1 ∧ a.2 < b.2 ∧ AscQ (b :: r)
  | _ => True
def fstC (r : Ray) : Rat × Rat := r.cs.head?.getD (0, 0)
def lstC (r : Ray) : Rat × Rat := r.cs.getLast?.getD (0, 0)
structure RayOK (r : Ray) : Prop where
  way : r.way = 1 ∨ r.way = -1
  ne : r.cs ≠ []
  few : r.cs.length ≤ 100
  asc : AscQ r.cs
  lo : ∀ x, r.low = some x → x < (fstC r).2
  hi : ∀ x, r.high = some x → (lstC r).2 < x
  szc : ∀ c ∈ r.cs, Sz 110 c.1 ∧ Sz 110 c.2
  szl : ∀ x, r.low = some x → Sz 110 x
  szh : ∀ x, r.high = some x → Sz 110 x
theorem fst_mem {r : Ray} (h : r.cs ≠ []) : fstC r ∈ r.cs := by
  unfold fstC
  cases e : r.cs with
  | nil => exact absurd e h
  | cons a b => simp
theorem lst_mem {r : Ray} (h : r.cs ≠ []) : lstC r ∈ r.cs := by
  unfold lstC
  rw [List.getLast?_eq_some_getLast h]
  exact List.getLast_mem h
theorem atD_fst {r : Ray} (h : r.cs ≠ []) : atD (r.cs.map cD) 0 = some (cD (fstC r)) := by
  unfold fstC
  cases e : r.cs with
  | nil => exact absurd e h
  | cons a b => exact atD_0
theorem atD_lst {r : Ray} (h : r.cs ≠ []) : atD (r.cs.map cD) (-1) = some (cD (lstC r)) := by
  unfold lstC
  obtain ⟨a, b, e⟩ : ∃ a b, r.cs = a ++ [b] := ⟨_, _, (List.dropLast_concat_getLast h).symm⟩
  rw [e, List.map_append, List.getLast?_concat]
  exact atD_last
def interC : List (Rat × Rat) → Rat → Option Rat
  | a :: b :: r, t => if b.1 < t then interC (b :: r) t else some (a.2 + (t - a.1) * ((b.2 - a.2) / (b.1 - a.1)))
  | _, _ => none
def interP : List (Rat × Rat) → Rat → Option Rat
  | a :: b :: r, t => if b.2 < t then interP (b :: r) t else some (a.1 + (t - a.2) * ((b.1 - a.1) / (b.2 - a.2)))
  | _, _ => none
def placeAt (r : Ray) (t : Rat) : Rat :=
  if t < (lstC r).1 then
    (if (fstC r).1 < t then (interC r.cs t).getD (lstC r).2
    else match r.low with
      | none => (fstC r).2 - ((fstC r).1 - t)
      | some lo => lo + ((fstC r).2 - lo) / (1 + ((fstC r).1 - t)))
  else match r.high with
    | none => (lstC r).2 + (t - (lstC r).1)
    | some h => h - (h - (lstC r).2) / (1 + (t - (lstC r).1))
def clockAt (r : Ray) (p : Rat) : Rat :=
  if p < (lstC r).2 then
    (if (fstC r).2 < p then (interP r.cs p).getD (lstC r).1
    else match r.low with
      | none => (fstC r).1 - ((fstC r).2 - p)
      | some lo => ((fstC r).1 + 1) - ((fstC r).2 - lo) / (p - lo))
  else match r.high with
    | none => (lstC r).1 + (p - (lstC r).2)
    | some h => ((lstC r).1 - 1) + (h - (lstC r).2) / (h - p)
def onB (r : Ray) (p : Rat) : Bool := (match r.low with
  | none => true
  | some x => decide (x < p)) && (match r.high with
  | none => true
  | some x => decide (p < x))
def powQ : List Ray → Rat → Int → Rat
  | [], x, _ => x
  | r :: rs, x, n => if onB r x = true then (if n = 0 then x else placeAt r (clockAt r x + ((r.way * n : Int) : Rat))) else powQ rs x n
def abvB (r b : Ray) : Bool := match b.high, r.low with
  | some h, some l => !decide (l < h)
  | _, _ => false
/-- rays one above the other -/
def ChainR : List Ray → Prop
  | a :: b :: r => abvB b a = true ∧ ChainR (b :: r)
  | _ => True
theorem onB_lo {r : Ray} {p x : Rat} (h : onB r p = true) (e : r.low = some x) : x < p := by
  unfold onB at h
  rw [e] at h
  exact of_decide_eq_true (ba h).1
theorem onB_hi {r : Ray} {p x : Rat} (h : onB r p = true) (e : r.high = some x) : p < x := by
  unfold onB at h
  rw [e] at h
  exact of_decide_eq_true (ba h).2
theorem sub_ne {a b : Rat} (h : a < b) : b - a ≠ 0 := fun z => by
  have := (Rat.lt_iff_sub_pos a b).mp h
  rw [z] at this
  exact Rat.lt_irrefl this
theorem one_ne {a b : Rat} (h : ¬ b < a) : 1 + (b - a) ≠ 0 := fun z => by grind
theorem sz_one : Sz 1 (1 : Rat) := ⟨by show (1 : Int).natAbs < 2; decide, by show (1 : Int).natAbs < 2; decide⟩
theorem Sz.ge1 {k : Nat} {r : Rat} (h : Sz k r) : 1 ≤ k := by
  have h1 := h.2
  unfold Bd at h1
  have := r.den_pos
  rcases Nat.eq_zero_or_pos k with z | z
  · subst z
    simp at h1
    omega
  · exact z
theorem interC_sz {k : Nat} {t : Rat} (ht : Sz k t) : ∀ {cs : List (Rat × Rat)} {x : Rat}, (∀ c ∈ cs, Sz 110 c.1 ∧ Sz 110 c.2) → AscQ cs → interC cs t = some x → Sz (k + 700) x
  | a :: b :: r, x, h, ha, e => by
    obtain ⟨a1, a2⟩ := h a (by simp)
    obtain ⟨b1, b2⟩ := h b (by simp)
    unfold interC at e
    split at e
    · exact interC_sz ht (fun c hc => h c (List.mem_cons_of_mem _ hc)) ha.2.2 e
    · cases e
      exact (a2.add ((ht.sub a1).mul (Sz.div (sub_ne ha.1) (b2.sub a2) (b1.sub a1)))).mono (by omega)
  | [], _, _, _, e => by cases e
  | [_], _, _, _, e => by cases e
theorem interP_sz {k : Nat} {t : Rat} (ht : Sz k t) : ∀ {cs : List (Rat × Rat)} {x : Rat}, (∀ c ∈ cs, Sz 110 c.1 ∧ Sz 110 c.2) → AscQ cs → interP cs t = some x → Sz (k + 700) x
  | a :: b :: r, x, h, ha, e => by
    obtain ⟨a1, a2⟩ := h a (by simp)
    obtain ⟨b1, b2⟩ := h b (by simp)
    unfold interP at e
    split at e
    · exact interP_sz ht (fun c hc => h c (List.mem_cons_of_mem _ hc)) ha.2.2 e
    · cases e
      exact (a1.add ((ht.sub a2).mul (Sz.div (sub_ne ha.2.1) (b1.sub a1) (b2.sub a2)))).mono (by omega)
  | [], _, _, _, e => by cases e
  | [_], _, _, _, e => by cases e
theorem placeAt_sz {r : Ray} (o : RayOK r) {k : Nat} {t : Rat} (ht : Sz k t) : Sz (k + 700) (placeAt r t) := by
  obtain ⟨f1, f2⟩ := o.szc _ (fst_mem o.ne)
  obtain ⟨l1, l2⟩ := o.szc _ (lst_mem o.ne)
  unfold placeAt
  split
  · split
    · cases e : interC r.cs t with
      | none => exact l2.mono (by omega)
      | some x => exact interC_sz ht o.szc o.asc e
    · rename_i h1 h2
      cases e : r.low with
      | none => exact (f2.sub (f1.sub ht)).mono (by omega)
      | some lo => exact ((o.szl _ e).add (Sz.div (one_ne h2) (f2.sub (o.szl _ e)) (sz_one.add (f1.sub ht)))).mono (by omega)
  · rename_i h1
    cases e : r.high with
    | none => exact (l2.add (ht.sub l1)).mono (by omega)
    | some hi => exact ((o.szh _ e).sub (Sz.div (one_ne h1) ((o.szh _ e).sub l2) (sz_one.add (ht.sub l1)))).mono (by omega)
theorem clockAt_sz {r : Ray} (o : RayOK r) {k : Nat} {p : Rat} (hp : Sz k p) (on : onB r p = true) : Sz (k + 700) (clockAt r p) := by
  obtain ⟨f1, f2⟩ := o.szc _ (fst_mem o.ne)
  obtain ⟨l1, l2⟩ := o.szc _ (lst_mem o.ne)
  unfold clockAt
  split
  · split
    · cases e : interP r.cs p with
      | none => exact l1.mono (by omega)
      | some x => exact interP_sz hp o.szc o.asc e
    · rename_i h1 h2
      cases e : r.low with
      | none => exact (f1.sub (f2.sub hp)).mono (by omega)
      | some lo => exact ((f1.add sz_one).sub (Sz.div (sub_ne (onB_lo on e)) (f2.sub (o.szl _ e)) (hp.sub (o.szl _ e)))).mono (by omega)
  · rename_i h1
    cases e : r.high with
    | none => exact (l1.add (hp.sub l2)).mono (by omega)
    | some hi => exact ((l1.sub sz_one).add (Sz.div (sub_ne (onB_hi on e)) ((o.szh _ e).sub l2) ((o.szh _ e).sub hp))).mono (by omega)
theorem way_bd {r : Ray} (o : RayOK r) {n : Int} (h : Bd 140 n) : Bd 140 (r.way * n) := by
  rcases o.way with e | e
  · rw [e, Int.one_mul]
    exact h
  · rw [e, Int.neg_mul, Int.one_mul]
    exact h.neg
theorem powQ_sz {k : Nat} {x : Rat} (hx : Sz k x) {n : Int} (hn : Bd 140 n) : ∀ {rs : List Ray}, (∀ r ∈ rs, RayOK r) → Sz (k + 1600) (powQ rs x n)
  | [], _ => hx.mono (by omega)
  | r :: rs, h => by
    unfold powQ
    split
    · split
      · exact hx.mono (by omega)
      · rename_i on _
        have o := h r (by simp)
        exact (placeAt_sz o ((clockAt_sz o hx on).add (Sz.int (way_bd o hn) (by omega)))).mono (by omega)
    · exact powQ_sz hx hn fun r hr => h r (List.mem_cons_of_mem _ hr)
theorem dIte_fe {b : Bool} {p q : Prop} (e : b = false) (h : q) : dIte b p q := ⟨fun z => (by rw [e] at z; cases z), fun _ => h⟩
theorem dIte_te {b : Bool} {p q : Prop} (e : b = true) (h : p) : dIte b p q := ⟨fun _ => h, fun z => (by rw [e] at z; cases z)⟩
theorem ChainR.at_ : ∀ {r1 r2 : List Ray} {b x : Ray}, ChainR (r1 ++ b :: x :: r2) → abvB x b = true
  | [], _, _, _, h => h.1
  | [_], _, _, _, h => (ChainR.at_ (r1 := []) h.2)
  | _ :: a :: r1, _, _, _, h => ChainR.at_ (r1 := a :: r1) h.2
def kndQ : List Ray → List Str
  | [⟨none, none, w, _⟩] => if w = 1 then ["free", "rising"] else ["free", "falling"]
  | _ => ["free"]
theorem q_share (x y z : Rat) : Rat.divInt (x.num * y.num * z.den) ((x.den : Int) * y.den * z.num) = x * y / z := by
  rw [← Rat.divInt_mul_divInt, q_mul, Rat.div_def, Rat.inv_def]
theorem way_pd : ∀ d ∈ [D.int 1, D.int (-1)], PD 63 d := fun d hd => by
  rcases List.mem_cons.mp hd with rfl | hd
  · trivial
  · rw [List.mem_singleton.mp hd]
    trivial
theorem way_in {w : Int} (h : w = 1 ∨ w = -1) : inB (.int w) [.int 1, .int (-1)] = true := by
  rcases h with rfl | rfl <;> rfl
def curD (C : Addr) (rs : List Ray) : D := .ins C [("rays", .tup (rs.map rayD))]
theorem cut_1 {xs : List D} : cutD xs (some 1) none = xs.drop 1 := cut_from (i := 1) rfl
theorem zip_cons (a b : Rat × Rat) (r : List (Rat × Rat)) : zipD ((a :: b :: r).map cD) (((a :: b :: r).drop 1).map cD) = .tup [cD a, cD b] :: zipD ((b :: r).map cD) (((b :: r).drop 1).map cD) := rfl
end RS

set_option maxRecDepth 100000
set_option maxHeartbeats 4000000
namespace RS
variable [Tbls]
/-! ### plain laws of rays: order kept, a power behind a power -/
theorem lin_inv {x y dx dy : Rat} (h1 : dx ≠ 0) (h2 : dy ≠ 0) (h : y = x * (dy / dx)) : y * (dx / dy) = x := by
  subst h
  grind
theorem lin_pos {x dx dy : Rat} (h0 : 0 < x) (h1 : 0 < dx) (h2 : 0 < dy) : 0 < x * (dy / dx) := Rat.mul_pos h0 (by rw [Rat.div_def]; exact Rat.mul_pos h2 (Rat.inv_pos.mpr h1))
theorem div_pos {a b : Rat} (h1 : 0 < a) (h2 : 0 < b) : 0 < a / b := by rw [Rat.div_def]; exact Rat.mul_pos h1 (Rat.inv_pos.mpr h2)
theorem lin_le {x dx dy : Rat} (h0 : x ≤ dx) (h1 : 0 < dx) (h2 : 0 < dy) : x * (dy / dx) ≤ dy := by
  have h3 := Rat.mul_le_mul_of_nonneg_right h0 (Rat.le_of_lt (div_pos h2 h1))
  have h4 : dx * (dy / dx) = dy := by
    have : dx ≠ 0 := (Rat.ne_of_lt h1).symm
    grind
  rw [h4] at h3
  exact h3
theorem lin_lt {x y dx dy : Rat} (h : x < y) (h1 : 0 < dx) (h2 : 0 < dy) : x * (dy / dx) < y * (dy / dx) := (Rat.mul_lt_mul_right (div_pos h2 h1)).mpr h
theorem sub_pos' {a b : Rat} (h : a < b) : 0 < b - a := (Rat.lt_iff_sub_pos a b).mp h
def lastC : Rat × Rat → List (Rat × Rat) → Rat × Rat
  | a, [] => a
  | _, b :: r => lastC b r
theorem lastC_cons (a b : Rat × Rat) (r : List (Rat × Rat)) : lastC a (b :: r) = lastC b r := rfl
theorem last_ge : ∀ (a : Rat × Rat) (cs : List (Rat × Rat)), AscQ (a :: cs) → a.1 ≤ (lastC a cs).1 ∧ a.2 ≤ (lastC a cs).2
  | a, [], _ => ⟨Rat.le_refl, Rat.le_refl⟩
  | a, b :: r, h => by
    obtain ⟨h1, h2⟩ := last_ge b r h.2.2
    have h3 := h.1
    have h4 := h.2.1
    rw [lastC_cons]
    constructor <;> grind
theorem interC_spec : ∀ (cs : List (Rat × Rat)) (a : Rat × Rat) (t : Rat), AscQ (a :: cs) → a.1 < t → t ≤ (lastC a cs).1 → ∃ v, interC (a :: cs) t = some v ∧ a.2 < v ∧ v ≤ (lastC a cs).2 ∧ interP (a :: cs) v = some t
  | [], a, t, _, h1, h2 => by
    have : t ≤ a.1 := h2
    grind
  | b :: r, a, t, h, h1, h2 => by
    have d1 := sub_pos' h.1
    have d2 := sub_pos' h.2.1
    rw [lastC_cons] at h2 ⊢
    unfold interC interP
    by_cases hb : b.1 < t
    · obtain ⟨v, e1, e2, e3, e4⟩ := interC_spec r b t h.2.2 hb h2
      have h3 := h.2.1
      refine ⟨v, by rw [if_pos hb]; exact e1, by grind, e3, by rw [if_pos e2]; exact e4⟩
    · have hl := (last_ge b r h.2.2).2
      have p0 := sub_pos' h1
      have p1 := lin_pos p0 d1 d2
      have p2 : (t - a.1) * ((b.2 - a.2) / (b.1 - a.1)) ≤ b.2 - a.2 := lin_le (by grind) d1 d2
      refine ⟨a.2 + (t - a.1) * ((b.2 - a.2) / (b.1 - a.1)), by rw [if_neg hb], by grind, by grind, ?_⟩
      rw [if_neg (by grind)]
      have e := lin_inv (x := t - a.1) (y := a.2 + (t - a.1) * ((b.2 - a.2) / (b.1 - a.1)) - a.2) (Rat.ne_of_gt d1) (Rat.ne_of_gt d2) (by grind)
      rw [e]
      congr 1
      grind
theorem interC_mono : ∀ (cs : List (Rat × Rat)) (a : Rat × Rat) (t u v w : Rat), AscQ (a :: cs) → a.1 < t → t < u → u ≤ (lastC a cs).1 → interC (a :: cs) t = some v → interC (a :: cs) u = some w → v < w
  | [], a, t, u, v, w, _, h1, h2, h3, _, _ => by
    have : u ≤ a.1 := h3
    grind
  | b :: r, a, t, u, v, w, h, h1, h2, h3, e1, e2 => by
    have d1 := sub_pos' h.1
    have d2 := sub_pos' h.2.1
    rw [lastC_cons] at h3
    unfold interC at e1 e2
    by_cases hb : b.1 < t
    · rw [if_pos hb] at e1
      rw [if_pos (by grind)] at e2
      exact interC_mono r b t u v w h.2.2 hb h2 h3 e1 e2
    · rw [if_neg hb] at e1
      have p2 : (t - a.1) * ((b.2 - a.2) / (b.1 - a.1)) ≤ b.2 - a.2 := lin_le (by grind) d1 d2
      by_cases hu : b.1 < u
      · rw [if_pos hu] at e2
        obtain ⟨w', q1, q2, q3, q4⟩ := interC_spec r b u h.2.2 hu h3
        rw [e2] at q1
        cases q1
        cases e1
        grind
      · rw [if_neg hu] at e2
        cases e1
        cases e2
        have := lin_lt (x := t - a.1) (y := u - a.1) (by grind) d1 d2
        grind
/-! the other way round by exchanging the two -/
def swp (c : Rat × Rat) : Rat × Rat := (c.2, c.1)
theorem swp_asc : ∀ {cs : List (Rat × Rat)}, AscQ cs → AscQ (cs.map swp)
  | [], _ => trivial
  | [_], _ => trivial
  | a :: b :: r, h => ⟨h.2.1, h.1, swp_asc (cs := b :: r) h.2.2⟩
theorem swp_C : ∀ (cs : List (Rat × Rat)) (t : Rat), interC (cs.map swp) t = interP cs t
  | [], _ => rfl
  | [_], _ => rfl
  | a :: b :: r, t => by
    show (if b.2 < t then interC ((b :: r).map swp) t else _) = _
    rw [swp_C (b :: r) t]
    rfl
theorem swp_P : ∀ (cs : List (Rat × Rat)) (t : Rat), interP (cs.map swp) t = interC cs t
  | [], _ => rfl
  | [_], _ => rfl
  | a :: b :: r, t => by
    show (if b.1 < t then interP ((b :: r).map swp) t else _) = _
    rw [swp_P (b :: r) t]
    rfl
theorem swp_last : ∀ (a : Rat × Rat) (cs : List (Rat × Rat)), lastC (swp a) (cs.map swp) = swp (lastC a cs)
  | a, [] => rfl
  | a, b :: r => by
    rw [List.map_cons, lastC_cons, lastC_cons]
    exact swp_last b r
theorem interP_spec (cs : List (Rat × Rat)) (a : Rat × Rat) (p : Rat) (h : AscQ (a :: cs)) (h1 : a.2 < p) (h2 : p ≤ (lastC a cs).2) : ∃ t, interP (a :: cs) p = some t ∧ a.1 < t ∧ t ≤ (lastC a cs).1 ∧ interC (a :: cs) t = some p := by
  obtain ⟨v, e1, e2, e3, e4⟩ := interC_spec (cs.map swp) (swp a) p (swp_asc h) h1 (by rw [swp_last]; exact h2)
  rw [swp_last] at e3
  rw [← List.map_cons, swp_C] at e1
  rw [← List.map_cons, swp_P] at e4
  exact ⟨v, e1, e2, e3, e4⟩
/-! the ends of a ray -/
def Lf (lo : Option Rat) (f : Rat × Rat) (t : Rat) : Rat := match lo with
  | none => f.2 - (f.1 - t)
  | some x => x + (f.2 - x) / (1 + (f.1 - t))
def Hf (hi : Option Rat) (l : Rat × Rat) (t : Rat) : Rat := match hi with
  | none => l.2 + (t - l.1)
  | some h => h - (h - l.2) / (1 + (t - l.1))
theorem div_le_self {a d : Rat} (h0 : 0 ≤ a) (h1 : 1 ≤ d) : a / d ≤ a := Rat.not_lt.mp fun z => by
  have h2 := (Rat.lt_div_iff (show 0 < d by grind)).mp z
  have h3 := Rat.mul_le_mul_of_nonneg_left h1 h0
  grind
theorem one_le_div {a b : Rat} (hb : 0 < b) (h : b ≤ a) : 1 ≤ a / b := Rat.not_lt.mp fun z => by
  have h2 := (Rat.div_lt_iff hb).mp z
  grind
theorem div_anti {a d e : Rat} (h0 : 0 < a) (h1 : 0 < d) (h2 : d < e) : a / e < a / d := by
  have he : 0 < e := by grind
  rw [Rat.div_lt_iff he]
  have h3 : a / d * d = a := Rat.div_mul_cancel (Rat.ne_of_gt h1)
  have h4 := (Rat.mul_lt_mul_left (div_pos h0 h1)).mpr h2
  rw [h3] at h4
  exact h4
theorem div_div_self {a b : Rat} (h0 : 0 < a) (h1 : 0 < b) : a / (a / b) = b := by
  have n1 := Rat.ne_of_gt h0
  have n2 := Rat.ne_of_gt h1
  grind
theorem Lf_le {lo : Option Rat} {f : Rat × Rat} {t : Rat} (hl : ∀ x, lo = some x → x < f.2) (h : t ≤ f.1) : Lf lo f t ≤ f.2 := by
  cases lo with
  | none => show f.2 - (f.1 - t) ≤ f.2; grind
  | some x =>
    show x + (f.2 - x) / (1 + (f.1 - t)) ≤ f.2
    have h1 := sub_pos' (hl x rfl)
    have := div_le_self (Rat.le_of_lt h1) (show 1 ≤ 1 + (f.1 - t) by grind)
    grind
theorem Lf_lo {lo : Option Rat} {f : Rat × Rat} {t x : Rat} (hl : ∀ x, lo = some x → x < f.2) (h : t ≤ f.1) (e : lo = some x) : x < Lf lo f t := by
  subst e
  show x < x + (f.2 - x) / (1 + (f.1 - t))
  have := div_pos (sub_pos' (hl x rfl)) (show 0 < 1 + (f.1 - t) by grind)
  grind
theorem Lf_mono {lo : Option Rat} {f : Rat × Rat} {t u : Rat} (hl : ∀ x, lo = some x → x < f.2) (h : t < u) (h2 : u ≤ f.1) : Lf lo f t < Lf lo f u := by
  cases lo with
  | none => show f.2 - (f.1 - t) < f.2 - (f.1 - u); grind
  | some x =>
    show x + (f.2 - x) / (1 + (f.1 - t)) < x + (f.2 - x) / (1 + (f.1 - u))
    have := div_anti (sub_pos' (hl x rfl)) (show 0 < 1 + (f.1 - u) by grind) (show 1 + (f.1 - u) < 1 + (f.1 - t) by grind)
    grind
theorem Hf_ge {hi : Option Rat} {l : Rat × Rat} {t : Rat} (hh : ∀ x, hi = some x → l.2 < x) (h : l.1 ≤ t) : l.2 ≤ Hf hi l t := by
  cases hi with
  | none => show l.2 ≤ l.2 + (t - l.1); grind
  | some x =>
    show l.2 ≤ x - (x - l.2) / (1 + (t - l.1))
    have h1 := sub_pos' (hh x rfl)
    have := div_le_self (Rat.le_of_lt h1) (show 1 ≤ 1 + (t - l.1) by grind)
    grind
theorem Hf_hi {hi : Option Rat} {l : Rat × Rat} {t x : Rat} (hh : ∀ x, hi = some x → l.2 < x) (h : l.1 ≤ t) (e : hi = some x) : Hf hi l t < x := by
  subst e
  show x - (x - l.2) / (1 + (t - l.1)) < x
  have := div_pos (sub_pos' (hh x rfl)) (show 0 < 1 + (t - l.1) by grind)
  grind
theorem Hf_mono {hi : Option Rat} {l : Rat × Rat} {t u : Rat} (hh : ∀ x, hi = some x → l.2 < x) (h : l.1 ≤ t) (h2 : t < u) : Hf hi l t < Hf hi l u := by
  cases hi with
  | none => show l.2 + (t - l.1) < l.2 + (u - l.1); grind
  | some x =>
    show x - (x - l.2) / (1 + (t - l.1)) < x - (x - l.2) / (1 + (u - l.1))
    have := div_anti (sub_pos' (hh x rfl)) (show 0 < 1 + (t - l.1) by grind) (show 1 + (t - l.1) < 1 + (u - l.1) by grind)
    grind
theorem one_lt_div {a b : Rat} (hb : 0 < b) (h : b < a) : 1 < a / b := (Rat.lt_div_iff hb).mpr (by grind)
theorem onB_of {r : Ray} {p : Rat} (k1 : ∀ x, r.low = some x → x < p) (k2 : ∀ x, r.high = some x → p < x) : onB r p = true := by
  obtain ⟨lo, hi, w, cs⟩ := r
  unfold onB
  have e1 : ∀ x, lo = some x → decide (x < p) = true := fun x e => decide_eq_true (k1 x e)
  have e2 : ∀ x, hi = some x → decide (p < x) = true := fun x e => decide_eq_true (k2 x e)
  cases lo with
  | none =>
    cases hi with
    | none => rfl
    | some y => show (true && decide (p < y)) = true; rw [e2 y rfl]; rfl
  | some x =>
    cases hi with
    | none => show (decide (x < p) && true) = true; rw [e1 x rfl]; rfl
    | some y => show (decide (x < p) && decide (p < y)) = true; rw [e1 x rfl, e2 y rfl]; rfl
/-! a ray by its pieces -/
structure RayC (r : Ray) (a : Rat × Rat) (cs : List (Rat × Rat)) : Prop where
  eq : r.cs = a :: cs
  f : fstC r = a
  l : lstC r = lastC a cs
  asc : AscQ (a :: cs)
  lo : ∀ x, r.low = some x → x < a.2
  hi : ∀ x, r.high = some x → (lastC a cs).2 < x
theorem last_eq : ∀ (a : Rat × Rat) (cs : List (Rat × Rat)), (a :: cs).getLast? = some (lastC a cs)
  | a, [] => rfl
  | a, b :: r => by rw [List.getLast?_cons_cons]; exact last_eq b r
theorem RayOK.c {r : Ray} (o : RayOK r) : ∃ a cs, RayC r a cs := by
  cases e : r.cs with
  | nil => exact absurd e o.ne
  | cons a cs =>
    have e1 : fstC r = a := by unfold fstC; rw [e]; rfl
    have e2 : lstC r = lastC a cs := by unfold lstC; rw [e, last_eq]; rfl
    exact ⟨a, cs, e, e1, e2, by rw [← e]; exact o.asc, fun x h => by rw [← e1]; exact o.lo x h, fun x h => by rw [← e2]; exact o.hi x h⟩
theorem strict_of : ∀ (a : Rat × Rat) (cs : List (Rat × Rat)), AscQ (a :: cs) → (a.1 < (lastC a cs).1 ↔ a.2 < (lastC a cs).2)
  | a, [], _ => ⟨fun h => absurd h Rat.lt_irrefl, fun h => absurd h Rat.lt_irrefl⟩
  | a, b :: r, h => by
    obtain ⟨h1, h2⟩ := last_ge b r h.2.2
    have h3 := h.1
    have h4 := h.2.1
    rw [lastC_cons]
    constructor <;> intro _ <;> grind
section
variable {r : Ray} {a : Rat × Rat} {cs : List (Rat × Rat)} (o : RayC r a cs)
include o
theorem RayC.place (t : Rat) : placeAt r t = if t < (lastC a cs).1 then (if a.1 < t then (interC (a :: cs) t).getD (lastC a cs).2 else Lf r.low a t) else Hf r.high (lastC a cs) t := by
  unfold placeAt
  rw [o.f, o.l, o.eq]
  try rfl
theorem RayC.clock (p : Rat) : clockAt r p = if p < (lastC a cs).2 then (if a.2 < p then (interP (a :: cs) p).getD (lastC a cs).1 else match r.low with
      | none => a.1 - (a.2 - p)
      | some lo => (a.1 + 1) - (a.2 - lo) / (p - lo)) else match r.high with
    | none => (lastC a cs).1 + (p - (lastC a cs).2)
    | some h => ((lastC a cs).1 - 1) + (h - (lastC a cs).2) / (h - p) := by
  unfold clockAt
  rw [o.f, o.l, o.eq]
  try (generalize r.low = lo; generalize r.high = hi; cases lo <;> cases hi <;> rfl)
theorem RayC.mid {t : Rat} (h1 : a.1 < t) (h2 : t < (lastC a cs).1) : ∃ v, interC (a :: cs) t = some v ∧ a.2 < v ∧ v < (lastC a cs).2 ∧ interP (a :: cs) v = some t := by
  obtain ⟨v, e1, e2, e3, e4⟩ := interC_spec cs a t o.asc h1 (Rat.le_of_lt h2)
  obtain ⟨w, q1, q2, q3, q4⟩ := interC_spec cs a (lastC a cs).1 o.asc (by grind) Rat.le_refl
  have := interC_mono cs a t (lastC a cs).1 v w o.asc h1 h2 Rat.le_refl e1 q1
  exact ⟨v, e1, e2, by grind, e4⟩
theorem RayC.mono {t u : Rat} (h : t < u) : placeAt r t < placeAt r u := by
  rw [o.place, o.place]
  have hl := last_ge a cs o.asc
  by_cases h1 : t < (lastC a cs).1
  · rw [if_pos h1]
    by_cases h2 : a.1 < t
    · rw [if_pos h2]
      obtain ⟨v, e1, e2, e3, e4⟩ := o.mid h2 h1
      rw [e1]
      show v < _
      by_cases h3 : u < (lastC a cs).1
      · rw [if_pos h3, if_pos (by grind)]
        obtain ⟨w, q1, q2, q3, q4⟩ := o.mid (t := u) (by grind) h3
        rw [q1]
        exact interC_mono cs a t u v w o.asc h2 h (by grind) e1 q1
      · rw [if_neg h3]
        have := Hf_ge o.hi (t := u) (by grind)
        grind
    · rw [if_neg h2]
      have p1 := Lf_le o.lo (t := t) (by grind)
      by_cases h3 : u < (lastC a cs).1
      · rw [if_pos h3]
        by_cases h4 : a.1 < u
        · rw [if_pos h4]
          obtain ⟨w, q1, q2, q3, q4⟩ := o.mid h4 h3
          rw [q1]
          show _ < w
          grind
        · rw [if_neg h4]
          exact Lf_mono o.lo h (by grind)
      · rw [if_neg h3]
        have p2 := Hf_ge o.hi (t := u) (by grind)
        by_cases h5 : a.1 < (lastC a cs).1
        · have := (strict_of a cs o.asc).mp h5
          grind
        · have p3 := Lf_mono o.lo (t := t) (u := a.1) (by grind) (by grind)
          have p4 := Lf_le o.lo (t := a.1) Rat.le_refl
          grind
  · rw [if_neg h1, if_neg (by grind)]
    exact Hf_mono o.hi (by grind) h
theorem RayC.inside (t : Rat) : onB r (placeAt r t) = true := by
  have hl := last_ge a cs o.asc
  have key : (∀ x, r.low = some x → x < placeAt r t) ∧ (∀ x, r.high = some x → placeAt r t < x) := by
    rw [o.place]
    by_cases h1 : t < (lastC a cs).1
    · rw [if_pos h1]
      by_cases h2 : a.1 < t
      · rw [if_pos h2]
        obtain ⟨v, e1, e2, e3, e4⟩ := o.mid h2 h1
        rw [e1]
        exact ⟨fun x e => (by have := o.lo x e; show x < v; grind), fun x e => (by have := o.hi x e; show v < x; grind)⟩
      · rw [if_neg h2]
        have p1 := Lf_le o.lo (t := t) (by grind)
        exact ⟨fun x e => Lf_lo o.lo (by grind) e, fun x e => (by have := o.hi x e; grind)⟩
    · rw [if_neg h1]
      have p2 := Hf_ge o.hi (t := t) (by grind)
      exact ⟨fun x e => (by have := o.lo x e; grind), fun x e => Hf_hi o.hi (by grind) e⟩
  exact onB_of key.1 key.2
theorem RayC.back {p : Rat} (on : onB r p = true) : placeAt r (clockAt r p) = p := by
  have hl := last_ge a cs o.asc
  have st := strict_of a cs o.asc
  rw [o.clock]
  by_cases h1 : p < (lastC a cs).2
  · rw [if_pos h1]
    by_cases h2 : a.2 < p
    · rw [if_pos h2]
      obtain ⟨t, e1, e2, e3, e4⟩ := interP_spec cs a p o.asc h2 (Rat.le_of_lt h1)
      rw [e1]
      show placeAt r t = p
      rw [o.place]
      by_cases h3 : t < (lastC a cs).1
      · rw [if_pos h3, if_pos e2, e4]
        rfl
      · have e5 : t = (lastC a cs).1 := by grind
        obtain ⟨w, q1, q2, q3, q4⟩ := interC_spec cs a (lastC a cs).1 o.asc (by grind) Rat.le_refl
        obtain ⟨t2, e1', e2', e3', e4'⟩ := interP_spec cs a (lastC a cs).2 o.asc (by grind) Rat.le_refl
        rw [← e5, e4] at q1
        cases q1
        have h6 : t2 < t ∨ t2 = t := by grind
        rcases h6 with h6 | h6
        · have := interC_mono cs a t2 t (lastC a cs).2 p o.asc e2' h6 e3 e4' e4
          grind
        · rw [h6, e4] at e4'
          have := Option.some.inj e4'
          grind
    · rw [if_neg h2]
      have hk : p < a.2 ∨ (p = a.2 ∧ a.1 < (lastC a cs).1) := by
        by_cases hp : p < a.2
        · exact .inl hp
        · have e9 : p = a.2 := by grind
          exact .inr ⟨e9, st.mpr (by rw [← e9]; exact h1)⟩
      cases e : r.low with
      | none =>
        show placeAt r (a.1 - (a.2 - p)) = p
        have ht : a.1 - (a.2 - p) < (lastC a cs).1 := by rcases hk with hk | ⟨hk, hk2⟩ <;> grind
        rw [o.place, if_pos ht, if_neg (by grind), e]
        show a.2 - (a.1 - (a.1 - (a.2 - p))) = p
        grind
      | some lo =>
        show placeAt r ((a.1 + 1) - (a.2 - lo) / (p - lo)) = p
        have l1 := onB_lo on e
        have l2 := o.lo lo e
        have g0 : 0 < p - lo := sub_pos' l1
        have g1 := one_le_div (a := a.2 - lo) (b := p - lo) g0 (by grind)
        have ht : (a.1 + 1) - (a.2 - lo) / (p - lo) < (lastC a cs).1 := by
          rcases hk with hk | ⟨hk, hk2⟩
          · have := one_lt_div (a := a.2 - lo) (b := p - lo) g0 (by grind)
            grind
          · grind
        rw [o.place, if_pos ht, if_neg (by grind), e]
        show lo + (a.2 - lo) / (1 + (a.1 - ((a.1 + 1) - (a.2 - lo) / (p - lo)))) = p
        have g2 : 1 + (a.1 - ((a.1 + 1) - (a.2 - lo) / (p - lo))) = (a.2 - lo) / (p - lo) := by grind
        rw [g2, div_div_self (sub_pos' l2) g0]
        grind
  · rw [if_neg h1]
    cases e : r.high with
    | none =>
      show placeAt r ((lastC a cs).1 + (p - (lastC a cs).2)) = p
      rw [o.place, if_neg (by grind), e]
      show (lastC a cs).2 + ((lastC a cs).1 + (p - (lastC a cs).2) - (lastC a cs).1) = p
      grind
    | some h =>
      show placeAt r (((lastC a cs).1 - 1) + (h - (lastC a cs).2) / (h - p)) = p
      have l1 := onB_hi on e
      have l2 := o.hi h e
      have g1 := one_le_div (a := h - (lastC a cs).2) (b := h - p) (by grind) (by grind)
      rw [o.place, if_neg (by grind), e]
      show h - (h - (lastC a cs).2) / (1 + ((((lastC a cs).1 - 1) + (h - (lastC a cs).2) / (h - p)) - (lastC a cs).1)) = p
      have g2 : 1 + ((((lastC a cs).1 - 1) + (h - (lastC a cs).2) / (h - p)) - (lastC a cs).1) = (h - (lastC a cs).2) / (h - p) := by grind
      rw [g2, div_div_self (by grind) (by grind)]
      grind
theorem RayC.inj {t u : Rat} (h : placeAt r t = placeAt r u) : t = u := by
  have h3 : t < u ∨ t = u ∨ u < t := by grind
  rcases h3 with h1 | h1 | h1
  · have := o.mono h1
    rw [h] at this
    exact absurd this Rat.lt_irrefl
  · exact h1
  · have := o.mono h1
    rw [h] at this
    exact absurd this Rat.lt_irrefl
theorem RayC.forth (t : Rat) : clockAt r (placeAt r t) = t := o.inj (o.back (o.inside t))
theorem RayC.cmono {p q : Rat} (h1 : onB r p = true) (h2 : onB r q = true) (h : p < q) : clockAt r p < clockAt r q := by
  have h3 : clockAt r p < clockAt r q ∨ clockAt r p = clockAt r q ∨ clockAt r q < clockAt r p := by grind
  rcases h3 with h3 | h3 | h3
  · exact h3
  · have e1 := o.back h1
    rw [h3, o.back h2] at e1
    grind
  · have := o.mono h3
    rw [o.back h1, o.back h2] at this
    grind
end
/-! rays one above the other -/
theorem RayC.gap {r : Ray} {a : Rat × Rat} {cs : List (Rat × Rat)} (o : RayC r a cs) {l h : Rat} (e1 : r.low = some l) (e2 : r.high = some h) : l < h := by
  have h1 := o.lo l e1
  have h2 := o.hi h e2
  have h3 := (last_ge a cs o.asc).2
  grind
theorem abv_get {r b : Ray} (h : abvB r b = true) : ∃ x y, b.high = some x ∧ r.low = some y ∧ x ≤ y := by
  unfold abvB at h
  cases e1 : b.high with
  | none => rw [e1] at h; cases h
  | some x =>
    cases e2 : r.low with
    | none => rw [e1, e2] at h; cases h
    | some y =>
      rw [e1, e2] at h
      exact ⟨x, y, rfl, rfl, Rat.not_lt.mp (by simpa using h)⟩
theorem chain_all : ∀ {rs : List Ray} {r : Ray}, (∀ x ∈ r :: rs, RayOK x) → ChainR (r :: rs) → ∀ r2 ∈ rs, ∃ h l, r.high = some h ∧ r2.low = some l ∧ h ≤ l
  | [], _, _, _, r2, h => nomatch h
  | b :: rs, r, ok, ch, r2, hm => by
    obtain ⟨x, y, e1, e2, e3⟩ := abv_get ch.1
    rcases List.mem_cons.mp hm with rfl | hm
    · exact ⟨x, y, e1, e2, e3⟩
    · obtain ⟨h, l, q1, q2, q3⟩ := chain_all (r := b) (rs := rs) (fun z hz => ok z (List.mem_cons_of_mem _ hz)) ch.2 r2 hm
      obtain ⟨a, cs, o⟩ := (ok b (by simp)).c
      have := o.gap e2 q1
      exact ⟨x, l, e1, q2, by grind⟩
structure Fine (rs : List Ray) : Prop where
  ok : ∀ x ∈ rs, RayOK x
  ch : ChainR rs
theorem ChainR.tail : ∀ {rs : List Ray} {r : Ray}, ChainR (r :: rs) → ChainR rs
  | [], _, _ => trivial
  | _ :: _, _, h => h.2
theorem Fine.tail {r : Ray} {rs : List Ray} (h : Fine (r :: rs)) : Fine rs := ⟨fun x hx => h.ok x (List.mem_cons_of_mem _ hx), h.ch.tail⟩
theorem Fine.hd {r : Ray} {rs : List Ray} (h : Fine (r :: rs)) : RayOK r := h.ok r (by simp)
theorem Fine.gap {r : Ray} {rs : List Ray} (h : Fine (r :: rs)) : ∀ r2 ∈ rs, ∃ x y, r.high = some x ∧ r2.low = some y ∧ x ≤ y := chain_all h.ok h.ch
theorem powQ_cons {r : Ray} {rs : List Ray} (h : Fine (r :: rs)) (x : Rat) (n : Int) : powQ (r :: rs) x n = if onB r x = true then placeAt r (clockAt r x + ((r.way * n : Int) : Rat)) else powQ rs x n := by
  rw [powQ]
  split
  · rename_i on
    split
    · rename_i hn
      subst hn
      obtain ⟨a, cs, o⟩ := h.hd.c
      rw [Int.mul_zero]
      have : clockAt r x + ((0 : Int) : Rat) = clockAt r x := by
        rw [Rat.intCast_zero]
        exact Rat.add_zero _
      rw [this, o.back on]
    · rfl
  · rfl
theorem powQ_in : ∀ {rs : List Ray} (h : Fine rs) (x : Rat) (n : Int), powQ rs x n = x ∨ ∃ r ∈ rs, onB r (powQ rs x n) = true
  | [], _, _, _ => .inl rfl
  | r :: rs, h, x, n => by
    rw [powQ_cons h]
    split
    · obtain ⟨a, cs, o⟩ := h.hd.c
      exact .inr ⟨r, by simp, o.inside _⟩
    · rcases powQ_in h.tail x n with e | ⟨r2, m2, e⟩
      · exact .inl e
      · exact .inr ⟨r2, List.mem_cons_of_mem _ m2, e⟩
theorem off_of {r : Ray} {rs : List Ray} (h : Fine (r :: rs)) {r2 : Ray} (m : r2 ∈ rs) {y : Rat} (on : onB r2 y = true) : ¬ onB r y = true := fun z => by
  obtain ⟨u, v, e1, e2, e3⟩ := h.gap r2 m
  have h1 := onB_lo on e2
  have h2 := onB_hi z e1
  grind
theorem powQ_off {r : Ray} {rs : List Ray} (h : Fine (r :: rs)) {x : Rat} (off : ¬ onB r x = true) (n : Int) : ¬ onB r (powQ rs x n) = true := by
  rcases powQ_in h.tail x n with e | ⟨r2, m2, e⟩
  · rw [e]
    exact off
  · exact off_of h m2 e
theorem powQ_add : ∀ {rs : List Ray} (h : Fine rs) (x : Rat) (m n : Int), powQ rs (powQ rs x m) n = powQ rs x (m + n)
  | [], _, _, _, _ => rfl
  | r :: rs, h, x, m, n => by
    by_cases on : onB r x = true
    · obtain ⟨a, cs, o⟩ := h.hd.c
      rw [powQ_cons h x m, if_pos on, powQ_cons h x (m + n), if_pos on, powQ_cons h _ n, if_pos (o.inside _), o.forth]
      congr 1
      rw [Int.mul_add, Rat.intCast_add]
      grind
    · rw [powQ_cons h x m, if_neg on, powQ_cons h x (m + n), if_neg on, powQ_cons h _ n, if_neg (powQ_off h on m)]
      exact powQ_add h.tail x m n
theorem off_hi {r : Ray} {x y : Rat} (on : onB r x = true) (h : x < y) (off : ¬ onB r y = true) : ∃ u, r.high = some u ∧ u ≤ y := by
  cases e : r.high with
  | none => exact absurd (onB_of (fun v ev => (by have := onB_lo on ev; grind)) (fun v ev => (by rw [e] at ev; cases ev))) off
  | some u =>
    refine ⟨u, rfl, Rat.not_lt.mp fun z => off (onB_of (fun v ev => (by have := onB_lo on ev; grind)) fun v ev => ?_)⟩
    rw [e] at ev
    cases ev
    exact z
theorem off_lo {r : Ray} {x y : Rat} (on : onB r y = true) (h : x < y) (off : ¬ onB r x = true) : ∃ u, r.low = some u ∧ x ≤ u := by
  cases e : r.low with
  | none => exact absurd (onB_of (fun v ev => (by rw [e] at ev; cases ev)) (fun v ev => (by have := onB_hi on ev; grind))) off
  | some u =>
    refine ⟨u, rfl, Rat.not_lt.mp fun z => off (onB_of (fun v ev => ?_) fun v ev => (by have := onB_hi on ev; grind))⟩
    rw [e] at ev
    cases ev
    exact z
theorem powQ_ge {r : Ray} {rs : List Ray} (h : Fine (r :: rs)) {u y : Rat} (e : r.high = some u) (hy : u ≤ y) (n : Int) : u ≤ powQ rs y n := by
  rcases powQ_in h.tail y n with q | ⟨r2, m2, q⟩
  · rw [q]
    exact hy
  · obtain ⟨a, b, e1, e2, e3⟩ := h.gap r2 m2
    rw [e] at e1
    cases e1
    have := onB_lo q e2
    grind
theorem powQ_id : ∀ {rs : List Ray} {x : Rat} (n : Int), (∀ r ∈ rs, ¬ onB r x = true) → powQ rs x n = x
  | [], _, _, _ => rfl
  | r :: rs, x, n, h => by
    rw [powQ, if_neg (h r (by simp))]
    exact powQ_id n fun r hr => h r (List.mem_cons_of_mem _ hr)
theorem powQ_mono : ∀ {rs : List Ray} (h : Fine rs) {x y : Rat} (n : Int), x < y → powQ rs x n < powQ rs y n
  | [], _, _, _, _, h => h
  | r :: rs, h, x, y, n, hxy => by
    obtain ⟨a, cs, o⟩ := h.hd.c
    rw [powQ_cons h, powQ_cons h]
    by_cases hx : onB r x = true
    · rw [if_pos hx]
      by_cases hy : onB r y = true
      · rw [if_pos hy]
        have := o.cmono hx hy hxy
        exact o.mono (by grind)
      · rw [if_neg hy]
        obtain ⟨u, e1, e2⟩ := off_hi hx hxy hy
        have h1 := onB_hi (o.inside (clockAt r x + ((r.way * n : Int) : Rat))) e1
        have h2 := powQ_ge h e1 e2 n
        grind
    · rw [if_neg hx]
      by_cases hy : onB r y = true
      · rw [if_pos hy]
        obtain ⟨u, e1, e2⟩ := off_lo hy hxy hx
        have e3 : powQ rs x n = x := powQ_id n fun r2 m2 on => by
          obtain ⟨v, w, q1, q2, q3⟩ := h.gap r2 m2
          have h1 := onB_lo on q2
          have h2 := o.gap e1 q1
          grind
        rw [e3]
        have h1 := onB_lo (o.inside (clockAt r y + ((r.way * n : Int) : Rat))) e1
        grind
      · rw [if_neg hy]
        exact powQ_mono h.tail n hxy
theorem sgQ_eq {a b : Rat} (h : a = b) : sgQ a b = 0 := by
  unfold sgQ
  rw [if_neg (by rw [h]; exact Rat.lt_irrefl), if_neg (by rw [h]; exact Rat.lt_irrefl)]
  rfl
theorem sgQ_gt {a b : Rat} (h : b < a) : sgQ a b = 1 := by
  unfold sgQ
  rw [if_pos h, if_neg (Rt.lt_asymm h)]
  rfl
theorem powQ_sg {rs : List Ray} (h : Fine rs) (x y : Rat) (n : Int) : sgQ (powQ rs x n) (powQ rs y n) = sgQ x y := by
  have h3 : x < y ∨ x = y ∨ y < x := by grind
  rcases h3 with h1 | h1 | h1
  · rw [sgQ_lt h1, sgQ_lt (powQ_mono h n h1)]
  · rw [h1, sgQ_eq rfl, sgQ_eq rfl]
  · rw [sgQ_gt h1, sgQ_gt (powQ_mono h n h1)]
def sgI (n : Int) : Int := (if 0 < n then 1 else 0) - (if n < 0 then 1 else 0)
theorem sg_way {w n : Int} (hw : w = 1 ∨ w = -1) : sgQ ((w * n : Int) : Rat) 0 = w * sgI n := by
  have h3 : n < 0 ∨ n = 0 ∨ 0 < n := by omega
  have z : (((0 : Int)) : Rat) = 0 := rfl
  rcases hw with rfl | rfl <;> rcases h3 with h | h | h
  · rw [Int.one_mul, Int.one_mul, sgQ_lt (by rw [← z]; exact Rat.intCast_lt_intCast.mpr h)]
    unfold sgI
    rw [if_neg (by omega), if_pos h]
    rfl
  · subst h
    rfl
  · rw [Int.one_mul, Int.one_mul, sgQ_gt (by rw [← z]; exact Rat.intCast_lt_intCast.mpr h)]
    unfold sgI
    rw [if_pos h, if_neg (by omega)]
    rfl
  · rw [sgQ_gt (by rw [← z]; exact Rat.intCast_lt_intCast.mpr (by omega))]
    unfold sgI
    rw [if_neg (by omega), if_pos h]
    rfl
  · subst h
    rfl
  · rw [sgQ_lt (by rw [← z]; exact Rat.intCast_lt_intCast.mpr (by omega))]
    unfold sgI
    rw [if_pos h, if_neg (by omega)]
    rfl
theorem powQ_way : ∀ {rs : List Ray} (h : Fine rs) (x : Rat), ∃ w : Int, (w = 1 ∨ w = -1 ∨ w = 0) ∧ (∀ n, sgQ (powQ rs x n) x = w * sgI n) ∧ (∀ r, rs = [r] → onB r x = true → w = r.way)
  | [], _, x => ⟨0, .inr (.inr rfl), fun n => (by rw [Int.zero_mul]; exact sgQ_eq rfl), fun r e => (nomatch e)⟩
  | r :: rs, h, x => by
    by_cases on : onB r x = true
    · obtain ⟨a, cs, o⟩ := h.hd.c
      refine ⟨r.way, by rcases h.hd.way with e | e <;> simp [e], fun n => ?_, fun r2 e _ => by cases e; rfl⟩
      rw [powQ_cons h, if_pos on, ← sg_way h.hd.way]
      have e1 := o.back on
      have h3 : ((r.way * n : Int) : Rat) < 0 ∨ ((r.way * n : Int) : Rat) = 0 ∨ 0 < ((r.way * n : Int) : Rat) := by grind
      rcases h3 with h1 | h1 | h1
      · have h2 := o.mono (t := clockAt r x + ((r.way * n : Int) : Rat)) (u := clockAt r x) (by grind)
        rw [e1] at h2
        rw [sgQ_lt h1, sgQ_lt h2]
      · rw [h1, Rat.add_zero, e1, sgQ_eq rfl, sgQ_eq rfl]
      · have h2 := o.mono (t := clockAt r x) (u := clockAt r x + ((r.way * n : Int) : Rat)) (by grind)
        rw [e1] at h2
        rw [sgQ_gt h1, sgQ_gt h2]
    · obtain ⟨w, h1, h2, h3⟩ := powQ_way h.tail x
      refine ⟨w, h1, fun n => ?_, fun r2 e q => by cases e; exact absurd q on⟩
      rw [powQ_cons h, if_neg on]
      exact h2 n
end RS

set_option maxRecDepth 100000
set_option maxHeartbeats 4000000
namespace RS
open PySem PySem.Spec PyProof.Rows L2 NdefX He PySem.W
variable [Tbls]
/-! ### corners that are being told -/
theorem q_pos {a b : Int} (ha : 0 < a) (hb : 0 < b) : 0 < Rat.divInt a b := by
  rw [Rat.divInt_eq_div, Rat.div_def]
  exact Rat.mul_pos (Rat.intCast_pos.mpr ha) (Rat.inv_pos.mpr (Rat.intCast_pos.mpr hb))
theorem AscQ.snoc : ∀ {ds : List (Rat × Rat)} {a : Rat × Rat}, AscQ ds → (∀ l, ds.getLast? = some l → l.1 < a.1 ∧ l.2 < a.2) → AscQ (ds ++ [a])
  | [], _, _, _ => trivial
  | [b], a, _, h => ⟨(h b rfl).1, (h b rfl).2, trivial⟩
  | b :: c :: r, a, q, h => ⟨q.1, q.2.1, AscQ.snoc (ds := c :: r) q.2.2 fun l e => h l (by rw [List.getLast?_cons_cons]; exact e)⟩
structure CornS (x : Rat) (k : Nat) (ds : List (Rat × Rat)) (c y : Rat) : Prop where
  asc : AscQ ds
  hd : ∀ a, ds.head? = some a → x < a.2
  lst : ∀ a, ds.getLast? = some a → a = (c, y)
  emp : ds = [] → y = x
  sz : ∀ a ∈ ds, Sz 40 a.1 ∧ Sz (k + 18) a.2
theorem CornS.start (x c : Rat) (k : Nat) : CornS x k [] c x := ⟨trivial, fun _ e => (nomatch e), fun _ e => (nomatch e), fun _ => rfl, fun _ e => (nomatch e)⟩
theorem CornS.snoc {x : Rat} {k : Nat} {ds : List (Rat × Rat)} {c y c' y' : Rat} (h : CornS x k ds c y) (hc : c < c') (hy : y < y') (s1 : Sz 40 c') (s2 : Sz (k + 18) y') : CornS x k (ds ++ [(c', y')]) c' y' := by
  refine ⟨h.asc.snoc fun l e => ?_, fun a e => ?_, fun a e => ?_, fun e => by simp at e, fun a e => ?_⟩
  · rw [h.lst l e]
    exact ⟨hc, hy⟩
  · cases ds with
    | nil =>
      cases e
      rw [← h.emp rfl]
      exact hy
    | cons d ds =>
      cases e
      exact h.hd _ rfl
  · rw [List.getLast?_concat] at e
    cases e
    rfl
  · rcases List.mem_append.mp e with e | e
    · exact h.sz a e
    · rw [List.mem_singleton.mp e]
      exact ⟨s1, s2⟩
/-- a pair of integers that tells a number -/
def QP (d : D) (y : Rat) (l : Nat) : Prop := ∃ u v : Int, d = .tup [.int u, .int v] ∧ v ≠ 0 ∧ Bd l u ∧ Bd l v ∧ y = Rat.divInt u v
theorem QP.of {y : Rat} {l : Nat} (h : Sz l y) : QP (qN y) y l := ⟨y.num, y.den, rfl, den_ne y, h.1, h.2, (Rat.num_divInt_den y).symm⟩
theorem bd_log {k : Nat} {i : Int} (h : Bd k i) (hk : k ≤ 8000) : i.natAbs.log2 < 9000 := h.log hk
theorem RayOK.told {lo hi : Option Rat} {w : Int} {cs : List (Rat × Rat)} {y y2 : Rat} (hw : w = 1 ∨ w = -1) (ne : cs ≠ []) (few : cs.length ≤ 100) (asc : AscQ cs) (hd : ∀ c, cs.head? = some c → y < c.2) (lst : ∀ c, cs.getLast? = some c → c.2 < y2)
    (hlo : ∀ x, lo = some x → x = y) (hhi : ∀ x, hi = some x → x = y2) (sz : ∀ c ∈ cs, Sz 110 c.1 ∧ Sz 110 c.2) (sy : Sz 110 y) (sy2 : Sz 110 y2) : RayOK ⟨lo, hi, w, cs⟩ := by
  have e1 : cs.head? = some (fstC ⟨lo, hi, w, cs⟩) := by
    unfold fstC
    cases cs with
    | nil => exact absurd rfl ne
    | cons a b => rfl
  have e2 : cs.getLast? = some (lstC ⟨lo, hi, w, cs⟩) := by
    unfold lstC
    rw [List.getLast?_eq_some_getLast ne]
    rfl
  refine ⟨hw, ne, few, asc, fun x e => ?_, fun x e => ?_, sz, fun x e => ?_, fun x e => ?_⟩
  · rw [hlo x e]
    exact hd _ e1
  · rw [hhi x e]
    exact lst _ e2
  · rw [hlo x e]
    exact sy
  · rw [hhi x e]
    exact sy2
theorem ChainR.snoc : ∀ {rs : List Ray} {r : Ray}, ChainR rs → (∀ b, rs.getLast? = some b → abvB r b = true) → ChainR (rs ++ [r])
  | [], _, _, _ => trivial
  | [b], r, _, h => ⟨h b rfl, trivial⟩
  | a :: b :: rs, r, q, h => ⟨q.1, ChainR.snoc (rs := b :: rs) q.2 fun l e => h l (by rw [List.getLast?_cons_cons]; exact e)⟩
theorem abv_of {r b : Ray} {y h : Rat} (e1 : b.high = some h) (e2 : r.low = some y) (hy : h ≤ y) : abvB r b = true := by
  unfold abvB
  rw [e1, e2]
  show (!decide (y < h)) = true
  rw [decide_eq_false (Rat.not_lt.mpr hy)]
  rfl
theorem le_addn {a b : Rat} (h : 0 ≤ b) : a ≤ a + b := by grind
theorem sz_zero : Sz 110 (0 : Rat) := ⟨by show (0 : Int).natAbs < _; decide, by show (1 : Int).natAbs < _; decide⟩
theorem PD_int (n : Nat) (i : Int) : PD n (.int i) := by cases n <;> trivial
theorem PD_non (n : Nat) : PD n .non := by cases n <;> trivial
theorem PD_qN {n : Nat} (h : 1 ≤ n) (r : Rat) : PD n (qN r) := by
  obtain ⟨n, rfl⟩ : ∃ k, n = k + 1 := ⟨n - 1, by omega⟩
  intro x hx
  rcases List.mem_cons.mp hx with rfl | hx
  · exact PD_int _ _
  · rw [List.mem_singleton.mp hx]
    exact PD_int _ _
theorem PD_oN {n : Nat} (h : 1 ≤ n) (o : Option Rat) : PD n (oN o) := by
  cases o with
  | none => exact PD_non _
  | some r => exact PD_qN h r
theorem PD_cD {n : Nat} (h : 2 ≤ n) (c : Rat × Rat) : PD n (cD c) := by
  obtain ⟨n, rfl⟩ : ∃ k, n = k + 1 := ⟨n - 1, by omega⟩
  intro x hx
  rcases List.mem_cons.mp hx with rfl | hx
  · exact PD_qN (by omega) _
  · rw [List.mem_singleton.mp hx]
    exact PD_qN (by omega) _
theorem PD_rayG {n : Nat} (h : 4 ≤ n) (r : Ray) : PD n (rayG r) := by
  obtain ⟨n, rfl⟩ : ∃ k, n = k + 2 := ⟨n - 2, by omega⟩
  intro x hx
  simp only [List.mem_cons, List.not_mem_nil, or_false] at hx
  rcases hx with rfl | rfl | rfl | rfl
  · exact PD_oN (by omega) _
  · exact PD_oN (by omega) _
  · exact PD_int _ _
  · intro y hy
    obtain ⟨c, _, rfl⟩ := List.mem_map.mp hy
    exact PD_cD (by omega) c
theorem PD_rays (rs : List Ray) : ∀ x ∈ rs.map rayG, PD 63 x := fun x hx => by
  obtain ⟨r, _, rfl⟩ := List.mem_map.mp hx
  exact PD_rayG (by decide) r
theorem dEqB_lnil (xs : List D) : dEqB (.lst xs) (.lst []) = xs.isEmpty := by
  show PyData.eqv (.list (D.pys xs)) (.list []) = _
  cases xs <;> rfl
theorem in_strs (x : Str) (xs : List Str) : inB (.str x) (xs.map .str) = decide (x ∈ xs) := inB_d x xs
theorem knd_rise {rs : List Ray} {x : Rat} {w : Int} (hw : ∀ r, rs = [r] → onB r x = true → w = r.way) (h : ("rising" : Str) ∈ kndQ rs) : w = 1 := by
  unfold kndQ at h
  split at h
  · rename_i w' cs
    split at h
    · rename_i e
      rw [hw _ rfl rfl]
      exact e
    · simp at h
      exact absurd h.symm (by decide +kernel)
  · simp at h
    exact absurd h.symm (by decide +kernel)
theorem knd_fall {rs : List Ray} {x : Rat} {w : Int} (ok : ∀ r ∈ rs, RayOK r) (hw : ∀ r, rs = [r] → onB r x = true → w = r.way) (h : ("falling" : Str) ∈ kndQ rs) : w = -1 := by
  unfold kndQ at h
  split at h
  · rename_i w' cs
    split at h
    · rename_i e
      simp at h
      exact absurd h (by decide +kernel)
    · rename_i e
      rw [hw _ rfl rfl]
      exact (ok _ (by simp)).way.resolve_left e
  · simp at h
    exact absurd h.symm (by decide +kernel)
theorem lt_addp {a b : Rat} (h : 0 < b) : a < a + b := by grind
section
variable {X : Cx} {E : L2.St → XK} {pos : Pos}
/-- a, b, c = e1, e2, e3 of plain names -/
def dPar3 (i j l : Nat) (Ta : TAD) : TSD := fun N τ M => Ta τ M (fun ds M1 => match ds with
  | [d, e, f] => N.nx (((τ.set i (some d)).set j (some e)).set l (some f)) M1
  | _ => False) (N.ex τ)
theorem ds_par3 {i j l : Nat} {x y z : Str} {a b c : Expr} {Ta : TAD} {px py pz pt : Pos} {kt k2 pt2} (hN : X.N.Nodup) (ha : DAs X E [a, b, c] Ta) (p : ∀ {ta : TA}, PA X [a, b, c] ta → PS X (.Assign [.Tuple [.Name x px, .Name y py, .Name z pz] kt pt] (.Tuple [a, b, c] k2 pt2) pos) (tPar3 i j l ta)) : DS X E (.Assign [.Tuple [.Name x px, .Name y py, .Name z pz] kt pt] (.Tuple [a, b, c] k2 pt2) pos) (dPar3 i j l Ta) := by
  refine ⟨(p ha.p).imp fun D σ H ⟨F, M, G, τ, N, rs, rep, h, lk⟩ => ?_⟩
  refine ⟨F, M, G, τ, _, _, rs, rep, h, fun ds M1 F1 H1 v q s1 rep1 r1 => ?_, lk.ex.at rs⟩
  dsimp only at q
  split at q
  · cases r1 with
    | cons r1 r2 =>
    cases r2 with
    | cons r2 r3 =>
    cases r3 with
    | cons r3 r4 =>
    cases r4
    exact ⟨_, _, _, rfl, lk.nx _ _ _ F1 _ q s1 rep1 ((((rs.mono s1).set r1 i).set r2 j).set r3 l)⟩
  · exact q.elim
end
end RS

set_option maxRecDepth 100000
set_option maxHeartbeats 4000000
namespace RS
open PySem PySem.Spec PyProof.Rows L2 NdefX He PySem.W
variable [Tbls]
section
variable {X : Cx} {E : L2.St → XK} {pos : Pos} {C : Addr} {S : SpD} {CX : CXT} {lv : Nat} {fe e : Expr} {es : List Expr} {Tf : TD} {Ta : TAD}
/-- o(..), o an instance of C -/
def dClo (C : Addr) (S : SpD) (Tf : TD) (Ta : TAD) : TD := fun τ M R W => Tf τ M (fun d M1 => isC M1 C d ∧ Ta τ M1 (fun ds M2 => isC M2 C d ∧ S (d :: ds) M2 R XF) W) W
theorem isC.ref {K : Frg} {F : Hp} {v : V} {d : D} {M : MS} (h : isC M C d) (r : Rv K F v d) : ∃ a, v = .ref a := by
  unfold isC vw at h
  cases r <;> first | exact ⟨_, rfl⟩ | exact h.elim
theorem de_cl (F : Clo X.prog X.w X.K X.mg X.base CX lv C (upSp X.K S)) (hr : Room lv X.A) (hx : Passes CX X E0) (hf : DE X E fe Tf) (ha : DAs X E (e :: es) Ta)
    (hcall : eval (.Call fe (e :: es) [] pos) X.env = (do callWith pos (← eval fe X.env) [] (backTo pos (starEach (e :: es) X.env)) (backToKw pos (keywordEach [] X.env))) := by rfl) (he : starEach (e :: es) X.env = (false, eval e X.env) :: starEach es X.env := by rfl) (hpl : (backTo pos (starEach es X.env)).any (·.1) = false := by rfl) : DE X E (.Call fe (e :: es) [] pos) (dClo C S Tf Ta) := by
  refine ⟨(pe_cl F hr hx hf.p ha.p hcall he hpl).imp fun σ H Q ⟨F0, M, G, τ, R, W, rs, rep, h, k, kx⟩ => ?_⟩
  refine ⟨F0, M, G, τ, _, W, rs, rep, h, fun d M1 F1 H1 v q s1 rep1 r1 => ?_, kx⟩
  obtain ⟨qc, q⟩ := q
  have hv := qc.ref r1
  obtain ⟨a, rfl⟩ := hv
  refine ⟨a, rfl, F1, M1, G, τ, _, W, rs.mono s1, rep1, q, fun ds M2 F2 H2 vs q2 s2 rep2 r2 => ?_, kx.le s1⟩
  obtain ⟨b, dx, fs, eb, e1⟩ := q2.1.at rep2 (r1.mono s2)
  cases eb
  exact ⟨.inr ⟨dx, fs, e1⟩, F2, M2, G, _, R, XF, .cons (r1.mono s2) r2, rep2, q2.2, k.le (s1.trans s2), KX.none⟩
end
/-! ### == of a thing with itself -/
theorem PD.plain : ∀ (n : Nat) (d : D), PD n d → d.py.plain = true := by
  intro n
  induction n with
  | zero =>
    intro d p
    cases d <;> first | exact p.elim | rfl
  | succ n ih =>
    have all : ∀ ds : List D, (∀ x ∈ ds, PD n x) → PyData.plainAll (D.pys ds) = true := by
      intro ds
      induction ds with
      | nil => intro _; rfl
      | cons d ds ihd =>
        intro p
        rw [D.pys, PyData.plainAll, ih d (p d (List.mem_cons_self ..)), ihd fun x hx => p x (List.mem_cons_of_mem _ hx)]
        rfl
    intro d p
    cases d <;> first | exact p.elim | rfl | (exact all _ p)
theorem dEqB_refl {n : Nat} {d : D} (p : PD n d) : dEqB d d = true := by
  rw [dEqB_eq]
  exact SeqAt.eqv_refl_plain _ (p.plain n d)
theorem PD_rayD {n : Nat} (h : 4 ≤ n) (r : Ray) : PD n (rayD r) := by
  obtain ⟨n, rfl⟩ : ∃ k, n = k + 2 := ⟨n - 2, by omega⟩
  intro x hx
  simp only [List.mem_cons, List.not_mem_nil, or_false] at hx
  rcases hx with rfl | rfl | rfl | rfl
  · exact PD_oN (by omega) _
  · exact PD_oN (by omega) _
  · exact PD_int _ _
  · intro y hy
    obtain ⟨c, _, rfl⟩ := List.mem_map.mp hy
    exact PD_cD (by omega) c
theorem PD_raysD (rs : List Ray) : PD 64 (.tup (rs.map rayD)) := fun x hx => by
  obtain ⟨r, _, rfl⟩ := List.mem_map.mp hx
  exact PD_rayD (by decide) r
theorem dEqB_tnil (xs : List D) : dEqB (.tup xs) (.tup []) = xs.isEmpty := by
  show PyData.eqv (.tuple (D.pys xs)) (.tuple []) = _
  cases xs <;> rfl
/-! ### the curve taken back -/
def negR (r : Ray) : Ray := ⟨r.low, r.high, -r.way, r.cs⟩
theorem negR_neg (r : Ray) : negR (negR r) = r := by
  unfold negR
  rw [Int.neg_neg]
theorem negR_map (rs : List Ray) : (rs.map negR).map negR = rs := by
  rw [List.map_map]
  conv => rhs; rw [← List.map_id rs]
  exact List.map_congr_left fun r _ => negR_neg r
theorem RayOK.neg {r : Ray} (o : RayOK r) : RayOK (negR r) := ⟨by have := o.way; show -r.way = 1 ∨ -r.way = -1; omega, o.ne, o.few, o.asc, o.lo, o.hi, o.szc, o.szl, o.szh⟩
theorem chain_neg : ∀ {rs : List Ray}, ChainR rs → ChainR (rs.map negR)
  | [], _ => trivial
  | [_], _ => trivial
  | a :: b :: r, h => ⟨h.1, chain_neg (rs := b :: r) h.2⟩
theorem Fine.neg {rs : List Ray} (h : Fine rs) : Fine (rs.map negR) := ⟨fun x hx => by
  obtain ⟨r, hr, rfl⟩ := List.mem_map.mp hx
  exact (h.ok r hr).neg, chain_neg h.ch⟩
theorem powQ_neg : ∀ {rs : List Ray} (h : Fine rs) (x : Rat) (n : Int), powQ (rs.map negR) x n = powQ rs x (-n)
  | [], _, _, _ => rfl
  | r :: rs, h, x, n => by
    have hn : Fine (negR r :: rs.map negR) := h.neg
    rw [List.map_cons, powQ_cons hn, powQ_cons h, powQ_neg h.tail x n]
    have e : (negR r).way * n = r.way * -n := by show -r.way * n = _; rw [Int.neg_mul, Int.mul_neg]
    rw [e]
    rfl
theorem powQ_zero : ∀ {rs : List Ray} (x : Rat), powQ rs x 0 = x
  | [], _ => rfl
  | r :: rs, x => by
    rw [powQ]
    split
    · rw [if_pos rfl]
    · exact powQ_zero x
theorem powQ_back {rs : List Ray} (h : Fine rs) (x : Rat) (n : Int) : powQ rs (powQ rs x n) (-n) = x := by
  rw [powQ_add h, Int.add_right_neg, powQ_zero]
/-! ### the law's own walk along a ray -/
theorem int_div1 (i : Int) : (i : Rat) = Rat.divInt i 1 := by rw [Rat.divInt_eq_div]; show (i : Rat) = (i : Rat) / ((1 : Int) : Rat); rw [Rat.intCast_one, Rat.div_def]; grind
def loB (o : Option Rat) (p : Rat) : Bool := match o with
  | none => true
  | some x => decide (x < p)
def hiB (o : Option Rat) (p : Rat) : Bool := match o with
  | none => true
  | some x => decide (p < x)
/-- how many corners are not ahead of t -/
def cntC (cs : List (Rat × Rat)) (t : Rat) : Nat := (cs.filter fun c => !decide (t < c.1)).length
theorem cntC_le (cs : List (Rat × Rat)) (t : Rat) : cntC cs t ≤ cs.length := List.length_filter_le _ _
theorem cntC_cons (a : Rat × Rat) (cs : List (Rat × Rat)) (t : Rat) : cntC (a :: cs) t = (if t < a.1 then 0 else 1) + cntC cs t := by
  unfold cntC
  rw [List.filter_cons]
  by_cases h : t < a.1
  · rw [if_pos h, decide_eq_true h]
    simp
  · rw [if_neg h, decide_eq_false h]
    simp
    omega
theorem cnt_lt : ∀ {cs : List (Rat × Rat)} {a : Rat × Rat} {t : Rat}, AscQ (a :: cs) → t < a.1 → cntC (a :: cs) t = 0
  | [], a, t, _, h => by rw [cntC_cons, if_pos h]; rfl
  | b :: r, a, t, q, h => by
    rw [cntC_cons, if_pos h]
    have h2 := q.1
    rw [cnt_lt q.2.2 (by grind)]
theorem cnt_all : ∀ {cs : List (Rat × Rat)} {a : Rat × Rat} {t : Rat}, AscQ (a :: cs) → (cntC (a :: cs) t = (a :: cs).length ↔ ¬ t < (lastC a cs).1)
  | [], a, t, _ => by
    rw [cntC_cons]
    show _ ↔ ¬ t < a.1
    by_cases h : t < a.1
    · rw [if_pos h]
      exact ⟨fun z => (nomatch z), fun z => absurd h z⟩
    · rw [if_neg h]
      exact ⟨fun _ => h, fun _ => rfl⟩
  | b :: r, a, t, q => by
    have ih := cnt_all (t := t) q.2.2
    have le := cntC_le (b :: r) t
    rw [cntC_cons, lastC_cons]
    have hl := (last_ge b r q.2.2).1
    have h2 := q.1
    by_cases h : t < a.1
    · rw [if_pos h]
      refine ⟨fun z => ?_, fun z => absurd (by grind) z⟩
      rw [List.length_cons] at z
      omega
    · rw [if_neg h, ← ih, List.length_cons (as := b :: r)]
      omega
theorem cntC_app (a b : List (Rat × Rat)) (t : Rat) : cntC (a ++ b) t = cntC a t + cntC b t := by
  unfold cntC
  rw [List.filter_append, List.length_append]
theorem cntC_take {cs : List (Rat × Rat)} {t : Rat} {j : Nat} {c : Rat × Rat} (h : cs[j]? = some c) : cntC (cs.take (j + 1)) t = cntC (cs.take j) t + (if t < c.1 then 0 else 1) := by
  rw [List.take_succ, h, cntC_app]
  show _ + cntC [c] t = _
  rw [cntC_cons]
  rfl
/-- between two corners -/
theorem cnt_mid : ∀ {cs : List (Rat × Rat)} {a : Rat × Rat} {t : Rat}, AscQ (a :: cs) → ¬ t < a.1 → t < (lastC a cs).1 → ∃ one two, 1 ≤ cntC (a :: cs) t ∧ (a :: cs)[cntC (a :: cs) t - 1]? = some one ∧ (a :: cs)[cntC (a :: cs) t]? = some two ∧ one.1 < two.1 ∧ one.2 < two.2 ∧
    (a.1 < t → interC (a :: cs) t = some (one.2 + (t - one.1) * (two.2 - one.2) / (two.1 - one.1))) ∧ (t = a.1 → one = a)
  | [], a, t, _, h1, h2 => absurd h2 h1
  | b :: r, a, t, q, h1, h2 => by
    rw [lastC_cons] at h2
    rw [cntC_cons, if_neg h1]
    by_cases h : t < b.1
    · rw [cnt_lt q.2.2 h]
      refine ⟨a, b, by omega, rfl, rfl, q.1, q.2.1, fun h3 => ?_, fun _ => rfl⟩
      unfold interC
      rw [if_neg (by grind)]
      congr 1
      have : b.1 - a.1 ≠ 0 := sub_ne q.1
      grind
    · obtain ⟨one, two, e1, e2, e3, e4, e5, e6, e7⟩ := cnt_mid q.2.2 h h2
      refine ⟨one, two, by omega, ?_, ?_, e4, e5, fun h3 => ?_, fun h3 => ?_⟩
      · rw [show 1 + cntC (b :: r) t - 1 = (cntC (b :: r) t - 1) + 1 by omega, List.getElem?_cons_succ]
        exact e2
      · rw [show 1 + cntC (b :: r) t = cntC (b :: r) t + 1 by omega, List.getElem?_cons_succ]
        exact e3
      · unfold interC
        by_cases h4 : b.1 < t
        · rw [if_pos h4]
          exact e6 h4
        · rw [if_neg h4]
          have e8 : t = b.1 := by grind
          rw [e7 e8, e8]
          congr 1
          have : b.1 - a.1 ≠ 0 := sub_ne q.1
          have : two.1 - b.1 ≠ 0 := by
            have := sub_ne e4
            rw [e7 e8] at this
            exact this
          grind
      · have := q.1
        grind
/-- the law's place behind a clock -/
theorem out_hi {r : Ray} (o : RayOK r) {t : Rat} (h : cntC r.cs t = r.cs.length) : placeAt r t = match r.high with
    | none => (lstC r).2 + (t - (lstC r).1)
    | some h => h - (h - (lstC r).2) * 1 / ((t - (lstC r).1) + 1) := by
  obtain ⟨a, cs, c⟩ := o.c
  rw [c.eq] at h
  have h2 := (cnt_all c.asc).mp h
  unfold placeAt
  rw [c.l, if_neg h2]
  cases r.high with
  | none => rfl
  | some h => show h - _ / _ = h - _ / _; rw [Rat.mul_one, Rat.add_comm]
theorem out_lo {r : Ray} (o : RayOK r) {t : Rat} (h1 : cntC r.cs t ≠ r.cs.length) (h : cntC r.cs t = 0) : placeAt r t = match r.low with
    | none => (fstC r).2 - ((fstC r).1 - t)
    | some lo => lo + ((fstC r).2 - lo) * 1 / (((fstC r).1 - t) + 1) := by
  obtain ⟨a, cs, c⟩ := o.c
  rw [c.eq] at h h1
  have h2 : t < (lastC a cs).1 := by
    by_cases z : t < (lastC a cs).1
    · exact z
    · exact absurd ((cnt_all c.asc).mpr z) h1
  have h3 : t < a.1 := by
    by_cases z : t < a.1
    · exact z
    · rw [cntC_cons, if_neg z] at h
      omega
  unfold placeAt
  rw [c.l, c.f, if_pos h2, if_neg (Rt.lt_asymm h3)]
  cases r.low with
  | none => rfl
  | some lo => show lo + _ / _ = lo + _ / _; rw [Rat.mul_one, Rat.add_comm 1]
theorem out_mid {r : Ray} (o : RayOK r) {t : Rat} (h1 : cntC r.cs t ≠ r.cs.length) (h : cntC r.cs t ≠ 0) : ∃ one two, r.cs[cntC r.cs t - 1]? = some one ∧ r.cs[cntC r.cs t]? = some two ∧ one.1 < two.1 ∧ one.2 < two.2 ∧ placeAt r t = one.2 + (t - one.1) * (two.2 - one.2) / (two.1 - one.1) := by
  obtain ⟨a, cs, c⟩ := o.c
  rw [c.eq] at h h1 ⊢
  have h2 : t < (lastC a cs).1 := by
    by_cases z : t < (lastC a cs).1
    · exact z
    · exact absurd ((cnt_all c.asc).mpr z) h1
  have h3 : ¬ t < a.1 := fun z => h (cnt_lt c.asc z)
  obtain ⟨one, two, e1, e2, e3, e4, e5, e6, e7⟩ := cnt_mid c.asc h3 h2
  refine ⟨one, two, e2, e3, e4, e5, ?_⟩
  unfold placeAt
  rw [c.l, c.f, c.eq, if_pos h2]
  by_cases h4 : a.1 < t
  · rw [if_pos h4, e6 h4]
    rfl
  · rw [if_neg h4]
    have e8 : t = a.1 := by grind
    have e9 := e7 e8
    subst e9
    rw [e8]
    have e10 : one.2 + (one.1 - one.1) * (two.2 - one.2) / (two.1 - one.1) = one.2 := by
      have : two.1 - one.1 ≠ 0 := sub_ne e4
      grind
    rw [e10]
    cases r.low with
    | none => show one.2 - (one.1 - one.1) = one.2; grind
    | some lo => show lo + (one.2 - lo) / (1 + (one.1 - one.1)) = one.2; grind
/-- the law's clock of a place -/
def cntP (cs : List (Rat × Rat)) (p : Rat) : Nat := (cs.filter fun c => !decide (p < c.2)).length
theorem cntP_swp (cs : List (Rat × Rat)) (p : Rat) : cntP cs p = cntC (cs.map swp) p := by
  unfold cntP cntC
  rw [List.filter_map, List.length_map]
  rfl
theorem cntP_app (a b : List (Rat × Rat)) (t : Rat) : cntP (a ++ b) t = cntP a t + cntP b t := by
  unfold cntP
  rw [List.filter_append, List.length_append]
theorem cntP_cons (a : Rat × Rat) (cs : List (Rat × Rat)) (t : Rat) : cntP (a :: cs) t = (if t < a.2 then 0 else 1) + cntP cs t := by
  rw [cntP_swp, List.map_cons, cntC_cons, cntP_swp]
  rfl
theorem cntP_take {cs : List (Rat × Rat)} {t : Rat} {j : Nat} {c : Rat × Rat} (h : cs[j]? = some c) : cntP (cs.take (j + 1)) t = cntP (cs.take j) t + (if t < c.2 then 0 else 1) := by
  rw [List.take_succ, h, cntP_app]
  show _ + cntP [c] t = _
  rw [cntP_cons]
  rfl
theorem cntP_le (cs : List (Rat × Rat)) (t : Rat) : cntP cs t ≤ cs.length := List.length_filter_le _ _
theorem in_hi {r : Ray} (o : RayOK r) {p : Rat} (h : cntP r.cs p = r.cs.length) : clockAt r p = match r.high with
    | none => (lstC r).1 + (p - (lstC r).2)
    | some h => (lstC r).1 + ((h - (lstC r).2) * 1 / (h - p) - 1) := by
  obtain ⟨a, cs, c⟩ := o.c
  rw [c.eq, cntP_swp, ← List.length_map (f := swp)] at h
  have h2 := (cnt_all (a := swp a) (cs := cs.map swp) (swp_asc c.asc)).mp h
  rw [swp_last] at h2
  have h3 : ¬ p < (lastC a cs).2 := h2
  unfold clockAt
  rw [c.l, if_neg h3]
  cases r.high with
  | none => rfl
  | some h => show (_ - 1) + _ / _ = _ + (_ / _ - 1); rw [Rat.mul_one]; grind
theorem in_lo {r : Ray} (o : RayOK r) {p : Rat} (h1 : cntP r.cs p ≠ r.cs.length) (h : cntP r.cs p = 0) : clockAt r p = match r.low with
    | none => (fstC r).1 - ((fstC r).2 - p)
    | some lo => (fstC r).1 - (((fstC r).2 - lo) * 1 / (p - lo) - 1) := by
  obtain ⟨a, cs, c⟩ := o.c
  rw [c.eq, cntP_swp] at h h1
  rw [← List.length_map (f := swp)] at h1
  have h2 : p < (lastC a cs).2 := by
    by_cases z : p < (lastC a cs).2
    · exact z
    · refine absurd ((cnt_all (a := swp a) (cs := cs.map swp) (swp_asc c.asc)).mpr ?_) h1
      rw [swp_last]
      exact z
  have h3 : p < a.2 := by
    by_cases z : p < a.2
    · exact z
    · rw [List.map_cons, cntC_cons, if_neg (show ¬ p < (swp a).1 from z)] at h
      omega
  unfold clockAt
  rw [c.l, c.f, if_pos h2, if_neg (Rt.lt_asymm h3)]
  cases r.low with
  | none => rfl
  | some lo => show (_ + 1) - _ / _ = _ - (_ / _ - 1); rw [Rat.mul_one]; grind
theorem in_mid {r : Ray} (o : RayOK r) {p : Rat} (h1 : cntP r.cs p ≠ r.cs.length) (h : cntP r.cs p ≠ 0) : ∃ one two, r.cs[cntP r.cs p - 1]? = some one ∧ r.cs[cntP r.cs p]? = some two ∧ one.1 < two.1 ∧ one.2 < two.2 ∧ clockAt r p = one.1 + (p - one.2) * (two.1 - one.1) / (two.2 - one.2) := by
  obtain ⟨a, cs, c⟩ := o.c
  rw [c.eq, cntP_swp] at h h1 ⊢
  rw [← List.length_map (f := swp)] at h1
  have h2 : p < (lastC a cs).2 := by
    by_cases z : p < (lastC a cs).2
    · exact z
    · refine absurd ((cnt_all (a := swp a) (cs := cs.map swp) (swp_asc c.asc)).mpr ?_) h1
      rw [swp_last]
      exact z
  have h3 : ¬ p < a.2 := fun z => h (cnt_lt (a := swp a) (cs := cs.map swp) (swp_asc c.asc) z)
  obtain ⟨one', two', e1, e2, e3, e4, e5, e6, e7⟩ := cnt_mid (a := swp a) (cs := cs.map swp) (t := p) (swp_asc c.asc) h3 (by rw [swp_last]; exact h2)
  rw [List.map_cons]
  rw [← List.map_cons, List.getElem?_map, Option.map_eq_some_iff] at e2 e3
  obtain ⟨one, q1, rfl⟩ := e2
  obtain ⟨two, q2, rfl⟩ := e3
  refine ⟨one, two, q1, q2, e5, e4, ?_⟩
  unfold clockAt
  rw [c.l, c.f, c.eq, if_pos h2]
  have e7' : p = a.2 → one = a := fun z => by
    have := e7 z
    have h8 := congrArg swp this
    exact h8
  by_cases h4 : a.2 < p
  · have e8 := e6 h4
    rw [← List.map_cons, swp_C] at e8
    rw [if_pos h4, e8]
    rfl
  · rw [if_neg h4]
    have e8 : p = a.2 := by grind
    have e9 := e7' e8
    subst e9
    rw [e8]
    have e10 : one.1 + (one.2 - one.2) * (two.1 - one.1) / (two.2 - one.2) = one.1 := by
      have : two.2 - one.2 ≠ 0 := sub_ne e4
      grind
    rw [e10]
    cases e11 : r.low with
    | none => show one.1 - (one.2 - one.2) = one.1; grind
    | some lo =>
      show (one.1 + 1) - (one.2 - lo) / (one.2 - lo) = one.1
      have : one.2 - lo ≠ 0 := sub_ne (c.lo lo e11)
      grind
end RS

set_option maxRecDepth 100000
set_option maxHeartbeats 4000000
/-! enumerate of a tuple -/
namespace PySem.RSE
open PySem
set_option maxHeartbeats 4000000 in
theorem meets_enum1 {v : Value} {o : Obj} {Hx : Heap → Prop} (B : Begins v o Hx) : Meets (Builtin.«enumerate.__new__» ⟨[.type "enumerate", v], []⟩) (fun _ R s => Hx s.heap ∧
    R (.ok (.ret (.ref (s.heap.push o).objs.size))) { s with heap := (s.heap.push o).push { cls := .type "enumerate", data := .fields #[.none, .bool false, .ref s.heap.objs.size, rawInt 0, .none, .none] } }) :=
  .of_wp fun prog w A R s h => by
    obtain ⟨hp, g, d, tk, os⟩ := s
    obtain ⟨hx, h⟩ := h
    have hsub := sub_enumerate
    have go : ∀ {A' : Around} {E Q : Value → Shared → Prop}, Q (.ref hp.objs.size) ⟨hp.push o, g, d, tk, os⟩ → wpAny (model prog w) A' (pyIter v) Q E ⟨hp, g, d, tk, os⟩ := fun q => B.iter prog w _ _ ⟨hp, g, d, tk, os⟩ _ hx q
    wp_walk using go
    refine wpAny_stack_any fun st => wpAny_pure ?_
    split
    · rename_i c _ _ _ _ _
      cases (c == Value.type "enumerate") <;> (wp_walk using go; exact ⟨_, rfl, h⟩)
    · wp_walk using go; exact ⟨_, rfl, h⟩
theorem call_enum1 {prog : Program} {w : World} {A : Around} {E : Value → Shared → Prop} {s : Shared} {v : Value} {o : Obj} {Hx : Heap → Prop} {Q : Value → Shared → Prop} (B : Begins v o Hx) (hx : Hx s.heap)
    (h : ∀ h', IsEnum h' (s.heap.objs.size + 1) s.heap.objs.size 0 .none → h'.get? s.heap.objs.size = some o → h'.objs.size = s.heap.objs.size + 2 → (∀ b o', s.heap.get? b = some o' → h'.get? b = some o') → Q (.ref (s.heap.objs.size + 1)) { s with heap := h' }) :
    wpAny (model prog w) A (call (.type "enumerate") [v]) Q E s := by
  refine callType_new F.called_enumerate (by decide) (F.typeCall_enumerate_1 _) (F.newCall_enumerate_1 _) (fun obj => F.args_object_init_2 obj _) F.entry_enumerate_new (meets_enum1 B) ⟨hx, ?_⟩
  have sz : (s.heap.push o).objs.size = s.heap.objs.size + 1 := Heap.size_push ..
  change _ ∧ _
  rw [sz]
  have en : IsEnum ((s.heap.push o).push { cls := .type "enumerate", data := .fields #[.none, .bool false, .ref s.heap.objs.size, rawInt 0, .none, .none] }) (s.heap.objs.size + 1) s.heap.objs.size 0 .none := by
    have z := Heap.get?_push_size (s.heap.push o) (o := { cls := .type "enumerate", data := .fields #[.none, .bool false, .ref s.heap.objs.size, rawInt 0, .none, .none] }) rfl
    rw [sz] at z
    exact z
  refine ⟨⟨_, en, rfl⟩, h _ en (Heap.get?_push_of_some _ (Heap.get?_push_size _ B.free)) (by rw [Heap.size_push, sz]) fun b o' x => Heap.get?_push_of_some _ (Heap.get?_push_of_some _ x)⟩
theorem enum_endT {prog : Program} {w : World} {A : Around} {E : Value → Shared → Prop} {s : Shared} {e it l : Addr} {i : Nat} {items : Array Value} {k : Int} {old : Value} {Q : Option Value → Shared → Prop} (hh : A.handled = none)
    (he : IsEnum s.heap e it k old) (hit : s.heap.IsTupleIter it l i) (hl : s.heap.IsTuple l items) (hx : items[i]? = none) (hQ : ∀ h', Heap.ExtBut it s.heap h' → Q none { s with heap := h' }) : wpAny (model prog w) A (pyNext (.ref e)) Q E s := by
  have ty : s.TypeIs (.ref e) "enumerate" := ⟨_, he, rfl⟩
  unfold pyNext
  refine wpAny_bind (wpAny_attempt (wpAny_callSpecial?_slot (name := Str.ofString "__next__") ty F.slot_enumerate_next (wpAny_call_entry F.slot_enumerate_next ty F.entry_enumerate_next ?_ (F.args_enumerate_next_1 _))))
  change wpAny _ _ (field (.ref e) 2 >>= _) _ _ _
  refine wpAny_bind (wpAny_field he rfl (x := .ref it) rfl (wpAny_bind (wpAny_nextOf_tuple_end hh hit hl hx fun h' x hb hs => ?_)))
  obtain ⟨o, ho, hc⟩ := hs
  exact wpAny_bind (wpAny_isInstance (T := "StopIteration") (b := true) ⟨o, ho, hc⟩ isSubtype_stop (wpAny_pure (hQ _ hb)))
end PySem.RSE
namespace RS
open PySem PySem.Spec PyProof.Rows L2
/-- the items of the tuple at a, numbered, in new pairs -/
def IteT (K : PySem.W.Frag) (a : Addr) : L2.It :=
  ⟨fun i H => ∃ (xs : List V) (x : V), SqT K H a xs ∧ xs[i]? = some x,
   fun i H v H' => ∃ T x, v = .ref T ∧ H T = none ∧ H' = upd H T (.tup [.int (i : Nat), x]) ∧ ∀ xs, SqT K H a xs → xs[i]? = some x,
   fun i H => ∃ xs : List V, SqT K H a xs ∧ xs.length ≤ i⟩
theorem turn_enumT {P : Program} {w : World} {K : PySem.W.Frag} {elts : List Expr} {kk : Nat} {tpos : Pos} (a e it : Addr) :
    Turn P w K (.Tuple elts kk tpos) (IteT K a) [e, it] e (fun i h => (∃ old, IsEnum h e it ((i : Nat) : Int) old) ∧ h.IsTupleIter it a i ∧ e ≠ it ∧ a ≠ it ∧ e ≠ a) where
  mem := by simp
  obj := fun i h st b hb => by
    obtain ⟨⟨old, he⟩, ⟨o, ho, hc, hd⟩, _⟩ := st
    have cs : b = e ∨ b = it := by simpa using hb
    rcases cs with z | z
    · rw [z]; exact ⟨_, he, fun v q => nomatch q⟩
    · rw [z]; exact ⟨o, ho, fun v q => by rw [hd] at q; cases q⟩
  keep := fun i h h' st k => let ⟨⟨old, he⟩, hi, n1, n2, n3⟩ := st; ⟨⟨old, k e (by simp) _ he⟩, hi.at fun o q => k it (by simp) o q, n1, n2, n3⟩
  item := by
    intro X hP hw hK hc i pins s σ H E I hf st hg
    subst hP hw hK
    obtain ⟨⟨old, he⟩, hit, n1, n2, n3⟩ := st
    obtain ⟨xs, x, hq, hx⟩ := hg
    obtain ⟨its, rv, p, hz⟩ := I.tuple hq
    obtain ⟨u, hu, ru⟩ := rv.get hx
    have hel : e < s.heap.objs.size := Heap.lt_size he
    have hil : it < s.heap.objs.size := by obtain ⟨_, q, _⟩ := hit; exact Heap.lt_size q
    have hli : i < its.toArray.size := by
      have := (List.getElem?_eq_some_iff.mp hu).1
      simpa using this
    refine wpAny_pyNext_enum_itemD (Draws.tuple (A := X.A.in1) (I.ok.hd hc) it a n2 its.toArray) he ⟨hit, p⟩ hli n1 (by simp [n1, n3]) fun x' h' tk hx' ho st' hT hsz hk => ?_
    have ex : x' = u := by
      have : its.toArray[i]? = some u := by simpa using hu
      rw [this] at hx'
      exact (Option.some.inj hx').symm
    subst ex
    refine ⟨_, rfl, wpAny_letOwnedTupleGo_enum (s := { s with heap := h', toks := tk + 1 }) ho fun h'' he' sb => ?_⟩
    have hT2 : h''.get? s.heap.objs.size = some { cls := .type "tuple", data := .seq #[.int i tk, x'] } := (sb.2 _ (Nat.ne_of_gt hel)).trans hT
    have new : ObjOk X.prog X.w (upd H s.heap.objs.size (.tup [.int (i : Nat), x])) h'' s.heap.objs.size (.tup [.int (i : Nat), x]) :=
      ⟨by show 2 ≤ sizeLine; decide, [.int i tk, x'], .cons ⟨_, rfl⟩ (.cons ru .nil), ⟨_, hT2, rfl, _, rfl⟩⟩
    have I1 : Inv X pins σ (upd H s.heap.objs.size (.tup [.int (i : Nat), x])) { s with heap := h'', toks := tk + 1 } :=
      I.turnedNew (ch := [e, it]) (fun b ob hb q => (sb.2 b (fun z => hb (by simp [z]))).trans (hk b ob (fun z => hb (by simp [z])) (fun z => hb (by simp [z])) q)) hf (Nat.le_refl _) new
    refine ⟨.ref s.heap.objs.size, _, I1, rfl, ⟨_, x, rfl, I.hok.fresh (Nat.le_refl _), rfl, fun ys hy => by rw [I.tuple_inj hy hq]; exact hx⟩, ⟨⟨x', ?_⟩, st'.1.at fun o q => (sb.2 it (Ne.symm n1)).trans q, n1, n2, n3⟩, fun b hb => ?_⟩
    · have e1 : ((i + 1 : Nat) : Int) = (i : Int) + 1 := by omega
      rw [e1]
      exact he'
    · have hb' : b < s.heap.objs.size := by
        have cs : b = e ∨ b = it := by simpa using hb
        rcases cs with z | z
        · rw [z]; exact hel
        · rw [z]; exact hil
      rw [upd_ne (Nat.ne_of_lt hb')]
      exact (hf b hb).1
  done := by
    intro X hP hw hK hc i pins s σ H E I hf st hg
    subst hP hw hK
    obtain ⟨⟨old, he⟩, hit, n1, n2, n3⟩ := st
    obtain ⟨xs, hq, hx⟩ := hg
    obtain ⟨its, rv, p, hz⟩ := I.tuple hq
    obtain ⟨f0, f1, f2, f3, f4, f5⟩ := hf it (by simp)
    have hl := rv.length
    exact PySem.RSE.enum_endT (I.ok.hd hc) he hit p (by simp; omega) fun h' eb => ⟨rfl, I.turned (t' := s.toks) (fun b o hb q => eb b o hb q) f0 f1 f3 f4 f5⟩
  self := fun A i s Q E st h => let ⟨⟨_, he⟩, _⟩ := st; wpAny_pyIter_enum he h
def iEnumT (K : PySem.W.Frag) (ta : TA) : L2.TI := fun σ H R => ta σ H fun vs H1 => ∃ a xs, vs = [.ref a] ∧ SqT K H1 a xs ∧ R (IteT K a) H1
theorem pi_enumT {X : Cx} {e : Expr} {ta : TA} {p pos tpos : Pos} {elts : List Expr} {kk : Nat} (hg : Gl X "enumerate") (hm : X.mg "enumerate" = none) (ha : PA X [e] ta) (hs : starEach [e] X.env = [(false, eval e X.env)] := by rfl) : PI X (.Tuple elts kk tpos) (.Call (.Name "enumerate" p) [e] [] pos) (iEnumT X.K ta) := by
  constructor
  intro pins s σ H R I h
  refine Call_ (ld_blt I hg hm boot_enumerate (PyProof.Rows.callWith_type1 (thn (ha.run pos pins s σ H _ I h) fun us s1 ⟨vs, H1, I1, r1, q1⟩ => ?_) hs rfl))
  obtain ⟨a, xs, rfl, hq, q⟩ := q1
  cases r1 with
  | cons r rr =>
    cases rr
    cases r
    obtain ⟨its, rv, p', hz⟩ := I1.tuple hq
    obtain ⟨oa, hoa, _⟩ := id p'
    have hal : a < s1.heap.objs.size := Heap.lt_size hoa
    refine PySem.RSE.call_enum1 (begins_tuple a its.toArray) p' fun h' he hit hsz hk => wpAny_pyIter_enum he ?_
    have I2 : Inv X pins σ H1 { s1 with heap := h' } := I1.kept (t' := s1.toks) hk
    refine ⟨s1.heap.objs.size + 1, [s1.heap.objs.size + 1, s1.heap.objs.size], _, _, H1, rfl, I2, turn_enumT a (s1.heap.objs.size + 1) s1.heap.objs.size, ⟨⟨.none, he⟩, ⟨_, hit, rfl, rfl⟩, Nat.succ_ne_self _, Nat.ne_of_lt hal, Nat.ne_of_gt (Nat.lt_succ_of_lt hal)⟩, fun b hb => ?_, q⟩
    have cs : b = s1.heap.objs.size + 1 ∨ b = s1.heap.objs.size := by simpa using hb
    have hle : s1.heap.objs.size ≤ b := by
      rcases cs with z | z
      · rw [z]; exact Nat.le_add_right _ _
      · rw [z]; exact Nat.le_refl _
    exact I1.fpOk hle (I1.hok.fresh hle)
end RS

set_option maxRecDepth 100000
set_option maxHeartbeats 4000000
namespace RS
open PySem PySem.Spec PyProof.Rows L2 NdefX He PySem.W
variable [Tbls]
theorem itok_enumT {K : Frg} {G F : Hp} {a : Addr} {vs : List V} {xs : List D} (r : Rvs K F vs xs) (ha : SqT K F a vs) : ItOk K G (IteT K a) F (enumD 0 xs) := fun i F' M' H s rep hi => by
  have ha' : SqT K H a vs := Same.sqT rep.fz (Same.sqT s ha)
  have l1 := r.len
  rw [enumD_len]
  refine ⟨fun e => ⟨vs, ha', by omega⟩, fun hlt => ?_⟩
  have e1 : vs[i]? = some (vs[i]'(by omega)) := List.getElem?_eq_getElem _
  obtain ⟨d1, q1, r1⟩ := r.at e1
  refine ⟨⟨vs, _, ha', e1⟩, fun v H' ⟨T, x, hv, hT, hH, hx⟩ => ?_⟩
  subst hv hH
  have h1 := hx vs ha'
  rw [e1] at h1
  cases h1
  obtain ⟨rep', s'⟩ := rep.newF (o := .tup [.int (i : Nat), vs[i]'(by omega)]) hT
  refine ⟨_, _, s', rep', enumD_at q1, .tup (SqT.of upd_same) (.cons ?_ (.cons (r1.mono (s.trans s')) .nil))⟩
  have : ((0 + i : Nat) : Int) = (i : Int) := by omega
  rw [this]
  exact .int _
section
variable {X : Cx} {E : L2.St → XK} {pos p tpos : Pos} {e : Expr} {elts : List Expr} {kk : Nat} {Ta : TAD}
def dEnumT (T : TAD) : TID := fun τ M R W => T τ M (fun ds M1 => match ds with
  | [.tup xs] => R (enumD 0 xs) M1
  | _ => False) W
theorem di_enumT (hm : X.mg "enumerate" = none) (ha : DAs X E [e] Ta) (hg : Gl X "enumerate" := by rfl) (hs : starEach [e] X.env = [(false, eval e X.env)] := by rfl) :
    DI X E (.Tuple elts kk tpos) (.Call (.Name "enumerate" p) [e] [] pos) (dEnumT Ta) := by
  refine ⟨(pi_enumT hg hm ha.p hs).imp fun σ H R ⟨F, M, G, τ, Rd, W, rs, rep, h, k, kx⟩ => ?_⟩
  refine ⟨F, M, G, τ, _, W, rs, rep, h, fun ds M1 F1 H1 vs q s1 rep1 r1 => ?_, kx⟩
  dsimp only at q
  split at q
  · cases r1 with
    | cons r1 r2 =>
    cases r2
    cases r1 with
    | tup t1 v1 =>
    exact ⟨_, _, rfl, Same.sqT rep1.fz t1, k _ M1 F1 H1 _ q s1 rep1 fun G' => itok_enumT v1 t1⟩
  · exact q.elim
end
end RS

set_option maxRecDepth 100000
set_option maxHeartbeats 4000000
namespace RS
open PySem PySem.Spec PyProof.Rows L2
/-! ### several except clauses, with names or without -/
abbrev ClauseT := Value × Option Nat × (Addr → Value → Option Addr → TS)
/-- behind a clause its name is gone -/
def cOut (i : Option Nat) (D : Ends) : Ends := match i with
  | none => D
  | some j => ⟨fun t Z => D.nx (t.set j none) Z, D.rt, fun t Z => D.bk (t.set j none) Z, fun t Z => D.ct (t.set j none) Z⟩
def cIn (i : Option Nat) (a : Addr) (σ : L2.St) : L2.St := match i with
  | none => σ
  | some j => σ.set j (some (.ref a))
def wMix (K : PySem.W.Frag) (W0 : WX) (D : Ends) : List ClauseT → WX
  | [] => W0
  | (c, i, ts) :: r => fun u d σ H => ∃ k, PySem.W.exmOne K u c = some k ∧ (k = true → ∀ a, H a = none → ts a u d (cOut i D) (cIn i a σ) H) ∧ (k = false → wMix K W0 D r u d σ H)
/-- the name of a clause and its slot -/
def NmOk (X : Cx) : Option Str → Option Nat → Prop
  | none, none => True
  | some n, some j => X.N[j]? = some n ∧ X.env.kindOf n = some .local
  | _, _ => False
inductive HdsN (X : Cx) : List ExceptHandler → List ClauseT → Prop
  | nil : HdsN X [] []
  | cons {x : Str} {nm : Option Str} {c : Value} {i : Option Nat} {ts : Addr → Value → Option Addr → TS} {t0 : Stmt} {su : List Stmt} {p1 p2 : Pos} {hh : List ExceptHandler} {l : List ClauseT} (hc : Names X x c) (hn : NmOk X nm i)
      (hs : ∀ (a : Addr) (oe : Obj) (u : Value) (d : Option Addr) (pn : List (Addr × Obj)), Zc u d oe → (∃ w, oe.data = .fields w) → PSs (X.suite a ((a, oe) :: pn)) (t0 :: su) (ts a u d)) (r : HdsN X hh l) :
      HdsN X (.ExceptHandler (some (.Name x p1)) nm (t0 :: su) p2 :: hh) ((c, i, ts) :: l)
section
variable {X : Cx} {body : List Stmt} {h0 : ExceptHandler} {hds : List ExceptHandler} {l : List ClauseT} {pos : Pos} {tb : WX → TS} {W0 : WX}
theorem ps_try_mix (hst : X.stack = X.env :: X.outer) (hf : X.env.frame = some X.env.locals) (hN : X.N.Nodup) (tk : Takes X W0)
    (hb : ∀ (Wi : WX) (pn : List (Addr × Obj)) (xe : Value → Shared → Prop), Takes (X.tr pn xe) Wi → PassesOwn (model X.prog X.w) X.A X.env xe → PSs (X.tr pn xe) body (tb Wi))
    (hh : HdsN X (h0 :: hds) l) : PS X (.Try body (h0 :: hds) [] [] pos) (fun D σ H => tb (wMix X.K W0 D l) D σ H) := by
  constructor
  intro pins s σ H D I h
  have ok := I.ok
  have hfr : X.A.frames = some (X.env :: X.outer) := by rw [ok.frames, hst]
  apply wpAny_Try_except
  have run := (hb (wMix X.K W0 D l) (X.pn ++ pins) (fun e s₁ => wpAny (model X.prog X.w) X.A (noteFrame e X.env) (fun _ s₂ => wpAny (model X.prog X.w) X.A (setFlight e none) (fun _ s₃ => wpAny (model X.prog X.w) X.A (handleBy e X.env (h0 :: hds)) (SP X pins D) X.xe s₃) X.xe s₂) X.xe s₁) (fun u s' xx => ?cat) PassesOwn.looking).run [] s σ H D (I.toTry _) h
  case cat =>
    obtain ⟨a, B, sI, pins', σ', Z, cl, d, rfl, J', nb, up, sky, na, os, ag, w⟩ := xx
    have J : Inv X pins σ' Z sI := J'.ofTry ok
    have sky2 : Sky B (X.env :: X.outer) a (Zc cl d) X.env.locals s'.heap := by rw [← hst]; exact sky
    change wpAny (model X.prog X.w) X.A (noteFrame (.ref a) X.env) _ _ _
    refine Sky.land Zc.steady hfr hf sky2 fun m3 l3 up3 => ?_
    have J3 : Inv X pins σ' Z { s' with heap := m3 } := J.landed nb l3.1 (up.trans up3) os ag
    obtain ⟨o3, w3, g3, z3, d3⟩ := l3.there
    have away : a ∉ frs (X.env :: X.outer) := fun hm => by
      obtain ⟨_, o', e', hnf⟩ := l3.2.2.1.mem hm
      rw [g3] at e'
      cases e'
      exact hnf _ d3
    have aL : a ≠ X.env.locals := fun z => away (List.mem_filterMap.mpr ⟨X.env, by simp, by rw [hf, z]⟩)
    have aF : a ∉ X.fs := fun hm => by
      obtain ⟨en, hen, eq⟩ := List.mem_filterMap.mp hm; exact away (List.mem_filterMap.mpr ⟨en, by simp [hen], eq⟩)
    have S3 := J3.suite g3 d3 na aL aF
    have go : ∀ {hs' : List ExceptHandler} {l' : List ClauseT}, HdsN X hs' l' → wMix X.K W0 D l' cl d σ' Z → wpAny (model X.prog X.w) X.A (handleBy (.ref a) X.env hs') (SP X pins D) X.xe { s' with heap := m3 } := by
      intro hs' l' hk
      induction hk with
      | nil =>
        intro w
        apply wpAny_handleBy_nil
        obtain ⟨k1, k2, k3, ob, ws, T, oT, tt, hob, hz, hda, hx1, hr⟩ := id l3
        unfold PySem.passOn; refine wpAny_bind (wpAny_field hob hda hx1 ?_)
        rw [if_neg (show ¬ ((Value.ref T == Value.none) = true) by simp)]
        have fin : wpAny (model X.prog X.w) X.A (setFlight (.ref a) X.env.frame) (fun _ s4 => wpAny (model X.prog X.w) X.A (throw (.ref a) : Sem Flow) (SP X pins D) X.xe s4) X.xe { s' with heap := m3 } := by
          rw [hf]
          exact HandSPX.setFlight_upZ l3 fun m4 hh4 up4 => wpAny_throw (tk _ _ ⟨a, B, sI, pins, σ', Z, cl, d, rfl, J, nb, (up.trans up3).trans up4, .inr (.inr (by rw [hst]; exact hh4)), na, os, ag, w⟩)
        first | exact wpAny_bind (wpAny_pure (wpAny_bind fin)) | exact wpAny_bind fin
      | @cons x nm c i ts t0 su p1 p2 hh2 l2 hc hn hsu r ih =>
        intro w
        obtain ⟨k, e1, yes, no⟩ := w
        refine wpAny_handleBy_cons (codeAny_handlers_test ?_) fun q => (by cases q)
        have looks : PySem.W.Looks (model X.prog X.w) m3 (typeOf (.ref a)) cl := fun A Q E s k q => wpAny_typeOf_ref (k _ _ g3) (by rw [z3.1]; exact q)
        have meets := PySem.W.exm_one (M := model X.prog X.w) J3.kIn looks e1
        have test : ∀ {Q E : Value → Shared → Prop}, Q c { s' with heap := m3 } → wpAny (model X.prog X.w) (X.A.mark (some (.ref a))) (eval (.Name x p1) X.env) Q E { s' with heap := m3 } := fun {Q E} q => by
          obtain ⟨g1, gd, gm | ⟨gm, gv, gn⟩⟩ := hc
          · exact ld_glob (X := X.suite a ((a, o3) :: (X.pn ++ pins))) S3 g1 gm q gd
          · exact ld_blt (X := X.suite a ((a, o3) :: (X.pn ++ pins))) S3 g1 gm gv q gn gd
        apply test
        apply meets.here
        cases k with
        | false =>
          change wpAny _ X.A (handleBy (.ref a) X.env hh2) _ _ _
          exact ih (no rfl)
        | true =>
          have yes2 := yes rfl a na
          cases nm with
          | none =>
            cases i with
            | some j => exact hn.elim
            | none =>
            apply codeAny_handlers_suite
            refine HandSPX.lands_againZ l3 fun m4 l4 up4 => ?_
            have J4 : Inv X pins σ' Z { s' with heap := m4 } := J.landed nb l4.1 ((up.trans up3).trans up4) os ag
            obtain ⟨o4, w4, g4, z4, d4⟩ := l4.there
            have S4 := J4.suite g4 d4 na aL aF
            refine wpAny_mono ((hsu a o4 cl d (X.pn ++ pins) z4 ⟨_, d4⟩).run [] _ _ Z _ S4 yes2) (fun f s6 q => ?_) (fun _ _ z => z.elim)
            cases f
            all_goals
              first
                | (obtain ⟨σ6, H6, S6, q6⟩ := q; exact ⟨_, _, S6.unsuite ok, q6⟩)
                | (obtain ⟨v6, σ6, H6, S6, r6, q6⟩ := q; exact ⟨_, _, _, S6.unsuite ok, r6, q6⟩)
          | some n =>
            cases i with
            | none => exact hn.elim
            | some j =>
            obtain ⟨hi, hln⟩ := hn
            apply codeAny_handlers_suite_as
            refine HandSPX.lands_againZ l3 fun m4 l4 up4 => ?_
            have J4 : Inv X pins σ' Z { s' with heap := m4 } := J.landed nb l4.1 ((up.trans up3).trans up4) os ag
            obtain ⟨o4, w4, g4, z4, d4⟩ := l4.there
            have S4 := J4.suite g4 d4 na aL aF
            refine store_ok (X := X.suite a ((a, o4) :: (X.pn ++ pins))) (v := .ref a) S4 hN hi (.inl hln) rfl (fun s5 S5 => ?_) (.inr hln)
            refine wpAny_mono ((hsu a o4 cl d (X.pn ++ pins) z4 ⟨_, d4⟩).run [] s5 _ Z _ S5 yes2) (fun f s6 q => ?_) (fun _ _ z => z.elim)
            have gone : ∀ {σ6 : L2.St} {H6 : Hp} {Q : Shared → Prop}, Inv (X.suite a ((a, o4) :: (X.pn ++ pins))) [] σ6 H6 s6 → (∀ s7, Inv X pins (σ6.set j none) H6 s7 → Q s7) → wpAny (model X.prog X.w) X.A (do bindName X.env n .none; unbindBehindTheSuite X.env n p2) (fun _ s7 => Q s7) X.xe s6 := fun {σ6 H6 Q} S6 hq => gone_ok (S6.unsuite ok) hN hi hln hq
            cases f
            all_goals
              first
                | (obtain ⟨σ6, H6, S6, q6⟩ := q; exact gone S6 fun s7 J7 => ⟨_, _, J7, q6⟩)
                | (obtain ⟨v6, σ6, H6, S6, r6, q6⟩ := q; exact gone S6 fun s7 J7 => ⟨_, _, _, J7, r6, q6⟩)
    exact go hh w
  refine wpAny_mono run (fun f s1 q => ?_) (fun e s1 he => he)
  cases f
  all_goals
    first
      | (obtain ⟨σ', Z, J', q⟩ := q; exact wpAny_execs_nil ⟨σ', Z, J'.ofTry ok, q⟩)
      | (obtain ⟨σ', Z, J', q⟩ := q; exact ⟨σ', Z, J'.ofTry ok, q⟩)
      | (obtain ⟨v, σ', Z, J', r, q⟩ := q; exact ⟨v, σ', Z, J'.ofTry ok, r, q⟩)
end
end RS

set_option maxRecDepth 100000
set_option maxHeartbeats 4000000
namespace RS
open PySem PySem.Spec PyProof.Rows L2 NdefX He
/-! ### an own exception whose __init__ stores no field, made without arguments -/
section
variable {X : Cx} {pins : List (Addr × Obj)} {σ : L2.St} {H1 : Hp} {x : Str} {C : Addr} {p pos : Pos}
theorem mk0_end {Q : XK} {hp hp2 h2 : Heap} {g1 g2 : Array GenState} {d1 d2 : Drawn} {t1 t2 : Nat} {os1 os2 : OsState} {a : Addr} (T : Raises X (.ref C)) (I1 : Inv X pins σ H1 ⟨hp, g1, d1, t1, os1⟩)
    (ha : hp.objs.size ≤ a) (k : ∀ b o, hp.get? b = some o → hp2.get? b = some o) (un : Un (frs X.stack) [] (upd H1 a (exo a C none)) (upd H1 a (exo a C none)) hp2 h2) (hok : HOk X.prog X.w (upd H1 a (exo a C none)) h2) (ho : os2 = os1) (hb : AllBare g2) (q : Q (.ref C) none H1) :
    MkP X pins σ Q (.ref a) ⟨h2, g2, d2, t2, os2⟩ := by
  obtain ⟨t0, hoe⟩ := exo_at hok upd_same
  have hn : H1 a = none := I1.hok.fresh ha
  obtain ⟨G, r1, r2⟩ := restrict h2 fun b => decide (b ≠ a)
  have gk : ∀ b, b ≠ a → G.get? b = h2.get? b := fun b hb => r1 b (decide_eq_true hb)
  have ge : G.get? a = none := r2 a (by simp)
  have off : ∀ {b : Addr} {o : Obj}, hp.get? b = some o → b ≠ a := fun {b o} z => Nat.ne_of_lt (Nat.lt_of_lt_of_le (Heap.lt_size z) ha)
  have un0 : ∀ {b : Addr}, b ≠ a → upd H1 a (exo a C none) b = H1 b := fun {b} hb => upd_ne hb
  have U : Un (frs X.stack) [] H1 H1 hp G := {
    keep := fun b o z n hf hx => (gk b (off z)).trans (un.keep b o (k b o z) ((un0 (off z)).trans n) hf hx)
    slot := fun b o z n hf hx => by
      obtain ⟨sl, e⟩ := un.slot b o (k b o z) ((un0 (off z)).trans n) hf hx
      exact ⟨sl, (gk b (off z)).trans e⟩
    free := fun b o z n hx => n
    there := fun b o z hx => by
      obtain ⟨o', e⟩ := un.there b o (k b o z) hx
      exact ⟨o', (gk b (off z)).trans e⟩
    tups := fun b xs z => z
    frzs := fun b o v z => z
    tbls := fun b ps z => ⟨#[], by simpa using z⟩ }
  have hok3 : HOk X.prog X.w H1 G := fun b o z => by
    have hba : b ≠ a := fun e => by rw [e, hn] at z; cases z
    have z2 : upd H1 a (exo a C none) b = some o := (un0 hba).trans z
    have noa : ∀ {c : Addr}, upd H1 a (exo a C none) c = some (.own b) → c ≠ a := fun {c} hc => at_ne upd_same hc exo_own
    refine (hok b o z2).stay (fun c v hc y => ?_) (fun c hc => by rw [← un0 (noa hc)]; exact hc) (fun c xs hc => ?_)
    · have hca : c ≠ a := by
        rcases hc with hc | hc
        · rw [hc]; exact hba
        · exact noa hc
      rw [gk c hca]
      exact y
    · have hca : c ≠ a := at_ne upd_same hc exo_tup
      rw [← un0 hca]
      exact hc
  have J : Inv X pins σ H1 ⟨G, g2, d2, t2, os2⟩ := I1.call' (ch := []) ho U hok3 hb (fun b z => absurd z (by simp))
  refine ⟨a, _, _, ⟨G, g2, d2, t2, os2⟩, H1, .ref C, none, rfl, J, fun b o z => ?_, ge, hoe, ⟨rfl, rfl⟩, rfl, rfl, hn, rfl, hb, T, q⟩
  by_cases hba : b = a
  · rw [hba, ge] at z; cases z
  · exact (gk b hba).symm.trans z
/-- C() -/
theorem pmk_ex0 (Z : Exk X.prog X.w X.K X.mg X.base x C []) (hr : Room 2 X.A) (hg : Gl X x := by rfl) (hdb : (x == ("__debug__" : Str)) = false := by decide) : PMk X (.Call (.Name x p) [] [] pos) (fun _ H Q => Q (.ref C) none H) := by
  obtain ⟨fI, fd, ps, G, b, iC, tI⟩ := Z.ex
  have T := Z.T.sup.ox
  intro pins s σ H Q I h
  obtain ⟨nm, q, N, bs, bm, sn, sub, ab, col, dd, k0, k1, k2, k3, k5, hC, hbm⟩ := T.cls
  refine wpAny_Call_Name_kw (ld_glob I hg Z.g ?_ hdb)
  refine PySem.W.callWith_K0 I.kIn T.kC ?_
  change wpAny _ _ (call (.ref C) []) _ _ _
  obtain ⟨hp, g, dr, tk, os⟩ := s
  have hsz : hp.objs.size ≤ hp.objs.size + 1 := Nat.le_succ _
  have hn : H (hp.objs.size + 1) = none := I.hok.fresh hsz
  have kk : ∀ b o, hp.get? b = some o → ((hp.push (PySem.W.kdv_tup [])).push (PySem.HandSPX.excO C hp.objs.size)).get? b = some o := fun b o e => Heap.get?_push_of_some _ (Heap.get?_push_of_some _ e)
  have hget : ((hp.push (PySem.W.kdv_tup [])).push (PySem.HandSPX.excO C hp.objs.size)).get? (hp.objs.size + 1) = some (PySem.HandSPX.excO C hp.objs.size) := by heap_get
  have I2 : Inv X pins σ (upd H (hp.objs.size + 1) (exo (hp.objs.size + 1) C none)) ⟨(hp.push (PySem.W.kdv_tup [])).push (PySem.HandSPX.excO C hp.objs.size), g, dr, tk, os⟩ :=
    I.laid (t' := tk) (a := hp.objs.size + 1) (o := exo (hp.objs.size + 1) C none) kk hsz (exo_ok hget)
  have r2 : Vals [V.ref (hp.objs.size + 1)] [Value.ref (hp.objs.size + 1)] := .cons rfl .nil
  have hq : spEx C [] [V.ref (hp.objs.size + 1)] (upd H (hp.objs.size + 1) (exo (hp.objs.size + 1) C none)) (fun v H2 => v = .non ∧ H2 = upd H (hp.objs.size + 1) (exo (hp.objs.size + 1) C none)) (fun _ _ _ => False) :=
    ⟨_, [], rfl, rfl, upd_same, fun _ => ⟨rfl, rfl⟩, fun z => absurd rfl z⟩
  have hl : ([Value.ref (hp.objs.size + 1)] : List Value).length = ps.length := (G.len _ _ _ _ hq)
  refine wpAny_call (PySem.HandSPX.call_own PySem.F.excBase_ValueError (fun Y => PySem.HandSPX.refsVE_contains Y bm hbm) (I.kIn _ _ hC) (PySem.W.looks_findIn I.kIn iC) (fun self => PySem.W.bind_fn I.kIn self tI) (Nat.zero_le _)
    (codeAny_mono (G.run _ X.stack _ _ ⟨[Value.ref (hp.objs.size + 1)], []⟩ [Value.ref (hp.objs.size + 1)] _ _ (fun _ _ _ => False) (hr.make C [] []) (I2.env0.make C [] []) (b _ [Value.ref (hp.objs.size + 1)] I2.kIn hl) r2 hq) fun r s' hq' => ?_))
  match r, hq' with
  | .error er, hq' => exact pass0 pins σ _ _ er s' I2 hq'
  | .ok (.ret u), hq' =>
    obtain ⟨v, H2, os2, bare2, un2, hok2, rv, ev, eH⟩ := hq'
    subst ev eH
    obtain ⟨h2, g2, d2, t2, os'⟩ := s'
    exact ⟨rv, mk0_end (raises_own T.exC T.tyC) I hsz kk un2 hok2 os2 bare2 h⟩
  | .ok .next, hq' => exact hq'.elim
  | .ok .brk, hq' => exact hq'.elim
  | .ok .cont, hq' => exact hq'.elim
end
end RS

set_option maxRecDepth 100000
set_option maxHeartbeats 4000000
namespace RS
open PySem PySem.Spec PyProof.Rows L2 NdefX He PySem.W
variable [Tbls]
/-! ### several except clauses over data -/
abbrev DClause := Addr × Option Nat × (Addr → Value → Option Addr → TSD)
def endN (i : Option Nat) (N : EndsD) : EndsD := match i with
  | none => { N with ex := fun _ => XF }
  | some j => endS j N
def setN (i : Option Nat) (τ : SD) (d : D) : SD := match i with
  | none => τ
  | some j => τ.set j (some d)
def wD (K : Frg) (N : EndsD) : List DClause → SD → XD
  | [] => N.ex
  | (C0, i, Ts) :: r => fun τ' C fs M' => ∃ b, Exm K C C0 b ∧ (b = true → ∀ a d, (fs ≠ [] → d.isSome = true) → Ts a (.ref C) d (endN i N) (setN i τ' (.exc a d C fs)) M') ∧ (b = false → wD K N r τ' C fs M')
def dTryN (K : Frg) (Tb : TSD) (hs : List DClause) : TSD := fun N τ M => Tb { N with ex := wD K N hs } τ M
inductive DHd (X : Cx) : List ExceptHandler → List DClause → Prop
  | nil : DHd X [] []
  | cons {x : Str} {nm : Option Str} {C0 : Addr} {i : Option Nat} {Ts : Addr → Value → Option Addr → TSD} {t0 : Stmt} {su : List Stmt} {p1 p2 : Pos} {hh : List ExceptHandler} {l : List DClause} (hc : Names X x (.ref C0)) (hn : NmOk X nm i)
      (hs : ∀ (a : Addr) (oe : Obj) (cls : Value) (d : Option Addr) (pn : List (Addr × Obj)), Zc cls d oe → (∃ vs, oe.data = .fields vs) → DSs (X.suite a ((a, oe) :: pn)) E0' (t0 :: su) (Ts a cls d)) (r : DHd X hh l) :
      DHd X (.ExceptHandler (some (.Name x p1)) nm (t0 :: su) p2 :: hh) ((C0, i, Ts) :: l)
def upCl (K : Frg) (l : List DClause) : List ClauseT := l.map fun q => (.ref q.1, q.2.1, fun a cls d => upS K E0' (q.2.2 a cls d))
theorem DHd.up {X : Cx} {hh : List ExceptHandler} {l : List DClause} (h : DHd X hh l) : HdsN X hh (upCl X.K l) := by
  induction h with
  | nil => exact .nil
  | cons hc hn hs r ih => exact .cons hc hn (fun a oe cls d pn hz hf => (hs a oe cls d pn hz hf).p) ih
theorem LkS.endN {K : Frg} {F G : Hp} {N : EndsD} {D : Ends} {E : L2.St → XK} (lk : LkS K F G N D E) (i : Option Nat) : LkS K F G (RS.endN i N) (cOut i D) E0' := by
  cases i with
  | none => exact ⟨lk.nx, lk.rt, lk.bk, lk.ct, fun _ _ _ _ _ => KX.none⟩
  | some j =>
    refine ⟨?_, lk.rt, ?_, ?_, fun _ _ _ _ _ => KX.none⟩
    · exact fun σ5 τ5 M5 F5 H5 q5 s5 rep5 rs5 => lk.nx _ _ M5 F5 H5 q5 s5 rep5 (rs5.none j)
    · exact fun σ5 τ5 M5 F5 H5 q5 s5 rep5 rs5 => lk.bk _ _ M5 F5 H5 q5 s5 rep5 (rs5.none j)
    · exact fun σ5 τ5 M5 F5 H5 q5 s5 rep5 rs5 => lk.ct _ _ M5 F5 H5 q5 s5 rep5 (rs5.none j)
theorem Rs.setN {K : Frg} {F : Hp} {σ : L2.St} {τ : SD} {a : Addr} {d : D} (h : Rs K F σ τ) (r : Rv K F (.ref a) d) (i : Option Nat) : Rs K F (cIn i a σ) (RS.setN i τ d) := by
  cases i with
  | none => exact h
  | some j => exact h.set r j
section
variable {X : Cx} {E : L2.St → XK} {h0 : ExceptHandler} {hds : List ExceptHandler} {body : List Stmt} {pos : Pos} {Tb : TSD} {l : List DClause}
theorem ds_tryN {K : Frg} (hk : X.K = K) (hs : X.stack = X.env :: X.outer) (hf : X.env.frame = some X.env.locals) (hN : X.N.Nodup) (tk : Takes X (fun c d σ H => E σ c d H))
    (hb : ∀ (W : WX) (pn : List (Addr × Obj)) (xe : Value → Shared → Prop), Takes (X.tr pn xe) W → PassesOwn (model X.prog X.w) X.A X.env xe → DSs (X.tr pn xe) (WE W) body Tb)
    (hh : DHd X (h0 :: hds) l) : DS X E (.Try body (h0 :: hds) [] [] pos) (dTryN K Tb l) := by
  subst hk
  refine ⟨(ps_try_mix (tb := fun W => upS X.K (WE W) Tb) hs hf hN tk (fun W pn xe tk' po => (hb W pn xe tk' po).p) hh.up).imp fun D σ H ⟨F, M, G, τ, N, rs, rep, h, lk⟩ => ?_⟩
  refine ⟨F, M, G, τ, _, rs, rep, h, ⟨lk.nx, lk.rt, lk.bk, lk.ct, fun σ' τ' F1 s1 rs1 C fs M' F2 H' d q s2 rep2 rx => ?_⟩⟩
  have s12 := s1.trans s2
  have key : ∀ l : List DClause, wD X.K N l τ' C fs M' → wMix X.K (fun c d σ H => E σ c d H) D (upCl X.K l) (.ref C) d σ' H' := by
    intro l
    induction l with
    | nil => exact fun q => (lk.ex σ' τ' F1 s1 rs1) C fs M' F2 H' d q s2 rep2 rx
    | cons c l ih =>
      obtain ⟨C0, i, Ts⟩ := c
      rintro ⟨b, eb, h1, h2⟩
      refine ⟨b, eb, fun hb a ha => ?_, fun hb => ih (h2 hb)⟩
      exact ⟨F2, M', G, _, _, (rs1.mono s2).setN (rx.rv a C) i, rep2, h1 hb a d rx.some, (lk.le s12).endN i⟩
  exact key l q
end
/-! ### raise X() of an own exception without fields -/
section
variable {X : Cx} {E : L2.St → XK} {x : Str} {C : Addr} {p pos pos' : Pos}
def dRaise0 (C : Addr) : TSD := fun N τ M => N.ex τ C [] M
theorem ds_raise0 (hc : X.calm = true) (tk : Takes X (fun c d σ H => E σ c d H)) (M0 : Exk X.prog X.w X.K X.mg X.base x C []) (hr : Room 2 X.A) (hg : Gl X x := by rfl) (hdb : (x == ("__debug__" : Str)) = false := by decide) :
    DS X E (.Raise (some (.Call (.Name x p) [] [] pos)) none pos') (dRaise0 C) :=
  ⟨(L2.ps_raise hc tk (pmk_ex0 M0 hr hg hdb)).imp fun D σ H ⟨F, M, G, τ, N, rs, rep, h, lk⟩ => (lk.ex.at rs) C [] M F H none h (L2.Same.refl F) rep rfl⟩
end
end RS

set_option maxRecDepth 100000
set_option maxHeartbeats 4000000
namespace RS
open PySem PySem.Spec PyProof.Rows L2 NdefX He PySem.W LamX
variable [Tbls]
/-! ### a lambda without parameters, handed to a def that tries it -/
/-- what a lambda's body does; what the def makes of it -/
abbrev TLD := MS → (D → MS → Prop) → XD → Prop
abbrev STD := TLD → MS → (D → MS → Prop) → Prop
def upTT (K : Frg) (S : STD) : (XK → Hp → VK → Prop) → Hp → VK → Prop := fun tl H Q => ∃ F M G R, ∃ tD : TLD, Rep K F M G H ∧ S tD M R ∧ KQ K F G R Q ∧
  ∀ (R' : D → MS → Prop) (W' : XD) (E : XK) (Q' : VK), tD M R' W' → KQ K F G R' Q' → KX K F G W' E → tl E H Q'
def dLam (S : STD) (T : TD) : TD := fun τ M R _ => S (fun M' R' W' => T τ M' R' W') M R
theorem Pl.nt {o : HO} (h : Pl o) : ∀ ps, o ≠ .tbl ps := fun ps e => by subst e; exact h
theorem Hd.nt {o : HO} (h : Hd o) : ∀ ps, o ≠ .tbl ps := fun ps e => by subst e; exact h
theorem Rep.extN {K : Frg} {F : Hp} {M : MS} {G H H1 : Hp} (R : Rep K F M G H) (e : ExtN H H1) (t : Tabs TL H1) : Rep K F M G H1 := by
  refine ⟨fun b o q => e _ _ (R.fz _ _ q) (R.nt _ _ q).nt, fun b m q => ?_, fun b o q => ?_, R.nt, R.ng, t⟩
  · obtain ⟨x, y, z⟩ := R.mu b m q
    obtain ⟨u, hu⟩ := z.some
    rw [hu] at z
    exact ⟨x, y, by rw [e _ _ hu z.hd.1.nt]; exact z⟩
  · obtain ⟨x, y⟩ := R.fr b o q
    exact ⟨e _ _ x (R.ng _ _ q).nt, y⟩
theorem Rs.nones {K : Frg} {F : Hp} : ∀ (σ : L2.St), Rs K F σ (List.replicate σ.length Option.none)
  | [] => .nil
  | _ :: σ => .cons (fun e h => nomatch h) (Rs.nones σ)
section
variable {K : Frg} {F F1 F2 G H' : Hp} {N : EndsD} {DD : Ends} {E : L2.St → XK} {σ' : L2.St} {τ' : SD} {M' : MS} {C : Addr} {fs : List (Str × D)} {d : Option Addr}
theorem wD_up (lk : LkS K F G N DD E) (rs : Rs K F1 σ' τ') (s1 : L2.Same F F1) (s2 : L2.Same F1 F2) (rep : Rep K F2 M' G H') (rx : Rx K F2 d fs) : ∀ l : List DClause, wD K N l τ' C fs M' → wMix K (fun c d σ H => E σ c d H) DD (upCl K l) (.ref C) d σ' H'
  | [] => fun q => (lk.ex σ' τ' F1 s1 rs) C fs M' F2 H' d q s2 rep rx
  | (C0, i, Ts) :: l => fun ⟨b, eb, h1, h2⟩ => ⟨b, eb, fun hb a ha => ⟨F2, M', G, _, _, (rs.mono s2).setN (rx.rv a C) i, rep, h1 hb a d rx.some, (lk.le (s1.trans s2)).endN i⟩, fun hb => wD_up lk rs s1 s2 rep rx l (h2 hb)⟩
end
/-- how the def ends -/
def endT (R : D → MS → Prop) : EndsD := { nx := fun _ => Rt R .non, rt := Rt R, ex := fun _ => XF }
theorem takes_len {X : Cx} {W : WX} (t : Takes X W) : Takes X (fun c d σ H => σ.length = X.N.length → W c d σ H) := fun u s' ⟨a, B, sI, pins, σ, H, cls, d, e, I, nb, up, sky, na, os, ag, w⟩ =>
  t u s' ⟨a, B, sI, pins, σ, H, cls, d, e, I, nb, up, sky, na, os, ag, w I.len⟩
/-- what try: a() / except ..; the rest makes of the lambda -/
def sTry (K : Frg) (n : Nat) (l : List DClause) (Tr : TSD) : STD := fun tD M R => tD M (fun _ M' => Tr (endT R) (List.replicate n none) M') (wD K { endT R with nx := Tr (endT R) } l (List.replicate n none))
theorem gives_try {X : Cx} {Ng : List Str} {x a q : Str} {sg : Scope} {g : Addr} {cdg : Value} {h0 : ExceptHandler} {hds : List ExceptHandler} {rest : List Stmt} {l : Shared → Hp → List DClause} {Tr : Shared → Hp → TSD} {S : STD} {p1 p2 p3 p4 : Pos}
    (hN : Ng.Nodup) (h1 : ∀ f : Addr, (L2.start Ng [V.ref f])[0]? = some (some (V.ref f))) (hl : ∀ f : Addr, (L2.start Ng [V.ref f]).length = Ng.length)
    (hh : ∀ (s : Shared) (H : Hp), DHd (cxOf C8.CX0 X.prog X.w X.K X.mg X.base Ng x sg g cdg X.A X.stack s H C8.E0).nox (h0 :: hds) (l s H))
    (hr : ∀ (s : Shared) (H : Hp), DSs (cxOf C8.CX0 X.prog X.w X.K X.mg X.base Ng x sg g cdg X.A X.stack s H C8.E0).nox E0' rest (Tr s H))
    (hS' : ∀ (s : Shared) (H : Hp) (tD : TLD) (M : MS) (R : D → MS → Prop), S tD M R → sTry X.K Ng.length (l s H) (Tr s H) tD M R) :
    GivesTo X Ng x sg g cdg (.Try [.Expr (.Call (.Name a p1) [] [] p2) p3] (h0 :: hds) [] [] p4 :: rest) a q (upTT X.K S) := by
  intro f c' s H Q tl act hc ⟨F, M, G, R, tD, rep, hS0, k, lift⟩
  have hS := hS' s H _ _ _ hS0
  have tr := ps_try_mix (X := (cxOf C8.CX0 X.prog X.w X.K X.mg X.base Ng x sg g cdg X.A X.stack s H C8.E0).nox) (pos := p4) (body := [.Expr (.Call (.Name a p1) [] [] p2) p3]) (W0 := fun _ _ _ _ => False)
    (tb := fun W D σ H => ∃ Ech : XK, (∀ cls d σ' H', Ech cls d H' → σ'.length = Ng.length → W cls d σ' H') ∧ σ[0]? = some (some (.ref f)) ∧ H c' = some (CodeO c' q) ∧ tl Ech H (fun _ H' => D.nx σ H'))
    rfl rfl hN LamX.takes0 (fun W pn xe tk _ => ⟨fun pins s' σ H' D I ⟨Ech, hW, e1, e2, e3⟩ => (pss_one (ps_expr (pos := p3) (act _ pn xe Ech p1 p2 (takes_len tk) hW))).run pins s' σ H' D I ⟨e1, e2, e3⟩⟩) (hh s H).up
  refine ⟨_, pss_cons tr (hr s H).p, ?_⟩
  have lk : LkS X.K F G (endT R) { nx := fun _ H' => Q .non H', rt := Q } E0' := by
    refine ⟨fun σ' τ' M' F' H' ⟨M2, sb, q⟩ s rep' _ => k _ M2 F' H' _ q s (rep'.weak sb) .non, fun d M' F' H' v ⟨M2, sb, q⟩ s rep' r => k _ M2 F' H' v q s (rep'.weak sb) r, fun _ _ _ _ _ z => z.elim, fun _ _ _ _ _ z => z.elim, fun _ _ _ _ _ => KX.none⟩
  have lk2 : LkS X.K F G { endT R with nx := Tr s H (endT R) } { nx := upS X.K E0' (Tr s H) { nx := fun _ H' => Q .non H', rt := Q }, rt := Q } E0' :=
    ⟨fun σ' τ' M' F' H' q s rep' rs => ⟨F', M', G, τ', _, rs, rep', q, lk.le s⟩, lk.rt, lk.bk, lk.ct, lk.ex⟩
  refine ⟨fun cls d H' => ∀ σ', σ'.length = Ng.length → wMix X.K (fun _ _ _ _ => False) { nx := upS X.K E0' (Tr s H) { nx := fun _ H' => Q .non H', rt := Q }, rt := Q } (upCl X.K (l s H)) cls d σ' H', fun cls d σ' H' z e => z σ' e, h1 f, hc, lift _ _ _ _ hS ?_ ?_⟩
  · intro d M' F' H' v q s' rep' _
    refine ⟨F', M', G, _, _, ?_, rep', q, lk.le s'⟩
    have r := Rs.nones (K := X.K) (F := F') (L2.start Ng [V.ref f])
    rw [hl f] at r
    exact r
  · intro C fs M' F' H' a w s' rep' rx σ' e
    have r := Rs.nones (K := X.K) (F := F) σ'
    rw [e] at r
    exact wD_up (E := E0') lk2 r (L2.Same.refl F) s' rep' rx (l s H) w
theorem takes_lam {X : Cx} {A : Around} {outer : List Env} {s : Shared} {H : Hp} {E : XK} {scope : Scope} {f c' : Addr} : Takes (lamCx X A outer s H E scope f c') (fun c d _ H => E c d H) := takes_of rfl rfl rfl rfl
/-- x(lambda: body) -/
theorem de_lam {X : Cx} {E : L2.St → XK} {S : STD} {T : TD} {x a : Str} {g c P : Addr} {k : Nat} {pg : Arguments} {bg : List Stmt} {sg : Scope} {dV kV doc pm cdv ct oc : Value} {an od : Option Addr} {osl : Array (Option Value)} {Ng : List Str}
    {params : Arguments} {body : Expr} {scope : Scope} {p lpos pos : Pos} (hm : X.mg x = some (.ref g)) (hk : PySem.W.keepIn X.K (.ref g) = true)
    (lk : X.K.lookup g = some ⟨oc, od, .func (PySem.W.fnOf x x pg bg sg dV kV doc pm an cdv ct), osl⟩) (hcg : PySem.W.codeIn X.K cdv x = true) (hb : L2.Binds X.K (PySem.W.fnOf x x pg bg sg dV kV doc pm an cdv ct) [a] []) (Sg : FnScope Ng [a] sg) (hNg : Ng[0]? = some a) (hva : Vis sg a)
    (hG : GivesTo X Ng x sg g cdv bg a (X.env.qual ++ "<lambda>") (upTT X.K S))
    (TB : TabB X.base X.mg c P) (hcode : X.env.code = .ref c) (hmT : (P, X.env.qual ++ "<lambda>") ∈ TL) (hu : ∀ p ∈ TL, p.1 = P → p.2 = X.env.qual ++ "<lambda>") (hr : Room (k + 2) X.A) (L : LamS X.env.scope scope) (hdef : defaultsOf params X.env = ([], []))
    (hbind : ∀ (q : Str) (cl : List (Str × Addr)) (pm cv ctv : Value), bindArgs (PySem.W.kla_fn "<lambda>" q params body scope cl pm cv ctv) ⟨[], []⟩ = pure [])
    (hbody : ∀ (A : Around) (outer : List Env) (s : Shared) (H : Hp) (E : XK) (f c' : Addr), Room k (A.deeper (lamEnv X scope s.heap.objs.size f c')) → Takes (lamCx X A outer s H E scope f c') (fun c d _ H => E c d H) → DE (lamCx X A outer s H E scope f c') (fun _ => E) body T)
    (hg : Gl X x := by rfl) (hdb : (x == ("__debug__" : Str)) = false := by decide) (hd : (a == ("__debug__" : Str)) = false := by decide) (hcd : (a == ("__classdict__" : Str)) = false := by decide) :
    DE X E (.Call (.Name x p) [.Lambda params body scope lpos] [] pos) (dLam S T) := by
  refine ⟨(pe_lamcall (T := TL) (t := fun E => up X.K (fun _ => E) T) hg hm hk lk hcg hb Sg hNg hva hG TB hcode hmT hu hr L hdef hbind (fun A outer s H E f c' hr => (hbody A outer s H E f c' hr takes_lam).p) hdb hd hcd).imp fun σ H Q ⟨F, M, G, τ, R, W, rs, rep, h, kq, kx⟩ => ?_⟩
  refine ⟨rep.tb, fun H1 eN T1 => ⟨F, M, G, R, fun M' R' W' => T τ M' R' W', rep.extN eN T1, h, kq, fun R' W' E Q' ht k1 k2 => ?_⟩⟩
  exact ⟨F, M, G, τ, R', W', rs, rep.extN eN T1, ht, k1, k2⟩
/-! ### defs that make lambdas -/
/-- the def's code object and its table -/
def LamF [Tbls] (base : Heap) (mg : Str → Option Value) (cdv : Value) (q : Str) : Prop := ∃ c P, cdv = .ref c ∧ TabB base mg c P ∧ (P, q) ∈ TL ∧ ∀ p ∈ TL, p.1 = P → p.2 = q
theorem okDL {P : Program} {w : World} {K : Frg} {mg : Str → Option Value} {base : Heap} {x qual q : Str} {params : Arguments} {body : List Stmt} {scope : Scope} {dvs : List V} {kws : List (Str × V)} {f : Addr} {fd : FuncData} {N ps : List Str} {k : Nat} {S : SpD}
    (F : FunD K x qual params body scope dvs kws f fd) (LF : LamF base mg fd.code q) (sc : FnScope N ps scope) (len : ∀ ds M R W, S ds M R W → ds.length = ps.length)
    (hbody : ∀ (cdv : Value) (A : Around) (outer : List Env) (s : Shared) (H : Hp) (E : XK), LamF base mg cdv q → Room k (A.deeper (envOfC qual scope s.heap.objs.size f cdv)) →
      (∀ σ, PassesAt (L2.CX P w) (cxOf (L2.CX P w) P w K mg base N qual scope f cdv A outer s H E) σ E) → Takes (cxOf (L2.CX P w) P w K mg base N qual scope f cdv A outer s H E) (fun c d _ H => E c d H) →
      ∃ T, DSs (cxOf (L2.CX P w) P w K mg base N qual scope f cdv A outer s H E) (fun _ => E) body T ∧ ∀ ds M R W, S ds M R W → T { nx := fun _ M' => Rt R .non M', rt := Rt R, ex := fun _ => Wt W } (startD N ds) M) : FnOk P w K mg base (L2.CX P w) (k + 1) f fd ps (upSp K S) := by
  obtain ⟨oc, od, dV, kV, doc, pm, an, cdv, ct, osl, rfl, lk, hcd, _, _⟩ := F.ex
  have LF' : LamF base mg cdv q := LF
  refine fn_of lk hcd sc (fun vs H Q E h => ?_) (fun A outer s H vs Q E hr h => ?_)
  · obtain ⟨F, M, G, ds, R, W, r, rep, hs, _⟩ := h
    rw [r.len]
    exact len _ _ _ _ hs
  · obtain ⟨F, M, G, ds, R, W, r, rep, hs, k, kx⟩ := h
    have tk : Takes (cxOf (L2.CX P w) P w K mg base N qual scope f cdv A outer s H E) (fun c d _ H => E c d H) := takes_of rfl rfl rfl rfl
    obtain ⟨T, hT, hw⟩ := hbody cdv A outer s H E LF' hr (fun σ => passAt tk σ) tk
    refine ⟨_, hT.p, F, M, G, startD N ds, _, Rs.start r, rep, hw ds M R W hs, ⟨?_, ?_, ?_, ?_, ?_⟩⟩
    · exact fun σ' τ' M' F' H' ⟨M2, sb, q⟩ s rep' _ => k _ M2 F' H' _ q s (rep'.weak sb) .non
    · exact fun d M' F' H' v ⟨M2, sb, q⟩ s rep' r => k _ M2 F' H' v q s (rep'.weak sb) r
    · exact fun _ _ _ _ _ z => z.elim
    · exact fun _ _ _ _ _ z => z.elim
    · exact fun σ' τ' F' s _ C fs M' F2 H' a ⟨M2, sb, q⟩ s2 rep' r => kx C fs M2 F2 H' a q (s.trans s2) (rep'.weak sb) r
/-- a def that tries the lambda that it gets, seen from the caller X -/
structure Told (X : Cx) (x q : Str) (S : STD) : Prop where
  ex : ∃ (g : Addr) (pg : Arguments) (bg : List Stmt) (sg : Scope) (dV kV doc pm cdv ct oc : Value) (an od : Option Addr) (osl : Array (Option Value)) (Ng : List Str) (a : Str),
    X.mg x = some (.ref g) ∧ PySem.W.keepIn X.K (.ref g) = true ∧ X.K.lookup g = some ⟨oc, od, .func (PySem.W.fnOf x x pg bg sg dV kV doc pm an cdv ct), osl⟩ ∧ PySem.W.codeIn X.K cdv x = true ∧
    L2.Binds X.K (PySem.W.fnOf x x pg bg sg dV kV doc pm an cdv ct) [a] [] ∧ FnScope Ng [a] sg ∧ Ng[0]? = some a ∧ Vis sg a ∧ GivesTo X Ng x sg g cdv bg a q (upTT X.K S) ∧ (a == ("__debug__" : Str)) = false ∧ (a == ("__classdict__" : Str)) = false
theorem Told.of {X : Cx} {x q a : Str} {S : STD} {pg : Arguments} {bg : List Stmt} {sg : Scope} {g : Addr} {fd : FuncData} {Ng : List Str} (F : FunD X.K x x pg bg sg [] [] g fd) (hm : X.mg x = some (.ref g)) (hb : L2.Binds X.K fd [a] []) (Sg : FnScope Ng [a] sg) (hNg : Ng[0]? = some a) (hva : Vis sg a)
    (hG : ∀ cdv, GivesTo X Ng x sg g cdv bg a q (upTT X.K S)) (hd : (a == ("__debug__" : Str)) = false := by decide) (hcd : (a == ("__classdict__" : Str)) = false := by decide) : Told X x q S := by
  obtain ⟨oc, od, dV, kV, doc, pm, an, cdv, ct, osl, rfl, lk, hc, _, _⟩ := F.ex
  exact ⟨⟨g, pg, bg, sg, dV, kV, doc, pm, cdv, ct, oc, an, od, osl, Ng, a, hm, F.kp, lk, hc, hb, Sg, hNg, hva, hG cdv, hd, hcd⟩⟩
theorem gives_imp {X : Cx} {Ng : List Str} {x a q : Str} {sg : Scope} {g : Addr} {cdg : Value} {bg : List Stmt} {S S' : STD} (h : GivesTo X Ng x sg g cdg bg a q (upTT X.K S)) (i : ∀ tD M R, S' tD M R → S tD M R) : GivesTo X Ng x sg g cdg bg a q (upTT X.K S') :=
  fun f c' s H Q tl act hc ⟨F, M, G, R, tD, rep, hS, k, lift⟩ => h f c' s H Q tl act hc ⟨F, M, G, R, tD, rep, i _ _ _ hS, k, lift⟩
/-- the same seen from every caller with room -/
def TldC (P : Program) (w : World) (K : Frg) (mg : Str → Option Value) (base : Heap) (lv : Nat) (x : Str) (S : STD) : Prop := ∀ X : Cx, X.prog = P → X.w = w → X.K = K → X.mg = mg → X.base = base → Room lv X.A → ∀ q, Told X x q S
/-- x(lambda: body), the def's promise at hand -/
theorem de_lamT {X : Cx} {E : L2.St → XK} {S : STD} {T : TD} {x : Str} {k : Nat} {params : Arguments} {body : Expr} {scope : Scope} {p lpos pos : Pos} (t : Told X x (X.env.qual ++ "<lambda>") S) (LF : LamF X.base X.mg X.env.code (X.env.qual ++ "<lambda>"))
    (hr : Room (k + 2) X.A) (L : LamS X.env.scope scope) (hdef : defaultsOf params X.env = ([], []))
    (hbind : ∀ (q : Str) (cl : List (Str × Addr)) (pm cv ctv : Value), bindArgs (PySem.W.kla_fn "<lambda>" q params body scope cl pm cv ctv) ⟨[], []⟩ = pure [])
    (hbody : ∀ (A : Around) (outer : List Env) (s : Shared) (H : Hp) (E : XK) (f c' : Addr), Room k (A.deeper (lamEnv X scope s.heap.objs.size f c')) → Takes (lamCx X A outer s H E scope f c') (fun c d _ H => E c d H) → DE (lamCx X A outer s H E scope f c') (fun _ => E) body T)
    (hg : Gl X x := by rfl) (hdb : (x == ("__debug__" : Str)) = false := by decide) :
    DE X E (.Call (.Name x p) [.Lambda params body scope lpos] [] pos) (dLam S T) := by
  obtain ⟨g, pg, bg, sg, dV, kV, doc, pm, cdv, ct, oc, an, od, osl, Ng, a, h1, h2, h3, h4, h5, h6, h7, h8, h9, h10, h11⟩ := t.ex
  obtain ⟨c, P, e1, e2, e3, e4⟩ := LF
  exact de_lam h1 h2 h3 h4 h5 h6 h7 h8 h9 e2 e1 e3 e4 hr L hdef hbind hbody hg hdb h10 h11
end RS

set_option maxRecDepth 100000
set_option maxHeartbeats 4000000
namespace RS
open PySem PySem.Spec PyProof.Rows L2 NdefX He PySem.W
variable [Tbls]
/-! ### the caught one may be of one of several classes -/
def dOrE (T1 T2 : TD) : TD := fun τ M R W => T1 τ M R W ∨ T2 τ M R W
theorem de_orE {X : Cx} {E : L2.St → XK} {e : Expr} {T1 T2 : TD} (h1 : DE X E e T1) (h2 : DE X E e T2) : DE X E e (dOrE T1 T2) :=
  ⟨⟨fun pins s σ H Q I ⟨F, M, G, τ, R, W, rs, rep, h, k, kx⟩ => h.elim (fun h => h1.p.run pins s σ H Q I ⟨F, M, G, τ, R, W, rs, rep, h, k, kx⟩) fun h => h2.p.run pins s σ H Q I ⟨F, M, G, τ, R, W, rs, rep, h, k, kx⟩⟩⟩
/-- isinstance(n, (c1, c2)) of the caught one n -/
theorem call_isXT {X : Cx} {a D : Addr} {cls : Value} {oe : Obj} {d : Option Addr} {pn : List (Addr × Obj)} (C : ExcC X.K D) (hz : Zc cls d oe) (hf : ∃ vs, oe.data = .fields vs) : CallR (X.suite a ((a, oe) :: pn)) (.builtin "isinstance")
    (fun xs H Q => cls = .ref D ∧ (∀ dd, d = some dd → ∃ fs, H dd = some (.xd fs)) ∧ ∃ (tp : Addr) (cs : List V) (ws : List Value) (b : Bool), xs = [.ref a, .ref tp] ∧ H tp = some (.tup cs) ∧ Paired ClsV cs ws ∧ PySem.W.kitAny X.K (.ref D) ws = some b ∧ Q (.bl b) H) := by
  intro pins s σ H xs us Q I r h
  obtain ⟨rfl, hd, tp, cs, ws, b, rfl, hT, k, e, q⟩ := h
  obtain ⟨u1, u2, rfl, r1, r2⟩ := vals2 r
  cases (show u2 = Value.ref tp from r2)
  cases (show u1 = Value.ref a from r1)
  obtain ⟨hget, _⟩ := I.pin (a, oe) (List.mem_append.mpr (.inl List.mem_cons_self))
  obtain ⟨vs, hv⟩ := hf
  have J : ∃ odx, PySem.W.InstAt s.heap a oe D odx := by
    obtain ⟨oc, od, oda, osl⟩ := oe
    obtain ⟨h1, h2⟩ := hz
    dsimp only at h1 h2 hv
    subst h1 h2 hv
    match od, hd, hget with
    | none, _, hget => exact ⟨none, hget, rfl, rfl, trivial⟩
    | some dd, hd, hget =>
      obtain ⟨fs, e⟩ := hd dd rfl
      obtain ⟨mA, hns, hr⟩ := (show ObjOk X.prog X.w H s.heap dd (.xd fs) from I.hok dd _ e)
      obtain ⟨od, ho, hl⟩ := lookIn_ns hns
      exact ⟨some od, hget, rfl, rfl, ho⟩
  obtain ⟨_, its, rv, o, h1, h2, n, h3⟩ := (show ObjOk X.prog X.w H s.heap tp (.tup cs) from I.hok tp _ hT)
  have e3 := ClsV.all k rv
  subst e3
  obtain ⟨oc, od, dt, sl⟩ := o
  simp only at h2 h3
  subst h2 h3
  exact PySem.W.kia_tup (PySem.RSX.kitx_excX C.hg C.hk C.hs C.hd C.ha C.hn C.ht C.hm) I.kIn J h1 e (fun z => nomatch z) fun tk => ⟨.bl b, H, I.kept (t' := tk) fun _ _ z => z, rfl, q⟩
def dIsXT (K : Frg) (a : Addr) (cls : Value) (d : Option Addr) (C : Addr) (x c1 c2 : D) (M : MS) (R : D → MS → Prop) : Prop := match x, clsTag c1, clsTag c2 with
  | .exc a' d' C' _, some t1, some t2 => a' = a ∧ d' = d ∧ cls = .ref C ∧ C' = C ∧ ∃ b b', IsA K (.own C) t1 b ∧ IsA K (.own C) t2 b' ∧ R (.bl (b || b')) M
  | _, _, _ => False
section
variable {X : Cx} {E : L2.St → XK} {pos p : Pos} {x : Str} {e e1 e2 o : Expr} {T T1 T2 : TD} {C : Addr}
theorem de_isXT {a : Addr} {oe : Obj} {cls : Value} {d : Option Addr} {pn : List (Addr × Obj)} {k1 pp} (hC : ExcC X.K C) (hz : Zc cls d oe) (hf : ∃ vs, oe.data = .fields vs) (hm : X.mg "isinstance" = none)
    (he : DE (X.suite a ((a, oe) :: pn)) E e T) (h1 : DE (X.suite a ((a, oe) :: pn)) E e1 T1) (h2 : DE (X.suite a ((a, oe) :: pn)) E e2 T2) (hg : Gl X "isinstance" := by rfl)
    (s1 : starEach [e, .Tuple [e1, e2] k1 pp] X.env = (false, eval e X.env) :: starEach [.Tuple [e1, e2] k1 pp] X.env := by rfl) (s2 : (backTo pos (starEach [.Tuple [e1, e2] k1 pp] X.env)).any (·.1) = false := by rfl)
    (s3 : starEach [.Tuple [e1, e2] k1 pp] X.env = (false, eval (.Tuple [e1, e2] k1 pp) X.env) :: starEach [] X.env := by rfl) (s4 : starEach [e1, e2] X.env = (false, eval e1 X.env) :: starEach [e2] X.env := by rfl) (s5 : starEach [e2] X.env = (false, eval e2 X.env) :: starEach [] X.env := by rfl) :
    DE (X.suite a ((a, oe) :: pn)) E (.Call (.Name "isinstance" p) [e, .Tuple [e1, e2] k1 pp] [] pos) (fun τ M R W => T τ M (fun x M1 => T1 τ M1 (fun c1 M2 => T2 τ M2 (fun c2 M3 => dIsXT X.K a cls d C x c1 c2 M3 R) W) W) W) := by
  refine ⟨(pe_callB (call_isXT hC hz hf) hg hm (by decide +kernel) (pa_cons he.p (pa_cons (pe_tup (pa_cons h1.p (pa_cons h2.p pa_nil s5) s4)) pa_nil s3) s1) (by decide) (by decide) s1 s2).imp fun σ H Q ⟨F, M, G, τ, R, W, rs, rep, h, k, kx⟩ => ?_⟩
  refine ⟨F, M, G, τ, _, W, rs, rep, h, fun dd M1 F1 H1 v q q1 rep1 r1 => ?_, kx⟩
  refine ⟨F1, M1, G, τ, _, W, rs.mono q1, rep1, q, fun c1 M2 F2 H2 v1 qq q2 rep2 r2 => ?_, kx.le q1⟩
  refine ⟨F2, M2, G, τ, _, W, (rs.mono q1).mono q2, rep2, qq, fun c2 M3 F3 H3 v2 h q3 rep3 r3 => ?_, (kx.le q1).le q2⟩
  refine ⟨by show 2 ≤ sizeLine; rw [sizeLine_eq]; decide, fun pt hp => ?_⟩
  dsimp only [dIsXT] at h
  split at h
  · rename_i a' d' C' fs t1 t2 z2 z3
    obtain ⟨rfl, rfl, rfl, rfl, b, b', hb, hb', hR⟩ := h
    have ha : PySem.W.kitAny X.K (.ref C') [t1.v, t2.v] = some (b || b') := kitAny_cons (b := b) hb (fun e => by subst e; exact kitAny_cons (b := b') hb' (fun e => by subst e; exact kitAny_nil) fun e => by subst e; rfl) fun e => by subst e; rfl
    obtain ⟨rep4, s4⟩ := rep3.newF (o := .tup [v1, v2]) hp
    have r1' := ((r1.mono q2).mono q3).mono s4
    cases r1' with
    | exc0 => exact ⟨rfl, (fun dd z => nomatch z), pt, [v1, v2], _, _, rfl, upd_same, .cons (rv_clsTag r2 z2) (.cons (rv_clsTag r3 z3) .nil), ha, k _ M3 _ _ _ hR (((q1.trans q2).trans q3).trans s4) rep4 (.bl _)⟩
    | exc1 e1 rr => exact ⟨rfl, fun dd z => (by cases z; exact ⟨_, rep4.fz _ _ e1⟩), pt, [v1, v2], _, _, rfl, upd_same, .cons (rv_clsTag r2 z2) (.cons (rv_clsTag r3 z3) .nil), ha, k _ M3 _ _ _ hR (((q1.trans q2).trans q3).trans s4) rep4 (.bl _)⟩
  · exact h.elim
end
end RS

set_option maxRecDepth 100000
set_option maxHeartbeats 4000000
namespace RS
open PySem PySem.Spec PyProof.Rows L2 He
/-! ### t[::-1] of a tuple -/
theorem back_places (n : Nat) : Builtin.Slice.sliceAdjust none none (-1) (n : Int) = ((n : Int) - 1, -1) ∧ Builtin.Slice.slicePlaces ((n : Int) - 1) (-1) (-1) = n := by
  constructor
  · rfl
  · unfold Builtin.Slice.slicePlaces
    rw [if_neg (by decide)]
    by_cases h : (n : Int) - 1 > -1
    · rw [if_pos h]
      show ((((n : Int) - 1 - -1 - 1) / 1 + 1).toNat) = n
      rw [Int.ediv_one]
      omega
    · rw [if_neg h]
      show (0 : Int).toNat = n
      omega
theorem back_pick (xs : Array Value) : ((List.range xs.size).filterMap fun (k : Nat) => xs[(((xs.size : Int) - 1) + (k : Int) * (-1)).toNat]?).toArray = xs.toList.reverse.toArray := by
  congr 1
  apply List.ext_getElem?
  intro i
  have e : (List.range xs.size).filterMap (fun (k : Nat) => xs[(((xs.size : Int) - 1) + (k : Int) * (-1)).toNat]?) = (List.range xs.size).map fun k => xs.getD (xs.size - 1 - k) .none := by
    have key : ∀ l : List Nat, (∀ k ∈ l, k < xs.size) → l.filterMap (fun (k : Nat) => xs[(((xs.size : Int) - 1) + (k : Int) * (-1)).toNat]?) = l.map fun k => xs.getD (xs.size - 1 - k) .none := by
      intro l
      induction l with
      | nil => intro _; rfl
      | cons k l ih =>
        intro h
        have hk := h k (List.mem_cons_self ..)
        have ek : (((xs.size : Int) - 1) + (k : Int) * (-1)).toNat = xs.size - 1 - k := by omega
        have hl : xs.size - 1 - k < xs.size := by omega
        rw [List.map_cons, ← ih fun j hj => h j (List.mem_cons_of_mem _ hj), List.filterMap_cons]
        rw [ek, Array.getElem?_eq_getElem hl]
        dsimp only
        congr 1
        simp [Array.getD, hl]
    exact key _ fun k hk => List.mem_range.mp hk
  rw [e]
  by_cases hi : i < xs.size
  · rw [List.getElem?_map, List.getElem?_range hi, List.getElem?_reverse (by simpa using hi)]
    have hl : xs.size - 1 - i < xs.size := by omega
    simp [Array.getD, hl]
  · rw [List.getElem?_eq_none (by simp; omega), List.getElem?_eq_none (by simp; omega)]
section
variable {prog : Program} {w : World} {A : Around} {E : Value → Shared → Prop} {s : Shared}
theorem back_applied {sl : Addr} {vl vu vs : Value} (n : Nat) {Q : Int × Int × Nat → Shared → Prop} (hs : s.heap.IsSliceOf sl vl vu vs) (pl : IsPart vl none) (pu : IsPart vu none) (ps : IsPart vs (some (-1))) (h : Q ((n : Int) - 1, -1, n) s) :
    wpAny (model prog w) A (Builtin.Slice.sliceApplied (.ref sl) (pure (n : Int))) Q E s := by
  obtain ⟨ob, ho, hc, hd⟩ := id hs
  unfold Builtin.Slice.sliceApplied Builtin.Slice.sliceFields
  refine wpAny_bind (wpAny_bind (wpAny_field ho hd (x := vl) rfl (wpAny_bind (wpAny_field ho hd (x := vu) rfl (wpAny_bind (wpAny_field ho hd (x := vs) rfl (wpAny_pure ?_)))))))
  refine wpAny_bind (HT.slicePart_ ps ?_)
  show wpAny _ _ (if ((-1 : Int) == 0) = true then _ else _) _ _ s
  rw [if_neg (by decide)]
  refine wpAny_bind (HT.slicePart_ pl (wpAny_bind (HT.slicePart_ pu (wpAny_bind (wpAny_pure ?_)))))
  show wpAny _ _ (match Builtin.Slice.sliceAdjust none none (-1) (n : Int) with | (lo, hi) => pure (lo, (-1 : Int), Builtin.Slice.slicePlaces lo hi (-1))) _ _ s
  obtain ⟨e1, e2⟩ := back_places n
  rw [e1]
  show wpAny _ _ (pure ((n : Int) - 1, (-1 : Int), Builtin.Slice.slicePlaces ((n : Int) - 1) (-1) (-1))) _ _ s
  rw [e2]
  exact wpAny_pure h
theorem back_tuple {t sl : Addr} {xs : Array Value} {vl vu vs : Value} {Q : Value → Shared → Prop} (ht : IsTup s.heap t xs) (hs : s.heap.IsSliceOf sl vl vu vs) (pl : IsPart vl none) (pu : IsPart vu none) (ps : IsPart vs (some (-1)))
    (h : Q (.ref s.heap.objs.size) { s with heap := s.heap.push { cls := .type "tuple", data := .seq xs.toList.reverse.toArray } }) (hz : xs.size ≤ sizeLine) : wpAny (model prog w) A (getItem (.ref t) (.ref sl)) Q E s := by
  have fit : sizeOk (.seq xs.toList.reverse.toArray) := by
    show xs.toList.reverse.toArray.size ≤ sizeLine
    rw [List.size_toArray, List.length_reverse, Array.length_toList]
    exact hz
  obtain ⟨ob, ho, hc, hd⟩ := id hs
  have ty : s.TypeIs (.ref sl) "slice" := ⟨ob, ho, hc⟩
  unfold getItem
  try with_reducible refine wpAny_holding ?_
  first | refine wpAny_bind (wpAny_pure ?_) | skip
  refine wpAny_bind (wpAny_sequenceKey ht.typeIs (by decide) (wpAny_bind (wpAny_callSpecial?_slot (name := Str.ofString "__getitem__") ht.typeIs PyProof.Rows.slot_tuple_getitem (wpAny_call_entry PyProof.Rows.slot_tuple_getitem ht.typeIs entry_tuple_getitem ?_ (args_tuple_getitem _ _)))))
  show wpAny _ _ (Builtin.Tuple.tupleItemsOf (.ref t) >>= _) _ _ s
  refine wpAny_bind (tupleItemsOf_ ht (wpAny_bind (wpAny_typeOf ty ?_)))
  rw [if_pos (by decide)]
  refine wpAny_bind (back_applied xs.size hs pl pu ps ?_)
  show wpAny _ _ (if ((xs.size : Int) - 1 == 0 && (-1 : Int) == 1 && xs.size == xs.size) = true then _ else _) _ _ s
  rw [if_neg (by intro q; rw [Bool.and_eq_true, Bool.and_eq_true] at q; exact absurd (eq_of_beq q.1.2) (by decide)), back_pick]
  first
    | exact wpAny_bind (m := Builtin.Tuple.tupleExact _) (wpAny_newObj_type (wpAny_pure ⟨_, rfl, wpAny_pure h⟩) fit)
    | exact wpAny_bind (m := Builtin.Tuple.tupleExact _) (wpAny_newObj_type (wpAny_bind (wpAny_pure (wpAny_pure ⟨_, rfl, wpAny_pure h⟩))) fit)
    | exact wpAny_bind (wpAny_bind (m := Builtin.Tuple.tupleExact _) (wpAny_newObj_type (wpAny_pure (wpAny_pure ⟨_, rfl, wpAny_pure h⟩)) fit))
    | exact wpAny_bind (wpAny_bind (m := Builtin.Tuple.tupleExact _) (wpAny_newObj_type (wpAny_pure ⟨_, rfl, wpAny_pure h⟩) fit))
end
/-- of a list, of a tuple -/
theorem pe_rev2 {X : Cx} {e : Expr} {te : TE} {k : Nat} {p1 p2 p3 pos : Pos} (he : PE X e te) : PE X (.Subscript e (.Slice none none (some (.UnaryOp .USub (.Constant (.int 1) k p1) p2)) p3) pos)
    (fun σ H Q => te σ H fun x H1 => ∃ a xs, x = .ref a ∧ ((SqL X.K H1 a xs ∧ ∀ p, H1 p = none → Q (.ref p) (upd H1 p (.lst xs.reverse))) ∨ (SqT X.K H1 a xs ∧ ∀ p, H1 p = none → Q (.ref p) (upd H1 p (.tup xs.reverse))))) := by
  refine ⟨fun pins s σ H Q I h => Subscript_ (thn (he.run pins s σ H _ I h) fun v s1 ⟨x, H1, I1, r1, a, xs, ex, hx⟩ => ?_)⟩
  subst ex
  cases r1
  have hst : PO X (some (.UnaryOp .USub (.Constant (.int 1) k p1) p2)) (tPart (tUn (rU fun i => .int (-i)) (tC (.int 1)))) := po_some (pe_un un_neg pe_int)
  refine wpAny_Slice (thn (po_none.run pins s1 σ H1 (fun o H2 => o = none ∧ H2 = H1) I1 ⟨rfl, rfl⟩) fun v1 s2 ⟨l, H2, I2, y1, el, e2⟩ => ?_)
  subst el e2
  refine thn (po_none.run pins s2 σ H2 (fun o H3 => o = none ∧ H3 = H2) I2 ⟨rfl, rfl⟩) fun v2 s3 ⟨u, H3, I3, y2, eu, e3⟩ => ?_
  subst eu e3
  refine thn (hst.run pins s3 σ H3 (fun o H4 => o = some (-1) ∧ H4 = H3) I3 ⟨1, rfl, -1, rfl, rfl, rfl⟩) fun v3 s4 ⟨o, H4, I4, y3, eo, e4⟩ => ?_
  subst eo e4
  have I5 : Inv X pins σ H4 { s4 with heap := s4.heap.push { cls := .type "slice", data := .fields #[v1, v2, v3] } } := I4.kept (t' := s4.toks) fun b ob q => Heap.get?_push_of_some _ q
  show wpAny (model X.prog X.w) X.A (subscriptTail e (.Slice none none (some (.UnaryOp .USub (.Constant (.int 1) k p1) p2)) p3) (.ref a) (.ref s4.heap.objs.size)) (EP X pins σ Q) X.xe { s4 with heap := s4.heap.push { cls := .type "slice", data := .fields #[v1, v2, v3] } }
  rcases hx with ⟨hx, q⟩ | ⟨hx, q⟩
  · obtain ⟨its, r, ht, hz⟩ := I5.list hx
    have hl := r.length
    refine tail_any (ops := [.ref a, .ref s4.heap.objs.size]) ht.isList.typeIs (PySem.slot_list_getitem.lookup) ?_ (by with_unfolding_all rfl)
    refine wpAny_getItem_list_slice ht.isList (Heap.IsSliceOf.new _ v1 v2 v3) y1 y2 y3 (by decide) ?_ (by rw [List.size_toArray]; omega)
    rw [PySem.W.krv_pick]
    refine ⟨.ref _, _, I5.laid (t' := s4.toks) (o := .lst xs.reverse) (fun b ob q => Heap.get?_push_of_some _ q) (Nat.le_refl _) ?_, rfl, q _ (I5.hok.fresh (Nat.le_refl _))⟩
    exact ⟨by rw [List.length_reverse]; exact hz, _, 0, r.reverse, Heap.get?_push_size _ rfl⟩
  · obtain ⟨its, r, ht, hz⟩ := I5.tuple hx
    have hl := r.length
    refine tail_any (ops := [.ref a, .ref s4.heap.objs.size]) ht.typeIs (PyProof.Rows.slot_tuple_getitem.lookup) ?_ (by with_unfolding_all rfl)
    refine back_tuple ht (Heap.IsSliceOf.new _ v1 v2 v3) y1 y2 y3 ?_ (by rw [List.size_toArray]; omega)
    refine ⟨.ref _, _, I5.laid (t' := s4.toks) (o := .tup xs.reverse) (fun b ob q => Heap.get?_push_of_some _ q) (Nat.le_refl _) ?_, rfl, q _ (I5.hok.fresh (Nat.le_refl _))⟩
    exact ⟨by rw [List.length_reverse]; exact hz, _, r.reverse, IsTup.new _ _⟩
end RS

set_option maxRecDepth 100000
set_option maxHeartbeats 4000000
namespace RS
open PySem PySem.Spec PyProof.Rows L2 NdefX He PySem.W
variable [Tbls]
/-! ### xs[::-1] of a list, of a tuple -/
theorem Rvs.back {K : Frg} {F : Hp} : ∀ {vs : List V} {ds : List D}, Rvs K F vs ds → Rvs K F vs.reverse ds.reverse
  | _, _, .nil => .nil
  | _, _, .cons x y => by
    rw [List.reverse_cons, List.reverse_cons]
    exact (Rvs.back y).snoc x
def dRev (T : TD) : TD := fun τ M R W => T τ M (fun d M1 => match vw M1 d with
  | .lst xs => R (.lst xs.reverse) M1
  | .tup xs => R (.tup xs.reverse) M1
  | _ => False) W
theorem de_rev {X : Cx} {E : L2.St → XK} {e : Expr} {T : TD} {k : Nat} {p1 p2 p3 pos : Pos} (he : DE X E e T) : DE X E (.Subscript e (.Slice none none (some (.UnaryOp .USub (.Constant (.int 1) k p1) p2)) p3) pos) (dRev T) := by
  refine ⟨(pe_rev2 he.p).imp fun σ H Q ⟨F, M, G, τ, R, W, rs, rep, h, k, kx⟩ => ?_⟩
  refine ⟨F, M, G, τ, _, W, rs, rep, h, fun d M1 F1 H1 v q s1 rep1 r1 => ?_, kx⟩
  dsimp only at q
  split at q
  · rename_i xs e
    obtain ⟨p, vs, rfl, e1, rr⟩ := vw_lst rep1 r1 e
    exact ⟨p, vs, rfl, .inl ⟨SqL.of e1, fun a ha => new_lst rep1 ha rr.back (k.le s1) q⟩⟩
  · rename_i xs e
    obtain ⟨p, vs, rfl, e1, rr⟩ := vw_tup rep1 r1 e
    exact ⟨p, vs, rfl, .inr ⟨Same.sqT rep1.fz e1, fun a ha => new_tup rep1 ha rr.back (k.le s1) q⟩⟩
  · exact q.elim
/-! ### [*xs, ..] -/
def dStar (T : TD) (U : TAD) : TAD := fun τ M R W => T τ M (fun d M1 => match vw M1 d with
  | .lst xs => U τ M1 (fun ds M2 => R (xs ++ ds) M2) W
  | .tup xs => U τ M1 (fun ds M2 => R (xs ++ ds) M2) W
  | _ => False) W
theorem da_star {X : Cx} {E : L2.St → XK} {e : Expr} {es : List Expr} {T : TD} {U : TAD} {p : Pos} (h1 : DE X E e T) (h2 : DAs X E es U) (hs : starEach (.Starred e p :: es) X.env = (true, eval e X.env) :: starEach es X.env := by rfl) : DAs X E (.Starred e p :: es) (dStar T U) := by
  refine ⟨(StX.pa_star h1.p h2.p hs).imp fun σ H Q ⟨F, M, G, τ, R, W, rs, rep, h, k, kx⟩ => ?_⟩
  refine ⟨F, M, G, τ, _, W, rs, rep, h, fun d M1 F1 H1 v q s1 rep1 r1 => ?_, kx⟩
  dsimp only at q
  split at q
  · rename_i xs e
    obtain ⟨a, vs, rfl, e1, rr⟩ := vw_lst rep1 r1 e
    exact ⟨a, vs, rfl, .inr (SqL.of e1), F1, M1, G, τ, _, W, rs.mono s1, rep1, q, fun ds M2 F2 H2 us q2 s2 rep2 r2 => k _ M2 F2 H2 _ q2 (s1.trans s2) rep2 ((rr.mono s2).append r2), kx.le s1⟩
  · rename_i xs e
    obtain ⟨a, vs, rfl, e1, rr⟩ := vw_tup rep1 r1 e
    exact ⟨a, vs, rfl, .inl (Same.sqT rep1.fz e1), F1, M1, G, τ, _, W, rs.mono s1, rep1, q, fun ds M2 F2 H2 us q2 s2 rep2 r2 => k _ M2 F2 H2 _ q2 (s1.trans s2) rep2 ((rr.mono s2).append r2), kx.le s1⟩
  · exact q.elim
/-! ### C.f, a number of the class -/
def ClsInt (K : Frg) (C : Addr) (f : Str) (i : Int) : Prop := ∃ mc u, ClX.CRead K C mc ∧ ClX.CVal K C mc f (.int i) u
def dCVal (C : Addr) (i : Int) (T : TD) : TD := fun τ M R W => T τ M (fun d M1 => match d with
  | .ref C' => C' = C ∧ R (.int i) M1
  | _ => False) W
theorem de_cval {X : Cx} {E : L2.St → XK} {e : Expr} {f : Str} {pos : Pos} {C : Addr} {i : Int} {T : TD} (c : ClsInt X.K C f i) (h : DE X E e T) (hb : attributeBase e f X.env (eval e X.env) = eval e X.env := by rfl) : DE X E (.Attribute e f pos) (dCVal C i T) := by
  obtain ⟨mc, u, c1, c2⟩ := c
  refine ⟨(ClX.pe_cval h.p hb).imp fun σ H Q ⟨F, M, G, τ, R, W, rs, rep, h, k, kx⟩ => ?_⟩
  refine ⟨F, M, G, τ, _, W, rs, rep, h, fun d M1 F1 H1 v q s1 rep1 r1 => ?_, kx⟩
  cases d <;> try exact q.elim
  obtain ⟨rfl, q⟩ := q
  cases r1
  exact ⟨_, mc, _, u, rfl, c1, c2, k _ M1 F1 H1 _ q s1 rep1 (.int _)⟩
/-- the head's fact -/
def cvB (K : Frg) (C : Addr) (f : Str) (i : Int) : Bool := PySem.W.readsIn K C (.type "type") && decide (PySem.W.specialIn K (.ref C) "__getattribute__" = some (some (.builtin "type.__getattribute__"))) && (match PySem.W.findCls K (.ref C) (.type "type") f with
  | some (.val (.int j _)) => decide (j = i)
  | _ => false)
theorem cvB_ok {K : Frg} {C : Addr} {f : Str} {i : Int} (h : cvB K C f i = true) : ClsInt K C f i := by
  unfold cvB at h
  rw [Bool.and_eq_true, Bool.and_eq_true] at h
  obtain ⟨⟨h1, h2⟩, h3⟩ := h
  split at h3
  · rename_i j t e
    have ej := of_decide_eq_true h3
    subst ej
    exact ⟨_, _, ⟨h1, of_decide_eq_true h2⟩, ⟨e, ⟨_, rfl⟩⟩⟩
  · cases h3
end RS

set_option maxRecDepth 100000
set_option maxHeartbeats 4000000
namespace RS
open PySem PySem.Spec PyProof.Rows L2 NdefX He PySem.W
variable [Tbls]
/-! ### from here on the object of this name does not change -/
def dFrz (i : Nat) (T : TSD) : TSD := fun N τ M => match τ[i]? with
  | some (some (.ref a)) => (match M a with
    | some m => T N (τ.set i (some m.d)) (delM M a)
    | none => False)
  | _ => False
theorem Rs.set_same {K : Frg} {F : Hp} : ∀ {σ : L2.St} {τ : SD} {i : Nat} {v : V} {d : D}, Rs K F σ τ → σ[i]? = some (some v) → Rv K F v d → Rs K F σ (τ.set i (some d)) := by
  intro σ τ i v d h e r
  have h2 := h.set r i
  have e2 : σ.set i (some v) = σ := by
    obtain ⟨hl, hv⟩ := List.getElem?_eq_some_iff.mp e
    rw [← hv]
    exact List.set_getElem_self hl
  rw [e2] at h2
  exact h2
theorem dss_frz {X : Cx} {E : L2.St → XK} {ss : List Stmt} {T : TSD} (i : Nat) (h : DSs X E ss T) : DSs X E ss (dFrz i T) := by
  refine ⟨h.p.imp fun D σ H ⟨F, M, G, τ, N, rs, rep, q, lk⟩ => ?_⟩
  unfold dFrz at q
  split at q
  · rename_i a e
    obtain ⟨v, ev, r⟩ := rs.at e
    split at q
    · rename_i m em
      cases r
      obtain ⟨F', s, rep', r'⟩ := rep.frz em
      exact ⟨F', delM M a, G, _, N, (rs.mono s).set_same ev r', rep', q, lk.le s⟩
    · exact q.elim
  · exact q.elim
/-! ### a comprehension over a list that could change, but does not -/
def ItOkC (K : Frg) (G : Hp) (J : L2.It) (F : Hp) (C : MS → Prop) (ds : List D) : Prop := ∀ i F' M' H, L2.Same F F' → Rep K F' M' G H → C M' → i ≤ ds.length → (i = ds.length → J.stop i H) ∧
  (i < ds.length → J.go i H ∧ ∀ x H', J.yld i H x H' → ∃ F'' d, L2.Same F' F'' ∧ Rep K F'' M' G H' ∧ ds[i]? = some d ∧ Rv K F'' x d)
abbrev TIDC := SD → MS → (List D → (MS → Prop) → MS → Prop) → XD → Prop
def upIC (K : Frg) (E : L2.St → XK) (T : TIDC) : TI := fun σ H R => ∃ F M G τ Rd W, Rs K F σ τ ∧ Rep K F M G H ∧ T τ M Rd W ∧ (∀ ds C M' F' H' J, Rd ds C M' → L2.Same F F' → Rep K F' M' G H' → C M' → (∀ G', ItOkC K G' J F' C ds) → R J H') ∧ KX K F G W (E σ)
structure DIC (X : Cx) (E : L2.St → XK) (tg e : Expr) (T : TIDC) : Prop where
  p : PI X tg e (upIC X.K E T)
def dItC (T : TD) : TIDC := fun τ M R W => T τ M (fun d M1 => match seqOf M1 d with
  | some (xs, o) => R xs (chk o xs) M1
  | none => False) W
theorem seqOf_chkC {M : MS} {d : D} {xs : List D} {o : Option Addr} (e : seqOf M d = some (xs, o)) : chk o xs M := by
  unfold seqOf at e
  split at e
  · cases e; trivial
  · cases e; trivial
  · rename_i a
    split at e
    · rename_i em
      cases e
      exact em
    · cases e
  · cases e
theorem dic_sq {X : Cx} {E : L2.St → XK} {tg e : Expr} {Te : TD} (h : DE X E e Te) : DIC X E tg e (dItC Te) := by
  refine ⟨(pi_sq h.p).imp fun σ H R ⟨F, M, G, τ, Rd, W, rs, rep, h, k, kx⟩ => ?_⟩
  refine ⟨F, M, G, τ, _, W, rs, rep, h, fun d M1 F1 H1 v q s1 rep1 r1 => ?_, kx⟩
  dsimp only at q
  split at q
  · rename_i xs o e
    have ck := seqOf_chkC e
    unfold seqOf at e
    split at e
    · cases e
      cases r1 with
      | lst sq rr =>
      rename_i a vs
      refine ⟨a, rfl, .inl ⟨⟨vs, SqL.of (rep1.fz _ _ sq)⟩, k _ _ M1 F1 H1 _ q s1 rep1 ck fun G' i F' M' H' s rep' _ hi => itok_same rr (fun F' M' H s rep i => ?_) i F' M' H' s rep' hi⟩⟩
      have sq' : SqL X.K H a vs := SqL.of (rep.fz _ _ (s _ _ sq))
      exact ⟨fun hi => ⟨vs, sq', hi⟩, fun x hx => ⟨vs, x, sq', hx⟩, fun x H' ⟨e, y⟩ => ⟨e, fun z hz => by rw [y vs sq'] at hz; exact Option.some.inj hz⟩⟩
    · cases e
      cases r1 with
      | tup sq rr =>
      rename_i a vs
      refine ⟨a, rfl, .inr ⟨⟨vs, Same.sqT rep1.fz sq⟩, k _ _ M1 F1 H1 _ q s1 rep1 ck fun G' i F' M' H' s rep' _ hi => itok_same rr (fun F' M' H s rep i => ?_) i F' M' H' s rep' hi⟩⟩
      have sq' : SqT X.K H a vs := Same.sqT rep.fz (Same.sqT s sq)
      exact ⟨fun hi => ⟨vs, sq', hi⟩, fun x hx => ⟨vs, x, sq', hx⟩, fun x H' ⟨e, y⟩ => ⟨e, fun z hz => by rw [y vs sq'] at hz; exact Option.some.inj hz⟩⟩
    · rename_i a
      cases r1
      split at e
      · rename_i ys em
        cases e
        obtain ⟨vs0, e0, rr0⟩ := rep1.lst em
        refine ⟨a, rfl, .inl ⟨⟨_, SqL.of e0⟩, k _ _ M1 F1 H1 _ q s1 rep1 ck fun G' i F' M' H' s rep' ck' hi => ?_⟩⟩
        obtain ⟨vs, ev, rr⟩ := rep'.lst (show M' a = some (.lst xs) from ck')
        have hl := rr.len
        refine ⟨fun ei => ⟨vs, SqL.of ev, by omega⟩, fun hlt => ?_⟩
        have ex : vs[i]? = some (vs[i]'(by omega)) := List.getElem?_eq_getElem _
        obtain ⟨d, e, r⟩ := rr.at ex
        refine ⟨⟨vs, _, SqL.of ev, ex⟩, fun x H'' y => ?_⟩
        obtain ⟨eH, y⟩ := y
        subst eH
        have := y vs (SqL.of ev)
        rw [ex] at this
        cases this
        exact ⟨F', d, L2.Same.refl F', rep', e, r⟩
      · cases e
    · cases e
  · exact q.elim
def dLcLC (C : MS → Prop) (g : TGD) (tt : TTD) (te : TD) (vs : List Nat) (τ : SD) (R : List D → MS → Prop) : List D → List D → MS → Prop
  | [], acc, M => R acc M
  | d :: r, acc, M => g d τ M (fun τ2 M2 => tt τ2 M2 (fun b M3 => dIte b (te τ2 M3 (fun y M4 => acc.length < sizeLine ∧ C M4 ∧ dLcLC C g tt te vs τ R r (acc ++ [y]) M4) XF) (C M3 ∧ dLcLC C g tt te vs τ R r acc M3)) XF) (fun _ => XF)
def dLcC (ti : TIDC) (g : TGD) (tt : TTD) (te : TD) (vs : List Nat) : TD := fun τ M R W => ti τ M (fun ds C M1 => dLcLC C g tt te vs (wipeD τ vs) (fun acc M2 => R (.lst acc) M2) ds [] M1) W
section
variable {X : Cx} {E : L2.St → XK} {ti : TIDC} {g : TGD} {tt : TTD} {te : TD} {vs : List Nat}
theorem wipe_wipe (us : List Nat) (ρ : L2.St) : wipe (wipe ρ us) us = wipe ρ us := by
  have fix : ∀ (ws : List Nat), (∀ j ∈ ws, j ∈ us) → wipe (wipe ρ us) ws = wipe ρ us := by
    intro ws
    induction ws with
    | nil => intro _; rfl
    | cons j ws ih =>
      intro hj
      show (wipe (wipe ρ us) ws).set j none = _
      rw [ih fun k hk => hj k (List.mem_cons_of_mem _ hk)]
      apply List.ext_getElem?
      intro n
      by_cases hn : j = n
      · subst hn
        by_cases hl : j < (wipe ρ us).length
        · rw [List.getElem?_set_self hl]
          cases hw : (wipe ρ us)[j]? with
          | none => exact absurd (List.getElem?_eq_none_iff.mp hw) (by omega)
          | some o =>
            cases o with
            | none => rfl
            | some x => exact absurd (hj j (List.mem_cons_self ..)) (wipe_some hw).2
        · rw [List.getElem?_eq_none (by rw [List.length_set]; omega), List.getElem?_eq_none (by omega)]
      · rw [List.getElem?_set_ne hn]
  exact fix us fun _ h => h
theorem up_lcC {σ : L2.St} {H : Hp} {Q : VK} (h : up X.K E (dLcC ti g tt te vs) σ H Q) : tLc (upIC X.K E ti) (upGw X.K vs g) (upT X.K E0' tt) (up X.K E0' te) vs σ H Q := by
  obtain ⟨F, M, G, τ, R, W, rs, rep, h, k, kx⟩ := h
  refine ⟨F, M, G, τ, _, W, rs, rep, h, fun ds C M1 F1 H1 J q s1 rep1 ck1 ok Dd hD => ?_, kx⟩
  have gD : G Dd = none := rep1.freeG hD
  refine ⟨fun i m H => m = ds.length - i ∧ i ≤ ds.length ∧ ∃ F2 M2 acc accV, L2.Same F1 F2 ∧ Rvs X.K F2 accV acc ∧ Rep X.K F2 M2 (upd G Dd (.lst accV)) H ∧ C M2 ∧ dLcLC C g tt te vs (wipeD τ vs) (fun acc M2 => R (.lst acc) M2) (ds.drop i) acc M2, ⟨_, rfl, Nat.zero_le _, F1, M1, [], [], L2.Same.refl F1, .nil, rep1.newG hD, ck1, q⟩, ?_⟩
  rintro i m H2 ⟨rfl, hi, F2, M2, acc, accV, s2, rv2, rep2, ck2, q2⟩
  obtain ⟨o1, o2⟩ := ok _ i F2 M2 H2 s2 rep2 ck2 hi
  by_cases hlt : i < ds.length
  · obtain ⟨go, yld⟩ := o2 hlt
    refine .inr ⟨go, fun H' => ∃ F3 M3 acc accV, L2.Same F1 F3 ∧ Rvs X.K F3 accV acc ∧ Rep X.K F3 M3 (upd G Dd (.lst accV)) H' ∧ C M3 ∧ dLcLC C g tt te vs (wipeD τ vs) (fun acc M2 => R (.lst acc) M2) (ds.drop (i + 1)) acc M3, fun H' z => ⟨ds.length - (i + 1), by omega, rfl, hlt, z⟩, fun x H' y => ?_⟩
    obtain ⟨F3, d, s3, rep3, e, r⟩ := yld x H' y
    have ed : ds.drop i = d :: ds.drop (i + 1) := by
      obtain ⟨h1, h2⟩ := List.getElem?_eq_some_iff.mp e
      rw [List.drop_eq_getElem_cons hlt, h2]
    rw [ed] at q2
    have rsw : Rs X.K F3 (wipe σ vs) (wipeD τ vs) := (((rs.mono s1).mono s2).mono s3).wipe vs
    refine ⟨F3, M2, _, wipeD τ vs, d, _, r, rsw, rep3, q2, fun σ4 τ4 M4 F4 H4 w4 q4 s4 rep4 rs4 => ⟨?_, ?_⟩⟩
    · rw [w4]
      exact wipe_wipe vs σ
    · refine ⟨F4, M4, _, τ4, _, XF, rs4, rep4, q4, fun b M5 F5 H5 q5 s5 rep5 => ?_, KX.none⟩
      have s15 := ((s2.trans s3).trans s4).trans s5
      cases b with
      | true =>
        refine iteT ⟨F5, M5, _, τ4, _, XF, rs4.mono s5, rep5, q5.1 rfl, fun y M6 F6 H6 v q6 s6 rep6 r6 => ?_, KX.none⟩
        have rv6 := (((rv2.mono s3).mono s4).mono s5).mono s6
        exact ⟨accV, (rep6.fr Dd _ upd_same).1, by rw [rv6.len]; exact q6.1, F6, M6, _, _, s15.trans s6, rv6.snoc r6, rep6.putG, q6.2.1, q6.2.2⟩
      | false => exact iteF ⟨F5, M5, acc, accV, s15, ((rv2.mono s3).mono s4).mono s5, rep5, (q5.2 rfl).1, (q5.2 rfl).2⟩
  · have e : i = ds.length := by omega
    refine .inl ⟨o1 e, ?_⟩
    rw [e, List.drop_length] at q2
    obtain ⟨rep', s⟩ := rep2.frzG gD
    exact ((k.le s1).le s2) _ M2 _ _ _ q2 s rep' (.lst upd_same (rv2.mono s))
variable {elt tg iter : Expr} {ifs : List Expr} {scope : Scope} {own : List (Str × Nat)} {pos : Pos}
theorem de_lcC (hc : X.calm = true) (hN : X.N.Nodup) (hi : DIC X E tg iter ti) (ok : BlkOk X.N X.env.scope scope own)
    (hg : ∀ (s : Shared) (H : Hp) (C : Addr) (cl : List (Str × Addr)) (fp : List Addr), DGw (X.blk s H scope (compEnvC scope cl C X.env) fp) (own.map (·.2)) tg g) (ht : ∀ (s : Shared) (H : Hp) (C : Addr) (cl : List (Str × Addr)) (fp : List Addr), DTs (X.blk s H scope (compEnvC scope cl C X.env) fp) E0' ifs tt)
    (he : ∀ (s : Shared) (H : Hp) (C : Addr) (cl : List (Str × Addr)) (fp : List Addr), DE (X.blk s H scope (compEnvC scope cl C X.env) fp) E0' elt te) (hs : ∀ x, foldedSetIterable iter X.env x = pure x := by intro _; rfl) :
    DE X E (.ListComp elt [⟨tg, iter, ifs, 0⟩] scope pos) (dLcC ti g tt te (own.map (·.2))) :=
  ⟨(pe_lc (g := upGw X.K (own.map (·.2)) g) (tt := upT X.K E0' tt) (te := up X.K E0' te) hc hN hi.p ok (fun s H C cl fp => (hg s H C cl fp).p) (fun s H C cl fp => (ht s H C cl fp).p) (fun s H C cl fp => (he s H C cl fp).p) hs).imp fun σ H Q h => up_lcC h⟩
theorem ds_setLcC (i : Nat) {y : Str} {py : Pos} {spos : Pos} (hc : X.calm = true) (hN : X.N.Nodup) (hy : X.N[i]? = some y) (hyl : X.env.scope.names.lookup y = some .local)
    (hsw : swapsWith (.ListComp elt [⟨tg, iter, ifs, 0⟩] scope pos) (some (.Name y py)) spos.line X.env = pure true) (hi : DIC X E tg iter ti) (ok : BlkOk X.N X.env.scope scope own)
    (hg : ∀ (s : Shared) (H : Hp) (C : Addr) (cl : List (Str × Addr)) (fp : List Addr), DGw (X.blk s H scope (compEnvC scope cl C X.env) fp) (own.map (·.2)) tg g) (ht : ∀ (s : Shared) (H : Hp) (C : Addr) (cl : List (Str × Addr)) (fp : List Addr), DTs (X.blk s H scope (compEnvC scope cl C X.env) fp) E0' ifs tt)
    (he : ∀ (s : Shared) (H : Hp) (C : Addr) (cl : List (Str × Addr)) (fp : List Addr), DE (X.blk s H scope (compEnvC scope cl C X.env) fp) E0' elt te) (hs : ∀ x, foldedSetIterable iter X.env x = pure x := by intro _; rfl) :
    DS X E (.Assign [.Name y py] (.ListComp elt [⟨tg, iter, ifs, 0⟩] scope pos) spos) (dSet i (dLcC ti g tt te (own.map (·.2)))) := by
  refine ⟨(ps_setLc (g := upGw X.K (own.map (·.2)) g) (tt := upT X.K E0' tt) (te := up X.K E0' te) hc hN hy hyl hsw hi.p ok (fun s H C cl fp => (hg s H C cl fp).p) (fun s H C cl fp => (ht s H C cl fp).p) (fun s H C cl fp => (he s H C cl fp).p) hs).imp fun D σ H ⟨F, M, G, τ, N, rs, rep, h, lk⟩ => ?_⟩
  exact up_lcC (E := E) ⟨F, M, G, τ, _, _, rs, rep, h, fun d M1 F1 H1 v q s1 rep1 r1 => lk.nx _ _ _ F1 _ q s1 rep1 ((rs.mono s1).set r1 i), lk.ex.at rs⟩
/-- such a comprehension by an invariant -/
theorem dLcLC_ind {C : MS → Prop} {τ : SD} {R : List D → MS → Prop} (I : List D → List D → MS → Prop) {ds acc : List D} {M : MS} (h0 : I ds acc M)
    (hs : ∀ d r acc M, I (d :: r) acc M → (∀ acc' M', I r acc' M' → dLcLC C g tt te vs τ R r acc' M') → g d τ M (fun τ2 M2 => tt τ2 M2 (fun b M3 => dIte b (te τ2 M3 (fun y M4 => acc.length < sizeLine ∧ C M4 ∧ dLcLC C g tt te vs τ R r (acc ++ [y]) M4) XF) (C M3 ∧ dLcLC C g tt te vs τ R r acc M3)) XF) (fun _ => XF))
    (he : ∀ acc M, I [] acc M → R acc M) : dLcLC C g tt te vs τ R ds acc M := by
  induction ds generalizing acc M with
  | nil => exact he acc M h0
  | cons d r ih => exact hs d r acc M h0 fun acc' M' h => ih h
end
theorem passes_of2 {CX : CXT} {X : Cx} {E : XK} (h : ∀ σ, PassesAt CX X σ E) : Passes CX X E := fun pins σ H s e s' I c => h σ pins H s e s' I c
end RS

set_option maxRecDepth 100000
set_option maxHeartbeats 4000000
namespace PySem.SeqAt
open AutoSeq1 (wpAny_loadPart')
open MeetsSeq MeetsSeq2 MeetsSeq3 SeqRoads2
/-! ### == and != of tuples, != of lists, where all items are equal (dicts among them) -/
section
variable {prog : Program} {w : World}
theorem rs_tup_same (l b : Addr) (xs ys : Array Value) (n n2 : Nat) (dd dd2 : Option Addr) (sl sl2 : Array (Option Value)) (hz : xs.size = ys.size) :
    MeetsIn prog w (Builtin.«tuple.__eq__» ⟨[.ref l, .ref b], []⟩) (fun A R s => s.heap.get? l = some { cls := .type "tuple", dict := dd, data := .seq xs n, slots := sl } ∧ s.heap.get? b = some { cls := .type "tuple", dict := dd2, data := .seq ys n2, slots := sl2 } ∧
        (∀ p ∈ xs.toList.zip ys.toList, EqP prog w A.in1 s p.1 p.2 true) ∧ R (.ok (.ret (.bool true))) s) := by
  refine fun A R s h => wpAny_mono (?_ : wpAny _ _ _ (fun fin s' => ∃ v, fin = .done (.ret v) ∧ R (.ok (.ret v)) s') _ _) (fun fin s' z => by obtain ⟨v, rfl, z⟩ := z; exact z) (fun _ _ z => z)
  obtain ⟨hp, g, d, tk, os⟩ := s
  obtain ⟨e1, e2, he, hR⟩ := h
  have f2 := AutoSeq1.sub_tuple_tuple
  wp_walk using wpAny_loadPart' e1, wpAny_loadPart' e2, wpAny_forIn_list _ (fun rest c s' => c.1 = none ∧ s' = ⟨hp, g, d, tk, os⟩ ∧ ∀ p ∈ rest, p ∈ xs.toList.zip ys.toList) _
  case turn =>
    rintro ⟨y, x⟩ rest c s' ⟨hc, rfl, sub⟩
    refine wpAny_bind (he (y, x) (sub _ List.mem_cons_self) _ _ ?_)
    wp_walk
    exact ⟨rfl, rfl, fun p hp' => sub p (List.mem_cons_of_mem _ hp')⟩
  case fin =>
    rintro ⟨b1, b2⟩ s' ⟨hc, rfl, _⟩
    simp only at hc
    subst hc
    wp_walk
    exact ⟨_, rfl, by simpa [Builtin.Tuple.tupleCompareSizes, hz] using hR⟩
  case h => exact ⟨rfl, rfl, fun p hp' => hp'⟩
theorem rs_tup_differ (l b : Addr) (xs ys : Array Value) (n n2 : Nat) (dd dd2 : Option Addr) (sl sl2 : Array (Option Value)) (hz : xs.size = ys.size) :
    MeetsIn prog w (Builtin.«tuple.__ne__» ⟨[.ref l, .ref b], []⟩) (fun A R s => s.heap.get? l = some { cls := .type "tuple", dict := dd, data := .seq xs n, slots := sl } ∧ s.heap.get? b = some { cls := .type "tuple", dict := dd2, data := .seq ys n2, slots := sl2 } ∧
        (∀ p ∈ xs.toList.zip ys.toList, EqP prog w A.in1 s p.1 p.2 true) ∧ R (.ok (.ret (.bool false))) s) := by
  refine fun A R s h => wpAny_mono (?_ : wpAny _ _ _ (fun fin s' => ∃ v, fin = .done (.ret v) ∧ R (.ok (.ret v)) s') _ _) (fun fin s' z => by obtain ⟨v, rfl, z⟩ := z; exact z) (fun _ _ z => z)
  obtain ⟨hp, g, d, tk, os⟩ := s
  obtain ⟨e1, e2, he, hR⟩ := h
  have f2 := AutoSeq1.sub_tuple_tuple
  wp_walk using wpAny_loadPart' e1, wpAny_loadPart' e2, wpAny_forIn_list _ (fun rest c s' => c.1 = none ∧ s' = ⟨hp, g, d, tk, os⟩ ∧ ∀ p ∈ rest, p ∈ xs.toList.zip ys.toList) _
  case turn =>
    rintro ⟨y, x⟩ rest c s' ⟨hc, rfl, sub⟩
    refine wpAny_bind (he (y, x) (sub _ List.mem_cons_self) _ _ ?_)
    wp_walk
    exact ⟨rfl, rfl, fun p hp' => sub p (List.mem_cons_of_mem _ hp')⟩
  case fin =>
    rintro ⟨b1, b2⟩ s' ⟨hc, rfl, _⟩
    simp only at hc
    subst hc
    wp_walk
    exact ⟨_, rfl, by simpa [Builtin.Tuple.tupleCompareSizes, hz] using hR⟩
  case h => exact ⟨rfl, rfl, fun p hp' => hp'⟩
theorem rs_lst_loop (l b : Addr) (xs ys : Array Value) (n n2 : Nat) (dd dd2 : Option Addr) (sl sl2 : Array (Option Value)) (hz : xs.size = ys.size) (m : Nat) :
    ∀ i : Nat, i + m = xs.size → MeetsIn prog w (Builtin.«list.__eq__.loop» ⟨[.ref l, .ref b, rawInt i, rawInt 3], []⟩) (fun A R s => s.heap.get? l = some { cls := .type "list", dict := dd, data := .seq xs n, slots := sl } ∧ s.heap.get? b = some { cls := .type "list", dict := dd2, data := .seq ys n2, slots := sl2 } ∧
        (∀ j (h1 : j < xs.size) (h2 : j < ys.size), EqP prog w A.in1 s xs[j] ys[j] true) ∧ R (.ok (.ret (.bool false))) s) := by
  induction m with
  | zero =>
    intro i hi A R s h
    obtain ⟨hp, g, d, tk, os⟩ := s
    obtain ⟨e1, e2, _, hR⟩ := h
    wp_walk using wpAny_loadPart' e1, wpAny_loadPart' e2
    have o1 : xs[((i : Nat) : Int).toNat]? = none := Array.getElem?_eq_none (by simp; omega)
    have o2 : ys[((i : Nat) : Int).toNat]? = none := Array.getElem?_eq_none (by simp; omega)
    rw [o1, o2]
    wp_walk using wpAny_loadPart' e1, wpAny_loadPart' e2
    show R (.ok (.ret (.bool (xs.size != ys.size)))) _
    have e : (xs.size != ys.size) = false := by rw [hz, bne_self_eq_false]
    rw [e]
    exact hR
  | succ m ih =>
    intro i hi A R s h
    obtain ⟨hp, g, d, tk, os⟩ := s
    obtain ⟨e1, e2, he, hR⟩ := h
    wp_walk using wpAny_loadPart' e1, wpAny_loadPart' e2
    have l1 : i < xs.size := by omega
    have l2 : i < ys.size := by omega
    have o1 : xs[((i : Nat) : Int).toNat]? = some xs[i] := Array.getElem?_eq_getElem (by simpa using l1)
    have o2 : ys[((i : Nat) : Int).toNat]? = some ys[i] := Array.getElem?_eq_getElem (by simpa using l2)
    rw [o1, o2]
    refine wpAny_bind (he i l1 l2 _ _ ?_)
    wp_walk
    rw [show ((i : Int) + 1) = ((i + 1 : Nat) : Int) from rfl]
    refine ⟨plainId_quiet plain_eq_loop _, codeAny_builtin entry_eq_loop ?_⟩
    rw [Around.under_plainId plain_eq_loop _]
    exact ih (i + 1) (by omega) A R _ ⟨e1, e2, he, hR⟩
theorem rs_lst_differ (l b : Addr) (xs ys : Array Value) (n n2 : Nat) (dd dd2 : Option Addr) (sl sl2 : Array (Option Value)) (hz : xs.size = ys.size) :
    MeetsIn prog w (Builtin.«list.__ne__» ⟨[.ref l, .ref b], []⟩) (fun A R s => s.heap.get? l = some { cls := .type "list", dict := dd, data := .seq xs n, slots := sl } ∧ s.heap.get? b = some { cls := .type "list", dict := dd2, data := .seq ys n2, slots := sl2 } ∧
        (∀ j (h1 : j < xs.size) (h2 : j < ys.size), EqP prog w A.in1 s xs[j] ys[j] true) ∧ R (.ok (.ret (.bool false))) s) := by
  intro A R s h
  obtain ⟨hp, g, d, tk, os⟩ := s
  obtain ⟨e1, e2, he, hR⟩ := h
  have f3 := AutoSeq1.sub_list_list
  have nz : ¬ (xs.size != ys.size) = true := by rw [hz, bne_self_eq_false]; exact nofun
  wp_walk using wpAny_loadPart' e1, wpAny_loadPart' e2
  refine ⟨plainId_quiet plain_eq_loop _, codeAny_builtin entry_eq_loop ?_⟩
  rw [Around.under_plainId plain_eq_loop _]
  exact rs_lst_loop l b xs ys n n2 dd dd2 sl sl2 hz xs.size 0 (by omega) A R _ ⟨e1, e2, he, hR⟩
section
variable {A : Around} {s : Shared} {l b : Addr} {xs ys : Array Value} {E Q : Value → Shared → Prop}
theorem zip_at (he : ∀ j (h1 : j < xs.size) (h2 : j < ys.size), EqP prog w A s xs[j] ys[j] true) : ∀ p ∈ xs.toList.zip ys.toList, EqP prog w A s p.1 p.2 true := by
  intro p hp
  obtain ⟨j, hj, e⟩ := List.getElem_of_mem hp
  have hj' := hj
  rw [List.length_zip] at hj'
  have h1 : j < xs.size := by have : j < xs.toList.length := by omega
                              simpa using this
  have h2 : j < ys.size := by have : j < ys.toList.length := by omega
                              simpa using this
  have e2 : p = (xs[j], ys[j]) := by rw [← e, List.getElem_zip]; simp
  rw [e2]
  exact he j h1 h2
theorem rs_rc_tup (hl : s.heap.IsTuple l xs) (hb : s.heap.IsTuple b ys) (hz : xs.size = ys.size) (hu : A.units < cLine) (he : ∀ j (h1 : j < xs.size) (h2 : j < ys.size), EqP prog w A.in1 s xs[j] ys[j] true) (h : Q (.bool true) s) : wpAny (model prog w) A (richCompare .Eq (.ref l) (.ref b)) Q E s := by
  obtain ⟨⟨c1, d1, dt1, s1⟩, o1, hc1, n1, hd1⟩ := id hl
  obtain ⟨⟨c2, d2, dt2, s2⟩, o2, hc2, n2, hd2⟩ := id hb
  simp only at hc1 hd1 hc2 hd2
  subst hc1 hd1 hc2 hd2
  have ta : s.TypeIs (.ref l) "tuple" := ⟨_, o1, rfl⟩
  have tb : s.TypeIs (.ref b) "tuple" := ⟨_, o2, rfl⟩
  refine wpAny_richCompare_same_room (op := .Eq) ta tb F.slot_tuple_eq (call_meetsIn F.slot_tuple_eq ta F.entry_tuple_eq (F.args_tuple_eq_2 _ _) (rs_tup_same l b xs ys n1 n2 d1 d2 s1 s2 hz) ⟨o1, o2, zip_at he, ?_⟩) hu
  exact ⟨(fun z => nomatch z), h⟩
theorem rs_rcne_tup (hl : s.heap.IsTuple l xs) (hb : s.heap.IsTuple b ys) (hz : xs.size = ys.size) (hu : A.units < cLine) (he : ∀ j (h1 : j < xs.size) (h2 : j < ys.size), EqP prog w A.in1 s xs[j] ys[j] true) (h : Q (.bool false) s) : wpAny (model prog w) A (richCompare .NotEq (.ref l) (.ref b)) Q E s := by
  obtain ⟨⟨c1, d1, dt1, s1⟩, o1, hc1, n1, hd1⟩ := id hl
  obtain ⟨⟨c2, d2, dt2, s2⟩, o2, hc2, n2, hd2⟩ := id hb
  simp only at hc1 hd1 hc2 hd2
  subst hc1 hd1 hc2 hd2
  have ta : s.TypeIs (.ref l) "tuple" := ⟨_, o1, rfl⟩
  have tb : s.TypeIs (.ref b) "tuple" := ⟨_, o2, rfl⟩
  refine wpAny_richCompare_same_room (op := .NotEq) ta tb F.slot_tuple_ne (call_meetsIn F.slot_tuple_ne ta F.entry_tuple_ne (F.args_tuple_ne_2 _ _) (rs_tup_differ l b xs ys n1 n2 d1 d2 s1 s2 hz) ⟨o1, o2, zip_at he, ?_⟩) hu
  exact ⟨(fun z => nomatch z), h⟩
theorem rs_rcne_lst (hl : s.heap.IsList l xs) (hb : s.heap.IsList b ys) (hz : xs.size = ys.size) (hu : A.units < cLine) (he : ∀ j (h1 : j < xs.size) (h2 : j < ys.size), EqP prog w A.in1 s xs[j] ys[j] true) (h : Q (.bool false) s) : wpAny (model prog w) A (richCompare .NotEq (.ref l) (.ref b)) Q E s := by
  obtain ⟨⟨c1, d1, dt1, s1⟩, o1, hc1, n1, hd1⟩ := id hl
  obtain ⟨⟨c2, d2, dt2, s2⟩, o2, hc2, n2, hd2⟩ := id hb
  simp only at hc1 hd1 hc2 hd2
  subst hc1 hd1 hc2 hd2
  have ta : s.TypeIs (.ref l) "list" := ⟨_, o1, rfl⟩
  have tb : s.TypeIs (.ref b) "list" := ⟨_, o2, rfl⟩
  refine wpAny_richCompare_same_room (op := .NotEq) ta tb F.slot_list_ne (call_meetsIn F.slot_list_ne ta F.entry_list_ne (F.args_list_ne_2 _ _) (rs_lst_differ l b xs ys n1 n2 d1 d2 s1 s2 hz) ⟨o1, o2, he, ?_⟩) hu
  exact ⟨(fun z => nomatch z), h⟩
end
end
/-! ### a text is no dict -/
theorem rs_str_obj (x : Str) (u : Tok) (l : Addr) (o : Obj) : Meets (Builtin.«str.__eq__» ⟨[.str x u, .ref l], []⟩) (fun _ R s => s.heap.get? l = some o ∧ (∃ es ep, o.data = .dict es ep) ∧ R (.ok (.ret .notImplemented)) s) :=
  .of_wp fun prog w A R s h => by
    obtain ⟨hp, g, d, tk, os⟩ := s
    obtain ⟨e, ⟨es, ep, he⟩, hR⟩ := h
    obtain ⟨c1, d1, dt1, s1⟩ := o
    simp only at he
    subst he
    wp_walk using wpAny_load e
    exact ⟨_, rfl, hR⟩
theorem rs_eq_str_dict {A : Around} {s : Shared} {x : Str} {u : Tok} {l : Addr} {o : Obj} (e : s.heap.get? l = some o) (hc : o.cls = .type "dict") (hd : ∃ es ep, o.data = .dict es ep) (hu : A.units < cLine) : EqAt A s (.str x u) (.ref l) false := fun prog w E Q h => by
  have ty : s.TypeIs (.ref l) "dict" := ⟨_, e, hc⟩
  unfold eqBool
  refine wpAny_holding ?_
  refine wpAny_ite_split (fun hab => absurd (eq_of_beq hab) nofun) (fun _ => ?_)
  refine wpAny_bind (rc_eq_decline_or (k := false) (typeIs_str s x u) ty (by decide) PySem.F.sub_dict_str F.slot_str_eq PySem.F.slot_dict_eq_refl
    (fun _ hq => call_meets F.slot_str_eq (typeIs_str s x u) F.entry_str_eq (F.args_str_eq_2 _ _) (rs_str_obj x u l o) ⟨e, hd, hq⟩)
    (fun Q' hq => wpAny_call_entry PySem.F.slot_dict_eq_refl ty PySem.F.entry_dict_eq ?_ (PySem.F.args_dict_eq_2 _ _))
    (fun _ hq => wpAny_of_eq (rfl : isSame (.str x u) (.ref l) = pure false) hq) (.inr hu) (wpAny_truthy_bool h))
  show wpAny _ _ (Builtin.Dict.dictSlotArgs "__eq__" ⟨[.ref l, .str x u], []⟩ >>= _) _ _ s
  refine wpAny_bind ?_
  unfold Builtin.Dict.dictSlotArgs
  refine wpAny_bind (wpAny_notOrdered_dict ty ?_)
  show wpAny _ _ (pure (Value.ref l, Value.str x u)) _ _ s
  refine wpAny_pure ?_
  refine wpAny_bind (wpAny_isInstance (T := "str") (typeIs_str s x u) PySem.F.sub_str_dict ?_)
  simp only [Bool.not_false, if_true]
  refine wpAny_bind (wpAny_rule ?_)
  exact wpAny_pure ⟨_, rfl, hq⟩
end PySem.SeqAt
namespace RS
open PySem PySem.Spec PyProof.Rows L2 He
/-! ### equal data, dicts among them -/
def EqS (K : Frg) (H : Hp) : Nat → V → V → Prop
  | 0 => fun x y => x = y ∧ flatB x = true
  | n + 1 => fun x y => (x = y ∧ flatB x = true) ∨ (∃ a b xs ys, x = .ref a ∧ y = .ref b ∧ ((SqL K H a xs ∧ SqL K H b ys) ∨ (SqT K H a xs ∧ SqT K H b ys)) ∧ Paired (EqS K H n) xs ys) ∨
      ∃ a b ks ls, x = .ref a ∧ y = .ref b ∧ H a = some (.dK ks) ∧ H b = some (.dK ls) ∧ ks.length = ls.length ∧ ∀ p ∈ ks, ∃ u, valV ls p.1 = some u ∧ EqS K H n p.2 u
section
variable {X : Cx} {pins : List (Addr × Obj)} {σ : L2.St} {H : Hp} {s : Shared}
theorem eqS_run (I : Inv X pins σ H s) : ∀ (n : Nat) (A : Around), A.units + n < cLine → ∀ (x y : V) (v u : Value), EqS X.K H n x y → RelV x v → RelV y u → SeqAt.EqP X.prog X.w A s v u true
  | 0, _, _, _, _, _, _, ⟨e, f⟩, rx, ry => by subst e; exact (eqAt_same rx ry f).eqP
  | n + 1, A, hu, x, y, v, u, h, rx, ry => by
    rcases h with ⟨rfl, f⟩ | ⟨a, b, xs, ys, rfl, rfl, hs, hp⟩ | ⟨a, b, ks, ls, rfl, rfl, ha, hb, hl, hp⟩
    · exact (eqAt_same rx ry f).eqP
    · cases (show v = Value.ref a from rx)
      cases (show u = Value.ref b from ry)
      by_cases hab : a = b
      · subst hab
        exact (SeqAt.EqAt.same _).eqP
      · refine SeqAt.eqP_refs hab fun E Q q => ?_
        have ih := eqS_run I n A.in1 (by show A.units + 1 + n < cLine; omega)
        rcases hs with ⟨ha, hb⟩ | ⟨ha, hb⟩
        · obtain ⟨us, r1, p1, _⟩ := I.list ha
          obtain ⟨ws, r2, p2, _⟩ := I.list hb
          have hsz : us.toArray.size = ws.toArray.size := by
            rw [List.size_toArray, List.size_toArray, ← r1.length, ← r2.length]
            exact Paired.length hp
          refine SeqAt.rcP_lists (e := fun _ => true) p1.isList p2.isList hsz (by omega) (fun j h1 h2 => ?_) E Q ?_
          · have k := items_run ih hp r1 r2 j (by simpa using h1) (by simpa using h2)
            simpa using k
          · rw [show ((List.range us.toArray.size).all fun _ => true) = true from List.all_eq_true.mpr fun _ _ => rfl]
            exact q
        · obtain ⟨us, r1, p1, _⟩ := I.tuple ha
          obtain ⟨ws, r2, p2, _⟩ := I.tuple hb
          have hsz : us.toArray.size = ws.toArray.size := by
            rw [List.size_toArray, List.size_toArray, ← r1.length, ← r2.length]
            exact Paired.length hp
          refine SeqAt.rs_rc_tup p1 p2 hsz (by omega) (fun j h1 h2 => ?_) q
          have k := items_run ih hp r1 r2 j (by simpa using h1) (by simpa using h2)
          simpa using k
    · cases (show v = Value.ref a from rx)
      cases (show u = Value.ref b from ry)
      by_cases hab : a = b
      · subst hab
        exact (SeqAt.EqAt.same _).eqP
      · refine SeqAt.eqP_refs hab fun E Q q => ?_
        obtain ⟨_, ya, va, ra, da⟩ := (show ObjOk X.prog X.w H s.heap a (.dK ks) from I.hok a _ ha)
        obtain ⟨_, yb, vb, rb, db⟩ := (show ObjOk X.prog X.w H s.heap b (.dK ls) from I.hok b _ hb)
        refine PySem.W.rcP_dicts (knd := mixKind X.prog X.w) (r := true) ya yb da db (by omega) (fun _ => hits_run (eqS_run I n A.in1 (by show A.units + 1 + n < cLine; omega)) rb ra hp) E Q ?_
        have e : va.length = vb.length := by rw [← ra.length, ← rb.length]; exact hl
        rw [show (va.length == vb.length && true) = true from by rw [e]; simp]
        exact q
end
section
variable {X : Cx}
/-- two lists, two tuples, of equal items -/
def rSame (K : Frg) (neg : Bool) : R2 := fun x y H Q => ∃ n a b xs ys, n ≤ 60 ∧ x = .ref a ∧ y = .ref b ∧ ((SqL K H a xs ∧ SqL K H b ys) ∨ (SqT K H a xs ∧ SqT K H b ys)) ∧ Paired (EqS K H n) xs ys ∧ Q (.bl (!neg)) H
theorem op_eqSame (hu : X.A.units + 64 < cLine) : OpR X (compareOp .Eq) (rSame X.K false) := by
  intro pins s σ H x y v u Q I rx ry h
  obtain ⟨n, a, b, xs, ys, hn, rfl, rfl, hs, hp, q⟩ := h
  cases (show v = Value.ref a from rx)
  cases (show u = Value.ref b from ry)
  have ih := eqS_run I n X.A.in1 (by show X.A.units + 1 + n < cLine; omega)
  have q' : (fun v s' => ∃ x H', Inv X pins σ H' s' ∧ RelV x v ∧ Q x H') (Value.bool true) s := ⟨.bl true, H, I, rfl, q⟩
  rcases hs with ⟨ha, hb⟩ | ⟨ha, hb⟩
  · obtain ⟨us, r1, p1, _⟩ := I.list ha
    obtain ⟨ws, r2, p2, _⟩ := I.list hb
    have hsz : us.toArray.size = ws.toArray.size := by
      rw [List.size_toArray, List.size_toArray, ← r1.length, ← r2.length]
      exact Paired.length hp
    refine SeqAt.rcP_lists (e := fun _ => true) p1.isList p2.isList hsz (by omega) (fun j h1 h2 => ?_) _ _ ?_
    · have k := items_run ih hp r1 r2 j (by simpa using h1) (by simpa using h2)
      simpa using k
    · rw [show ((List.range us.toArray.size).all fun _ => true) = true from List.all_eq_true.mpr fun _ _ => rfl]
      exact q'
  · obtain ⟨us, r1, p1, _⟩ := I.tuple ha
    obtain ⟨ws, r2, p2, _⟩ := I.tuple hb
    have hsz : us.toArray.size = ws.toArray.size := by
      rw [List.size_toArray, List.size_toArray, ← r1.length, ← r2.length]
      exact Paired.length hp
    refine SeqAt.rs_rc_tup p1 p2 hsz (by omega) (fun j h1 h2 => ?_) q'
    have k := items_run ih hp r1 r2 j (by simpa using h1) (by simpa using h2)
    simpa using k
theorem op_neSame (hu : X.A.units + 64 < cLine) : OpR X (compareOp .NotEq) (rSame X.K true) := by
  intro pins s σ H x y v u Q I rx ry h
  obtain ⟨n, a, b, xs, ys, hn, rfl, rfl, hs, hp, q⟩ := h
  cases (show v = Value.ref a from rx)
  cases (show u = Value.ref b from ry)
  have ih := eqS_run I n X.A.in1 (by show X.A.units + 1 + n < cLine; omega)
  have q' : (fun v s' => ∃ x H', Inv X pins σ H' s' ∧ RelV x v ∧ Q x H') (Value.bool false) s := ⟨.bl false, H, I, rfl, q⟩
  rcases hs with ⟨ha, hb⟩ | ⟨ha, hb⟩
  · obtain ⟨us, r1, p1, _⟩ := I.list ha
    obtain ⟨ws, r2, p2, _⟩ := I.list hb
    have hsz : us.toArray.size = ws.toArray.size := by
      rw [List.size_toArray, List.size_toArray, ← r1.length, ← r2.length]
      exact Paired.length hp
    refine SeqAt.rs_rcne_lst p1.isList p2.isList hsz (by omega) (fun j h1 h2 => ?_) q'
    have k := items_run ih hp r1 r2 j (by simpa using h1) (by simpa using h2)
    simpa using k
  · obtain ⟨us, r1, p1, _⟩ := I.tuple ha
    obtain ⟨ws, r2, p2, _⟩ := I.tuple hb
    have hsz : us.toArray.size = ws.toArray.size := by
      rw [List.size_toArray, List.size_toArray, ← r1.length, ← r2.length]
      exact Paired.length hp
    refine SeqAt.rs_rcne_tup p1 p2 hsz (by omega) (fun j h1 h2 => ?_) q'
    have k := items_run ih hp r1 r2 j (by simpa using h1) (by simpa using h2)
    simpa using k
/-- lists of different lengths -/
def rLens (K : Frg) (neg : Bool) : R2 := fun x y H Q => ∃ a b xs ys, x = .ref a ∧ y = .ref b ∧ SqL K H a xs ∧ SqL K H b ys ∧ xs.length ≠ ys.length ∧ Q (.bl neg) H
theorem op_eqLens (hu : X.A.units + 64 < cLine) : OpR X (compareOp .Eq) (rLens X.K false) := by
  intro pins s σ H x y v u Q I rx ry h
  obtain ⟨a, b, xs, ys, rfl, rfl, ha, hb, hl, q⟩ := h
  cases (show v = Value.ref a from rx)
  cases (show u = Value.ref b from ry)
  obtain ⟨us, r1, p1, _⟩ := I.list ha
  obtain ⟨ws, r2, p2, _⟩ := I.list hb
  refine SeqAt.RcAt.lists_lengths p1.isList p2.isList ?_ (by omega) _ _ _ _ ⟨.bl false, H, I, rfl, q⟩
  rw [List.size_toArray, List.size_toArray, ← r1.length, ← r2.length]
  simpa using hl
theorem op_neLens (hu : X.A.units + 64 < cLine) : OpR X (compareOp .NotEq) (rLens X.K true) := by
  intro pins s σ H x y v u Q I rx ry h
  obtain ⟨a, b, xs, ys, rfl, rfl, ha, hb, hl, q⟩ := h
  cases (show v = Value.ref a from rx)
  cases (show u = Value.ref b from ry)
  obtain ⟨us, r1, p1, _⟩ := I.list ha
  obtain ⟨ws, r2, p2, _⟩ := I.list hb
  refine SeqAt.RcNeAt.lists_lengths p1.isList p2.isList ?_ (by omega) _ _ _ _ ⟨.bl true, H, I, rfl, q⟩
  rw [List.size_toArray, List.size_toArray, ← r1.length, ← r2.length]
  simpa using hl
/-- a tuple that begins with a text, and one of one text alone -/
def rHeads (K : Frg) (neg : Bool) : R2 := fun x y H Q => ∃ a b i j z zs, x = .ref a ∧ y = .ref b ∧ SqT K H a (.str i :: z :: zs) ∧ SqT K H b [.str j] ∧ Q (.bl neg) H
theorem op_neHeads (hu : X.A.units + 64 < cLine) : OpR X (compareOp .NotEq) (rHeads X.K true) := by
  intro pins s σ H x y v u Q I rx ry h
  obtain ⟨a, b, i, j, z, zs, rfl, rfl, ha, hb, q⟩ := h
  cases (show v = Value.ref a from rx)
  cases (show u = Value.ref b from ry)
  obtain ⟨us, r1, p1, _⟩ := I.tuple ha
  obtain ⟨ws, r2, p2, _⟩ := I.tuple hb
  cases r1 with
  | cons a1 b1 =>
  cases b1 with
  | cons a2 b2 =>
  cases r2 with
  | cons c1 d1 =>
  cases d1
  obtain ⟨t, rfl⟩ := a1
  obtain ⟨t', rfl⟩ := c1
  rename_i z' zs'
  have k := SeqAt.RcNeAt.tuples (A := X.A) (e := fun _ => i == j) p1 p2 (by omega) (fun n h1 h2 => by
    have e : n = 0 := by simp at h2; omega
    subst e
    simpa using SeqAt.EqAt.str_str i t j t')
  refine k _ _ _ _ ⟨.bl true, H, I, ?_, q⟩
  simp
  exact rfl
/-- a dict is none of some texts -/
def rDictIn (K : Frg) (neg : Bool) : R2 := fun x y H Q => ∃ a p ks xs, x = .ref a ∧ H a = some (.dK ks) ∧ y = .ref p ∧ (SqL K H p xs ∨ SqT K H p xs) ∧ (∀ z ∈ xs, ∃ i, z = .str i) ∧ Q (.bl neg) H
theorem strs_no {A : Around} {a : Addr} {o : Obj} (e : s.heap.get? a = some o) (hc : o.cls = .type "dict") (hd : ∃ es ep, o.data = .dict es ep) (hu : A.units < cLine) : ∀ {xs : List V} {us : List Value}, Vals xs us → (∀ z ∈ xs, ∃ i, z = .str i) → ∀ u ∈ us, SeqAt.EqAt A s u (.ref a) ((fun _ => false) u)
  | _, _, .nil, _ => fun u hu' => by cases hu'
  | y :: xs, u :: us, .cons r t, f => fun u' hu' => by
    rcases List.mem_cons.mp hu' with e' | hu'
    · subst e'
      obtain ⟨i, rfl⟩ := f y (List.mem_cons_self ..)
      obtain ⟨t', rfl⟩ := r
      exact SeqAt.rs_eq_str_dict e hc hd hu
    · exact strs_no e hc hd hu t (fun z hz => f z (List.mem_cons_of_mem _ hz)) u' hu'
theorem op_dictNotIn (hu : X.A.units + 64 < cLine) : OpR X (compareOp .NotIn) (rDictIn X.K true) := by
  intro pins s σ H x y v u Q I rx ry h
  obtain ⟨a, p, ks, xs, rfl, ha, rfl, hs, f, q⟩ := h
  cases (show v = Value.ref a from rx)
  cases (show u = Value.ref p from ry)
  obtain ⟨_, ya, va, ra, da⟩ := (show ObjOk X.prog X.w H s.heap a (.dK ks) from I.hok a _ ha)
  obtain ⟨o, es, ep, e, hx, hd, _⟩ := id da
  have hu1 : X.A.in1.units < cLine := by show X.A.units + 1 < cLine; omega
  have no : ∀ us : List Value, us.any (fun _ => false) = false := fun us => List.any_eq_false.mpr fun _ _ => nofun
  rcases hs with hs | hs
  · obtain ⟨its, rv, hl, _⟩ := I.list hs
    refine SeqAt.notIn_listAt (fun _ => false) hl.isList (fun z hz => strs_no e hx.1 ⟨es, ep, hd⟩ hu1 rv f z (by simpa using hz)) ⟨.bl _, H, I, rfl, ?_⟩
    rw [show its.toArray.any (fun _ => false) = its.any (fun _ => false) by simp, no]
    exact q
  · obtain ⟨its, rv, hl, _⟩ := I.tuple hs
    refine SeqAt.notIn_tupleAt (fun _ => false) hl (fun z hz => strs_no e hx.1 ⟨es, ep, hd⟩ hu1 rv f z (by simpa using hz)) ⟨.bl _, H, I, rfl, ?_⟩
    rw [show its.toArray.any (fun _ => false) = its.any (fun _ => false) by simp, no]
    exact q
end
end RS

set_option maxRecDepth 100000
set_option maxHeartbeats 4000000
namespace RS
open PySem PySem.Spec PyProof.Rows L2 NdefX He PySem.W
variable [Tbls]
/-! ### == and != of data with dicts within -/
def SmD : Nat → D → Prop
  | _, .non => True
  | _, .bl _ => True
  | _, .int _ => True
  | _, .str _ => True
  | n + 1, .tup xs => ∀ x ∈ xs, SmD n x
  | n + 1, .lst xs => ∀ x ∈ xs, SmD n x
  | n + 1, .dct ks => (ks.map (·.1)).Nodup ∧ ∀ p ∈ ks, SmD n p.2
  | _, _ => False
theorem PD.sm : ∀ {n : Nat} {d : D}, PD n d → SmD n d := by
  intro n
  induction n with
  | zero => intro d h; cases d <;> first | exact h.elim | trivial
  | succ n ih => intro d h; cases d <;> first | exact h.elim | trivial | exact fun x hx => ih (h x hx)
theorem SmD.up : ∀ {n m : Nat} {d : D}, n ≤ m → SmD n d → SmD m d := by
  intro n
  induction n with
  | zero =>
    intro m d _ p
    cases d <;> first | exact p.elim | (cases m <;> trivial)
  | succ n ih =>
    intro m d h p
    obtain ⟨m, rfl⟩ : ∃ k, m = k + 1 := ⟨m - 1, by omega⟩
    cases d <;> first | exact p.elim | trivial | (exact fun x hx => ih (by omega) (p x hx)) | exact ⟨p.1, fun x hx => ih (by omega) (p.2 x hx)⟩
theorem Rks.two {K : Frg} {F : Hp} : ∀ {kvs lvs : List (Key × V)} {ks : List (Key × D)}, Rks K F kvs ks → Rks K F lvs ks → kvs.length = lvs.length ∧ lvs.map (·.1) = ks.map (·.1) ∧ ∀ p ∈ kvs, ∃ d v, (p.1, d) ∈ ks ∧ (p.1, v) ∈ lvs ∧ Rv K F p.2 d ∧ Rv K F v d
  | _, _, _, .nil, .nil => ⟨rfl, rfl, fun _ h => nomatch h⟩
  | _, _, _, .cons r rs, .cons r' rs' => by
    obtain ⟨h1, h2, h3⟩ := Rks.two rs rs'
    refine ⟨by rw [List.length_cons, List.length_cons, h1], by rw [List.map_cons, List.map_cons, h2], fun p hp => ?_⟩
    rcases List.mem_cons.mp hp with rfl | hp
    · exact ⟨_, _, List.mem_cons_self .., List.mem_cons_self .., r, r'⟩
    · obtain ⟨d, v, a, b, c, e⟩ := h3 p hp
      exact ⟨d, v, List.mem_cons_of_mem _ a, List.mem_cons_of_mem _ b, c, e⟩
theorem rvs_pair {K : Frg} {F : Hp} {P : V → V → Prop} : ∀ {vs us : List V} {ds : List D}, (∀ d ∈ ds, ∀ v u, Rv K F v d → Rv K F u d → P v u) → Rvs K F vs ds → Rvs K F us ds → Paired P vs us
  | _, _, _, _, .nil, .nil => .nil
  | _, _, _, h, .cons r rs, .cons r' rs' => .cons (h _ (List.mem_cons_self ..) _ _ r r') (rvs_pair (fun d hd => h d (List.mem_cons_of_mem _ hd)) rs rs')
theorem rv_sm {K : Frg} {F H : Hp} (s : L2.Same F H) : ∀ (n : Nat) {v u : V} {d : D}, SmD n d → Rv K F v d → Rv K F u d → EqS K H n v u := by
  intro n
  induction n with
  | zero =>
    intro v u d p r r'
    cases r <;> first
      | exact p.elim
      | (cases r'; exact ⟨rfl, rfl⟩)
  | succ n ih =>
    intro v u d p r r'
    cases r with
    | non => cases r'; exact .inl ⟨rfl, rfl⟩
    | bl b => cases r'; exact .inl ⟨rfl, rfl⟩
    | int i => cases r'; exact .inl ⟨rfl, rfl⟩
    | str x => cases r'; exact .inl ⟨rfl, rfl⟩
    | ty => exact p.elim
    | ref => exact p.elim
    | ins _ _ _ => exact p.elim
    | exc0 _ => exact p.elim
    | exc1 _ _ => exact p.elim
    | scr _ => exact p.elim
    | tup e rr =>
      cases r' with
      | tup e' rr' => exact .inr (.inl ⟨_, _, _, _, rfl, rfl, .inr ⟨Same.sqT s e, Same.sqT s e'⟩, rvs_pair (fun d hd v u a b => ih (p d hd) a b) rr rr'⟩)
    | lst e rr =>
      cases r' with
      | lst e' rr' => exact .inr (.inl ⟨_, _, _, _, rfl, rfl, .inl ⟨SqL.of (s _ _ e), SqL.of (s _ _ e')⟩, rvs_pair (fun d hd v u a b => ih (p d hd) a b) rr rr'⟩)
    | dct e rr =>
      cases r' with
      | dct e' rr' =>
        obtain ⟨h1, h2, h3⟩ := Rks.two rr rr'
        refine .inr (.inr ⟨_, _, _, _, rfl, rfl, s _ _ e, s _ _ e', h1, fun q hq => ?_⟩)
        obtain ⟨d, w, a, b, c, f⟩ := h3 q hq
        exact ⟨w, valV_mem (by rw [h2]; exact p.1) _ b, ih (p.2 _ a) c f⟩
def dSame (neg : Bool) (x y : D) (M : MS) (R : D → MS → Prop) (_ : XD) : Prop := match vw M x, vw M y with
  | .tup xs, .tup ys => xs = ys ∧ (∀ d ∈ xs, SmD 60 d) ∧ R (.bl (!neg)) M
  | .lst xs, .lst ys => xs = ys ∧ (∀ d ∈ xs, SmD 60 d) ∧ R (.bl (!neg)) M
  | _, _ => False
theorem ro_same {K : Frg} (neg : Bool) : RO K (rSame K neg) (dSame neg) := fun F M G H x y v u R W Q rx ry rep h k => by
  unfold dSame at h
  split at h
  · rename_i xs ys e1 e2
    obtain ⟨rfl, sm, h⟩ := h
    obtain ⟨a, vs, rfl, h1, r1⟩ := vw_tup rep rx e1
    obtain ⟨b, us, rfl, h2, r2⟩ := vw_tup rep ry e2
    exact ⟨60, a, b, vs, us, Nat.le_refl _, rfl, rfl, .inr ⟨Same.sqT rep.fz h1, Same.sqT rep.fz h2⟩, rvs_pair (fun d hd v u a b => rv_sm rep.fz 60 (sm d hd) a b) r1 r2, k _ M F H _ h (L2.Same.refl F) rep (.bl _)⟩
  · rename_i xs ys e1 e2
    obtain ⟨rfl, sm, h⟩ := h
    obtain ⟨a, vs, rfl, h1, r1⟩ := vw_lst rep rx e1
    obtain ⟨b, us, rfl, h2, r2⟩ := vw_lst rep ry e2
    exact ⟨60, a, b, vs, us, Nat.le_refl _, rfl, rfl, .inl ⟨SqL.of h1, SqL.of h2⟩, rvs_pair (fun d hd v u a b => rv_sm rep.fz 60 (sm d hd) a b) r1 r2, k _ M F H _ h (L2.Same.refl F) rep (.bl _)⟩
  · exact h.elim
def dLens (neg : Bool) (x y : D) (M : MS) (R : D → MS → Prop) (_ : XD) : Prop := match vw M x, vw M y with
  | .lst xs, .lst ys => xs.length ≠ ys.length ∧ R (.bl neg) M
  | _, _ => False
theorem ro_lens {K : Frg} (neg : Bool) : RO K (rLens K neg) (dLens neg) := fun F M G H x y v u R W Q rx ry rep h k => by
  unfold dLens at h
  split at h
  · rename_i xs ys e1 e2
    obtain ⟨a, vs, rfl, h1, r1⟩ := vw_lst rep rx e1
    obtain ⟨b, us, rfl, h2, r2⟩ := vw_lst rep ry e2
    exact ⟨a, b, vs, us, rfl, rfl, SqL.of h1, SqL.of h2, by rw [r1.len, r2.len]; exact h.1, k _ M F H _ h.2 (L2.Same.refl F) rep (.bl _)⟩
  · exact h.elim
def dHeads (neg : Bool) (x y : D) (M : MS) (R : D → MS → Prop) (_ : XD) : Prop := match vw M x, vw M y with
  | .tup (.str _ :: _ :: _), .tup [.str _] => R (.bl neg) M
  | _, _ => False
theorem ro_heads {K : Frg} (neg : Bool) : RO K (rHeads K neg) (dHeads neg) := fun F M G H x y v u R W Q rx ry rep h k => by
  unfold dHeads at h
  split at h
  · rename_i i z zs j e1 e2
    obtain ⟨a, vs, rfl, h1, r1⟩ := vw_tup rep rx e1
    obtain ⟨b, us, rfl, h2, r2⟩ := vw_tup rep ry e2
    cases r1 with
    | cons a1 b1 =>
    cases b1 with
    | cons a2 b2 =>
    cases r2 with
    | cons c1 d1 =>
    cases d1
    cases a1
    cases c1
    exact ⟨a, b, _, _, _, _, rfl, rfl, Same.sqT rep.fz h1, Same.sqT rep.fz h2, k _ M F H _ h (L2.Same.refl F) rep (.bl _)⟩
  · exact h.elim
def dDictIn (neg : Bool) (x y : D) (M : MS) (R : D → MS → Prop) (_ : XD) : Prop := match vw M x, vw M y with
  | .dct _, .lst ds => (∀ d ∈ ds, ∃ i, d = .str i) ∧ R (.bl neg) M
  | .dct _, .tup ds => (∀ d ∈ ds, ∃ i, d = .str i) ∧ R (.bl neg) M
  | _, _ => False
theorem rvs_strs {K : Frg} {F : Hp} : ∀ {vs : List V} {ds : List D}, Rvs K F vs ds → (∀ d ∈ ds, ∃ i, d = .str i) → ∀ z ∈ vs, ∃ i, z = .str i
  | _, _, .nil, _ => fun _ h => nomatch h
  | _, _, .cons r rs, h => fun z hz => by
    rcases List.mem_cons.mp hz with rfl | hz
    · obtain ⟨i, rfl⟩ := h _ (List.mem_cons_self ..)
      cases r
      exact ⟨i, rfl⟩
    · exact rvs_strs rs (fun d hd => h d (List.mem_cons_of_mem _ hd)) z hz
theorem ro_dictIn {K : Frg} (neg : Bool) : RO K (rDictIn K neg) (dDictIn neg) := fun F M G H x y v u R W Q rx ry rep h k => by
  unfold dDictIn at h
  split at h
  · rename_i ks ds e1 e2
    obtain ⟨a, kvs, rfl, h1, r1⟩ := vw_dct rep rx e1
    obtain ⟨b, us, rfl, h2, r2⟩ := vw_lst rep ry e2
    exact ⟨a, b, kvs, us, rfl, h1, rfl, .inl (SqL.of h2), rvs_strs r2 h.1, k _ M F H _ h.2 (L2.Same.refl F) rep (.bl _)⟩
  · rename_i ks ds e1 e2
    obtain ⟨a, kvs, rfl, h1, r1⟩ := vw_dct rep rx e1
    obtain ⟨b, us, rfl, h2, r2⟩ := vw_tup rep ry e2
    exact ⟨a, b, kvs, us, rfl, h1, rfl, .inr (Same.sqT rep.fz h2), rvs_strs r2 h.1, k _ M F H _ h.2 (L2.Same.refl F) rep (.bl _)⟩
  · exact h.elim
theorem op_eqW {X : Cx} (hu : X.A.units + 64 < cLine) : OpR X (compareOp .Eq) (fun x y H Q => rEqA X.K x y H Q ∨ (rSame X.K false x y H Q ∨ rLens X.K false x y H Q)) := OpR.or (op_eqA hu) (OpR.or (op_eqSame hu) (op_eqLens hu))
theorem op_neW {X : Cx} (hu : X.A.units + 64 < cLine) : OpR X (compareOp .NotEq) (fun x y H Q => rNeA X.K x y H Q ∨ (rSame X.K true x y H Q ∨ (rLens X.K true x y H Q ∨ rHeads X.K true x y H Q))) := OpR.or (op_neA hu) (OpR.or (op_neSame hu) (OpR.or (op_neLens hu) (op_neHeads hu)))
theorem op_notInW {X : Cx} (hu : X.A.units + 64 < cLine) : OpR X (compareOp .NotIn) (fun x y H Q => rInA X.K true x y H Q ∨ rDictIn X.K true x y H Q) := OpR.or (op_notInA hu) (op_dictNotIn hu)
theorem ro_eqW {K : Frg} : RO K (fun x y H Q => rEqA K x y H Q ∨ (rSame K false x y H Q ∨ rLens K false x y H Q)) (fun x y M R W => dEqA false x y M R W ∨ (dSame false x y M R W ∨ dLens false x y M R W)) := RO.or ro_eqA (RO.or (ro_same false) (ro_lens false))
theorem ro_neW {K : Frg} : RO K (fun x y H Q => rNeA K x y H Q ∨ (rSame K true x y H Q ∨ (rLens K true x y H Q ∨ rHeads K true x y H Q))) (fun x y M R W => dEqA true x y M R W ∨ (dSame true x y M R W ∨ (dLens true x y M R W ∨ dHeads true x y M R W))) := RO.or ro_neA (RO.or (ro_same true) (RO.or (ro_lens true) (ro_heads true)))
theorem ro_notInW {K : Frg} : RO K (fun x y H Q => rInA K true x y H Q ∨ rDictIn K true x y H Q) (fun x y M R W => dIn true x y M R W ∨ dDictIn true x y M R W) := RO.or (ro_in true) (ro_dictIn true)
end RS

set_option maxRecDepth 100000
set_option maxHeartbeats 4000000
namespace RS
open PySem PySem.Spec PyProof.Rows L2 NdefX He PySem.W
variable [Tbls]
/-! ### comprehensions with two fors -/
theorem wipe_idem (us : List Nat) (ρ : L2.St) : wipe (wipe ρ us) us = wipe ρ us := by
  have fix : ∀ (ws : List Nat), (∀ j ∈ ws, j ∈ us) → wipe (wipe ρ us) ws = wipe ρ us := by
    intro ws
    induction ws with
    | nil => intro _; rfl
    | cons j ws ih =>
      intro hj
      show (wipe (wipe ρ us) ws).set j none = _
      rw [ih fun k hk => hj k (List.mem_cons_of_mem _ hk)]
      apply List.ext_getElem?
      intro n
      by_cases hn : j = n
      · subst hn
        by_cases hl : j < (wipe ρ us).length
        · rw [List.getElem?_set_self hl]
          cases hw : (wipe ρ us)[j]? with
          | none => exact absurd (List.getElem?_eq_none_iff.mp hw) (by omega)
          | some o =>
            cases o with
            | none => rfl
            | some x => exact absurd (hj j (List.mem_cons_self ..)) (wipe_some hw).2
        · rw [List.getElem?_eq_none (by rw [List.length_set]; omega), List.getElem?_eq_none (by omega)]
      · rw [List.getElem?_set_ne hn]
  exact fix us fun _ h => h
def dLc2L (g : TGD) (tt : TTD) (ti1 : TID) (g1 : TGD) (tt1 : TTD) (te : TD) (vs1 : List Nat) (τ : SD) (R : List D → MS → Prop) : List D → List D → MS → Prop
  | [], acc, M => R acc M
  | d :: r, acc, M => g d τ M (fun τ2 M2 => tt τ2 M2 (fun b M3 => dIte b (ti1 τ2 M3 (fun ds1 M4 => dLcL g1 tt1 te vs1 (wipeD τ2 vs1) (fun acc' M5 => dLc2L g tt ti1 g1 tt1 te vs1 τ R r acc' M5) ds1 acc M4) XF) (dLc2L g tt ti1 g1 tt1 te vs1 τ R r acc M3)) XF) (fun _ => XF)
def dLc2 (ti : TID) (g : TGD) (tt : TTD) (ti1 : TID) (g1 : TGD) (tt1 : TTD) (te : TD) (vs vs1 : List Nat) : TD := fun τ M R W => ti τ M (fun ds M1 => dLc2L g tt ti1 g1 tt1 te vs1 (wipeD τ vs) (fun acc M2 => R (.lst acc) M2) ds [] M1) W
section
variable {X : Cx} {E : L2.St → XK} {ti ti1 : TID} {g g1 : TGD} {tt tt1 : TTD} {te : TD} {vs vs1 : List Nat}
theorem drop_at {ds : List D} {i : Nat} {d : D} (e : ds[i]? = some d) : ds.drop i = d :: ds.drop (i + 1) := by
  obtain ⟨h1, h2⟩ := List.getElem?_eq_some_iff.mp e
  rw [List.drop_eq_getElem_cons h1, h2]
theorem up_lc2 {σ : L2.St} {H : Hp} {Q : VK} (h : up X.K E (dLc2 ti g tt ti1 g1 tt1 te vs vs1) σ H Q) : tLc2 (upI X.K E ti) (upGw X.K vs g) (upT X.K E0' tt) (upI X.K E0' ti1) (upGw X.K vs1 g1) (upT X.K E0' tt1) (up X.K E0' te) vs vs1 σ H Q := by
  obtain ⟨F, M, G, τ, R, W, rs, rep, h, k, kx⟩ := h
  refine ⟨F, M, G, τ, _, W, rs, rep, h, fun ds M1 F1 H1 J q s1 rep1 ok Dd hD => ?_, kx⟩
  have gD : G Dd = none := rep1.freeG hD
  refine ⟨fun i m H => m = ds.length - i ∧ i ≤ ds.length ∧ ∃ F2 M2 acc accV, L2.Same F1 F2 ∧ Rvs X.K F2 accV acc ∧ Rep X.K F2 M2 (upd G Dd (.lst accV)) H ∧ dLc2L g tt ti1 g1 tt1 te vs1 (wipeD τ vs) (fun acc M2 => R (.lst acc) M2) (ds.drop i) acc M2, ⟨_, rfl, Nat.zero_le _, F1, M1, [], [], L2.Same.refl F1, .nil, rep1.newG hD, q⟩, ?_⟩
  rintro i m H2 ⟨rfl, hi, F2, M2, acc, accV, s2, rv2, rep2, q2⟩
  obtain ⟨o1, o2⟩ := ok _ i F2 M2 H2 s2 rep2 hi
  by_cases hlt : i < ds.length
  · obtain ⟨go, yld⟩ := o2 hlt
    refine .inr ⟨go, fun H' => ∃ F3 M3 acc accV, L2.Same F1 F3 ∧ Rvs X.K F3 accV acc ∧ Rep X.K F3 M3 (upd G Dd (.lst accV)) H' ∧ dLc2L g tt ti1 g1 tt1 te vs1 (wipeD τ vs) (fun acc M2 => R (.lst acc) M2) (ds.drop (i + 1)) acc M3, fun H' z => ⟨ds.length - (i + 1), by omega, rfl, hlt, z⟩, fun x H' y => ?_⟩
    obtain ⟨F3, d, s3, rep3, e, r⟩ := yld x H' y
    rw [drop_at e] at q2
    have rsw : Rs X.K F3 (wipe σ vs) (wipeD τ vs) := (((rs.mono s1).mono s2).mono s3).wipe vs
    refine ⟨F3, M2, _, wipeD τ vs, d, _, r, rsw, rep3, q2, fun σ4 τ4 M4 F4 H4 w4 q4 s4 rep4 rs4 => ⟨by rw [w4, wipe_idem], ?_⟩⟩
    refine ⟨F4, M4, _, τ4, _, XF, rs4, rep4, q4, fun b M5 F5 H5 q5 s5 rep5 => ?_, KX.none⟩
    have s15 := ((s2.trans s3).trans s4).trans s5
    have rv5 := ((rv2.mono s3).mono s4).mono s5
    cases b with
    | false => exact iteF ⟨F5, M5, acc, accV, s15, rv5, rep5, q5.2 rfl⟩
    | true =>
      refine iteT ⟨F5, M5, _, τ4, _, XF, rs4.mono s5, rep5, q5.1 rfl, fun ds1 M6 F6 H6 J1 q6 s6 rep6 ok1 => ?_, KX.none⟩
      refine ⟨fun j m H => m = ds1.length - j ∧ j ≤ ds1.length ∧ ∃ F7 M7 acc accV, L2.Same F6 F7 ∧ Rvs X.K F7 accV acc ∧ Rep X.K F7 M7 (upd G Dd (.lst accV)) H ∧ dLcL g1 tt1 te vs1 (wipeD τ4 vs1) (fun acc' M5 => dLc2L g tt ti1 g1 tt1 te vs1 (wipeD τ vs) (fun acc M2 => R (.lst acc) M2) (ds.drop (i + 1)) acc' M5) (ds1.drop j) acc M7, ⟨_, rfl, Nat.zero_le _, F6, M6, acc, accV, L2.Same.refl F6, rv5.mono s6, rep6, q6⟩, ?_⟩
      rintro j m H7 ⟨rfl, hj, F7, M7, acc7, accV7, s7, rv7, rep7, q7⟩
      obtain ⟨p1, p2⟩ := ok1 _ j F7 M7 H7 s7 rep7 hj
      by_cases hlj : j < ds1.length
      · obtain ⟨go1, yld1⟩ := p2 hlj
        refine .inr ⟨go1, fun H' => ∃ F8 M8 acc accV, L2.Same F6 F8 ∧ Rvs X.K F8 accV acc ∧ Rep X.K F8 M8 (upd G Dd (.lst accV)) H' ∧ dLcL g1 tt1 te vs1 (wipeD τ4 vs1) (fun acc' M5 => dLc2L g tt ti1 g1 tt1 te vs1 (wipeD τ vs) (fun acc M2 => R (.lst acc) M2) (ds.drop (i + 1)) acc' M5) (ds1.drop (j + 1)) acc M8, fun H' z => ⟨ds1.length - (j + 1), by omega, rfl, hlj, z⟩, fun x H' y => ?_⟩
        obtain ⟨F8, d1, s8, rep8, e1, r1⟩ := yld1 x H' y
        rw [drop_at e1] at q7
        have s48 := ((s5.trans s6).trans s7).trans s8
        have rsw1 : Rs X.K F8 (wipe _ vs1) (wipeD τ4 vs1) := (rs4.mono s48).wipe vs1
        refine ⟨F8, M7, _, wipeD τ4 vs1, d1, _, r1, rsw1, rep8, q7, fun σ9 τ9 M9 F9 H9 w9 q9 s9 rep9 rs9 => ⟨by rw [w9, wipe_idem], ?_⟩⟩
        refine ⟨F9, M9, _, τ9, _, XF, rs9, rep9, q9, fun b M10 F10 H10 q10 s10 rep10 => ?_, KX.none⟩
        have rv10 := ((rv7.mono s8).mono s9).mono s10
        have s6t := ((s7.trans s8).trans s9).trans s10
        cases b with
        | true =>
          refine iteT ⟨F10, M10, _, τ9, _, XF, rs9.mono s10, rep10, q10.1 rfl, fun y M11 F11 H11 v q11 s11 rep11 r11 => ?_, KX.none⟩
          have rv11 := rv10.mono s11
          exact ⟨accV7, (rep11.fr Dd _ upd_same).1, by rw [rv11.len]; exact q11.1, F11, M11, _, _, s6t.trans s11, rv11.snoc r11, rep11.putG, q11.2⟩
        | false => exact iteF ⟨F10, M10, acc7, accV7, s6t, rv10, rep10, q10.2 rfl⟩
      · have e : j = ds1.length := by omega
        refine .inl ⟨p1 e, ?_⟩
        rw [e, List.drop_length] at q7
        exact ⟨F7, M7, acc7, accV7, (s15.trans s6).trans s7, rv7, rep7, q7⟩
  · have e : i = ds.length := by omega
    refine .inl ⟨o1 e, ?_⟩
    rw [e, List.drop_length] at q2
    obtain ⟨rep', s⟩ := rep2.frzG gD
    exact k _ M2 _ H2 _ q2 ((s1.trans s2).trans s) rep' (.lst upd_same (rv2.mono s))
variable {elt tg iter tg1 iter1 : Expr} {ifs ifs1 : List Expr} {scope : Scope} {own : List (Str × Nat)} {pos : Pos}
theorem de_lc2 (hc : X.calm = true) (hN : X.N.Nodup) (hi : DI X E tg iter ti) (ok : BlkOk X.N X.env.scope scope own) (hv : ∀ i ∈ vs1, i ∈ own.map (·.2))
    (hg : ∀ (s : Shared) (H : Hp) (C : Addr) (cl : List (Str × Addr)) (fp : List Addr), DGw (X.blk s H scope (compEnvC scope cl C X.env) fp) (own.map (·.2)) tg g) (ht : ∀ (s : Shared) (H : Hp) (C : Addr) (cl : List (Str × Addr)) (fp : List Addr), DTs (X.blk s H scope (compEnvC scope cl C X.env) fp) E0' ifs tt)
    (hi1 : ∀ (s : Shared) (H : Hp) (C : Addr) (cl : List (Str × Addr)) (fp : List Addr), DI (X.blk s H scope (compEnvC scope cl C X.env) fp) E0' tg1 iter1 ti1)
    (hg1 : ∀ (s : Shared) (H : Hp) (C : Addr) (cl : List (Str × Addr)) (fp : List Addr), DGw (X.blk s H scope (compEnvC scope cl C X.env) fp) vs1 tg1 g1) (ht1 : ∀ (s : Shared) (H : Hp) (C : Addr) (cl : List (Str × Addr)) (fp : List Addr), DTs (X.blk s H scope (compEnvC scope cl C X.env) fp) E0' ifs1 tt1)
    (he : ∀ (s : Shared) (H : Hp) (C : Addr) (cl : List (Str × Addr)) (fp : List Addr), DE (X.blk s H scope (compEnvC scope cl C X.env) fp) E0' elt te) (hs : ∀ x, foldedSetIterable iter X.env x = pure x := by intro _; rfl) (hs1 : ∀ env x, foldedSetIterable iter1 env x = pure x := by intro _ _; rfl) :
    DE X E (.ListComp elt [⟨tg, iter, ifs, 0⟩, ⟨tg1, iter1, ifs1, 0⟩] scope pos) (dLc2 ti g tt ti1 g1 tt1 te (own.map (·.2)) vs1) :=
  ⟨(pe_lc2 (g := upGw X.K (own.map (·.2)) g) (tt := upT X.K E0' tt) (wi1 := upI X.K E0' ti1) (g1 := upGw X.K vs1 g1) (tt1 := upT X.K E0' tt1) (te := up X.K E0' te) hc hN hi.p ok hv (fun s H C cl fp => (hg s H C cl fp).p) (fun s H C cl fp => (ht s H C cl fp).p) (fun s H C cl fp => (hi1 s H C cl fp).p) (fun s H C cl fp => (hg1 s H C cl fp).p) (fun s H C cl fp => (ht1 s H C cl fp).p) (fun s H C cl fp => (he s H C cl fp).p) hs hs1).imp fun σ H Q h => up_lc2 h⟩
theorem ds_setLc2 (i : Nat) {y : Str} {py : Pos} {spos : Pos} (hc : X.calm = true) (hN : X.N.Nodup) (hy : X.N[i]? = some y) (hyl : X.env.scope.names.lookup y = some .local)
    (hsw : swapsWith (.ListComp elt [⟨tg, iter, ifs, 0⟩, ⟨tg1, iter1, ifs1, 0⟩] scope pos) (some (.Name y py)) spos.line X.env = pure true) (hi : DI X E tg iter ti) (ok : BlkOk X.N X.env.scope scope own) (hv : ∀ i ∈ vs1, i ∈ own.map (·.2))
    (hg : ∀ (s : Shared) (H : Hp) (C : Addr) (cl : List (Str × Addr)) (fp : List Addr), DGw (X.blk s H scope (compEnvC scope cl C X.env) fp) (own.map (·.2)) tg g) (ht : ∀ (s : Shared) (H : Hp) (C : Addr) (cl : List (Str × Addr)) (fp : List Addr), DTs (X.blk s H scope (compEnvC scope cl C X.env) fp) E0' ifs tt)
    (hi1 : ∀ (s : Shared) (H : Hp) (C : Addr) (cl : List (Str × Addr)) (fp : List Addr), DI (X.blk s H scope (compEnvC scope cl C X.env) fp) E0' tg1 iter1 ti1)
    (hg1 : ∀ (s : Shared) (H : Hp) (C : Addr) (cl : List (Str × Addr)) (fp : List Addr), DGw (X.blk s H scope (compEnvC scope cl C X.env) fp) vs1 tg1 g1) (ht1 : ∀ (s : Shared) (H : Hp) (C : Addr) (cl : List (Str × Addr)) (fp : List Addr), DTs (X.blk s H scope (compEnvC scope cl C X.env) fp) E0' ifs1 tt1)
    (he : ∀ (s : Shared) (H : Hp) (C : Addr) (cl : List (Str × Addr)) (fp : List Addr), DE (X.blk s H scope (compEnvC scope cl C X.env) fp) E0' elt te) (hs : ∀ x, foldedSetIterable iter X.env x = pure x := by intro _; rfl) (hs1 : ∀ env x, foldedSetIterable iter1 env x = pure x := by intro _ _; rfl) :
    DS X E (.Assign [.Name y py] (.ListComp elt [⟨tg, iter, ifs, 0⟩, ⟨tg1, iter1, ifs1, 0⟩] scope pos) spos) (dSet i (dLc2 ti g tt ti1 g1 tt1 te (own.map (·.2)) vs1)) := by
  refine ⟨(ps_setLc2 (g := upGw X.K (own.map (·.2)) g) (tt := upT X.K E0' tt) (wi1 := upI X.K E0' ti1) (g1 := upGw X.K vs1 g1) (tt1 := upT X.K E0' tt1) (te := up X.K E0' te) hc hN hy hyl hsw hi.p ok hv (fun s H C cl fp => (hg s H C cl fp).p) (fun s H C cl fp => (ht s H C cl fp).p) (fun s H C cl fp => (hi1 s H C cl fp).p) (fun s H C cl fp => (hg1 s H C cl fp).p) (fun s H C cl fp => (ht1 s H C cl fp).p) (fun s H C cl fp => (he s H C cl fp).p) hs hs1).imp fun D σ H ⟨F, M, G, τ, N, rs, rep, h, lk⟩ => ?_⟩
  exact up_lc2 (E := E) ⟨F, M, G, τ, _, _, rs, rep, h, fun d M1 F1 H1 v q s1 rep1 r1 => lk.nx _ _ _ F1 _ q s1 rep1 ((rs.mono s1).set r1 i), lk.ex.at rs⟩
end
/-- a loop of such a comprehension where the store stays: by an invariant over what is left and what is told -/
theorem dLc2_indC {g : TGD} {tt : TTD} {ti1 : TID} {g1 : TGD} {tt1 : TTD} {te : TD} {vs1 : List Nat} {τ : SD} {R : List D → MS → Prop} {M : MS} (I : List D → List D → Prop) {ds acc : List D} (h0 : I ds acc)
    (step : ∀ d r acc, I (d :: r) acc → (∀ acc', I r acc' → dLc2L g tt ti1 g1 tt1 te vs1 τ R r acc' M) → dLc2L g tt ti1 g1 tt1 te vs1 τ R (d :: r) acc M) (fin : ∀ acc, I [] acc → R acc M) : dLc2L g tt ti1 g1 tt1 te vs1 τ R ds acc M := by
  induction ds generalizing acc with
  | nil => exact fin acc h0
  | cons d r ih => exact step d r acc h0 fun acc' h => ih h
end RS

set_option maxRecDepth 100000
set_option maxHeartbeats 4000000
namespace RS
open PySem PySem.Spec PyProof.Rows L2 NdefX He PySem.W
variable [Tbls]
/-! ### calls with keywords -/
structure CalK (P : Program) (w : World) (K : Frg) (mg : Str → Option Value) (base : Heap) (CX : CXT) (lv : Nat) (x : Str) (ps : List Str) (n : Nat) (ks : List Str) (dvs : List V) (sp : Sp) : Prop where
  ex : ∃ (f : Addr) (fd : FuncData) (g : List Value → List Value → List Value), FnOk P w K mg base CX lv f fd ps sp ∧ mg x = some (.ref f) ∧ PySem.W.keepIn K (.ref f) = true ∧ KBn K fd ps n ks g (fun vs zs => vs ++ (dvs ++ zs))
structure MtdK (P : Program) (w : World) (K : Frg) (mg : Str → Option Value) (base : Heap) (CX : CXT) (lv : Nat) (C : Addr) (m : Str) (ps : List Str) (n : Nat) (ks : List Str) (dvs : List V) (sp : Sp) : Prop where
  ex : ∃ (f : Addr) (fd : FuncData) (g : List Value → List Value → List Value), FnOk P w K mg base CX lv f fd ps sp ∧ Meth K C m f ∧ KBn K fd ps n ks g (fun vs zs => vs ++ (dvs ++ zs))
/-- no positional defaults, every keyword-only parameter is written -/
theorem kbN {K : Frg} {x qual : Str} {params : Arguments} {body : List Stmt} {scope : Scope} {kws : List (Str × V)} {f : Addr} {fd : FuncData} {ps : List Str} (F : FunD K x qual params body scope [] kws f fd) (n : Nat) (ks : List Str)
    (h : ∀ (kV doc pm : Value) (an : Option Addr) (cdv ct : Value) (us ws : List Value), us.length = n → ws.length = ks.length → bindArgs (PySem.W.fnOf x qual params body scope .none kV doc pm an cdv ct) ⟨us, ks.zip ws⟩ = pure (ps.zip (us ++ ws))) :
    ∃ g, KBn K fd ps n ks g (fun vs zs => vs ++ ([] ++ zs)) := by
  obtain ⟨oc, od, dV, kV, doc, pm, an, cdv, ct, osl, rfl, lk, hcd, hD, hK⟩ := F.ex
  rcases hD with ⟨_, rfl⟩ | ⟨e, _⟩
  · exact ⟨fun us ws => us ++ ws, fun s us ws _ l1 l2 => BindsTo.of_eq (h kV doc pm an cdv ct us ws l1 l2), fun r1 r2 => r1.append r2⟩
  · exact absurd rfl e
/-- all positional defaults fill up, every keyword-only parameter is written -/
theorem kbD {K : Frg} {x qual : Str} {params : Arguments} {body : List Stmt} {scope : Scope} {dvs : List V} {kws : List (Str × V)} {f : Addr} {fd : FuncData} {ps : List Str} (F : FunD K x qual params body scope dvs kws f fd) (n : Nat) (ks : List Str) (hd : dvs ≠ [])
    (h : ∀ (T : Addr) (kV doc pm : Value) (an : Option Addr) (cdv ct : Value) (us its ws : List Value), us.length = n → its.length = dvs.length → ws.length = ks.length →
      ∃ k, bindArgs (PySem.W.fnOf x qual params body scope (.ref T) kV doc pm an cdv ct) ⟨us, ks.zip ws⟩ = seqItems? (.ref T) >>= k ∧ k (some its.toArray) = pure (ps.zip (us ++ (its ++ ws)))) :
    ∃ g, KBn K fd ps n ks g (fun vs zs => vs ++ (dvs ++ zs)) := by
  obtain ⟨its, b⟩ := FunD.kbindsD F n ks (fun us its ws => us ++ (its ++ ws)) hd (fun r1 r2 r3 => r1.append (r2.append r3)) h
  exact ⟨_, b⟩
structure DK (X : Cx) (E : L2.St → XK) (kws : List Keyword) (T : TAD) : Prop where
  p : PK X kws (upA X.K E T)
section
variable {X : Cx} {E : L2.St → XK} {CX : CXT} {lv n : Nat} {x m : Str} {C : Addr} {ps ks : List Str} {dvs : List V} {dds : List D} {S : SpD} {p pos apos kpos : Pos} {e o : Expr} {es : List Expr} {kws : List Keyword} {Ta Tk : TAD} {T To : TD} {nm : Option Str}
theorem PK.imp' {t t' : TA} (h : PK X kws t) (i : ∀ σ H Q, t' σ H Q → t σ H Q) : PK X kws t' := ⟨fun pos pins s σ H Q I q => h.run pos pins s σ H Q I (i _ _ _ q)⟩
theorem dk_nil : DK X E [] dNil := ⟨PK.imp' pk_nil fun σ H Q ⟨F, M, G, τ, R, W, rs, rep, h, k, kx⟩ => k [] M F H [] h (L2.Same.refl F) rep .nil⟩
theorem dk_cons (h1 : DE X E e T) (h2 : DK X E kws Tk) : DK X E (⟨nm, e, kpos⟩ :: kws) (dCons T Tk) := by
  refine ⟨PK.imp' (pk_cons h1.p h2.p) fun σ H Q ⟨F, M, G, τ, R, W, rs, rep, h, k, kx⟩ => ?_⟩
  refine ⟨F, M, G, τ, _, W, rs, rep, h, fun d M1 F1 H1 v q s1 rep1 r1 => ?_, kx⟩
  refine ⟨F1, M1, G, τ, _, W, rs.mono s1, rep1, q, fun ds M2 F2 H2 vs q2 s2 rep2 r2 => ?_, kx.le s1⟩
  exact k _ M2 F2 H2 _ q2 (s1.trans s2) rep2 (.cons (r1.mono s2) r2)
theorem run_fnKD {sp : Sp} {E1 : XK} {f : Addr} {fd : FuncData} {g : List Value → List Value → List Value} {gV : List V → List V → List V} {pins : List (Addr × Obj)} {σ : L2.St} {H : Hp} {s : Shared} {Q : VK} {us ws : List Value} {vs zs : List V} (F : FnOk X.prog X.w X.K X.mg X.base CX lv f fd ps sp) (hr : Room lv X.A) (hb : KBn X.K fd ps n ks g gV) (hx : PassesAt CX X σ E1)
    (I : Inv X pins σ H s) (r : Vals vs us) (rz : Vals zs ws) (l1 : vs.length = n) (l2 : zs.length = ks.length) (h : sp (gV vs zs) H Q E1) : wpAny (model X.prog X.w) X.A (call (.ref f) us (ks.zip ws)) (EP X pins σ Q) X.xe s := by
  have rr := hb.rel r rz
  have done := F.run X.A X.stack s H ⟨us, ks.zip ws⟩ (g us ws) (gV vs zs) Q E1 hr I.env0 (hb.to s us ws I.kIn (r.length.symm.trans l1) (rz.length.symm.trans l2)) rr h
  refine wpAny_call (codeAny_mono done fun r s' got => ?_)
  match r, got with
  | .error e, got => exact hx pins H s e s' I got
  | .ok (.ret u), got => exact I.after got
  | .ok .next, got => exact got.elim
  | .ok .brk, got => exact got.elim
  | .ok .cont, got => exact got.elim
def dCallK (n m : Nat) (S : SpD) (dds : List D) (Ta Tk : TAD) : TD := fun τ M R W => Ta τ M (fun ds M1 => Tk τ M1 (fun zs M2 => ds.length = n ∧ zs.length = m ∧ S (ds ++ (dds ++ zs)) M2 R W) W) W
theorem de_fnK (F : CalK X.prog X.w X.K X.mg X.base CX lv x ps n ks dvs (upSp X.K S)) (dd : Dfl X.K dvs dds) (hr : Room lv X.A) (hx : ∀ σ, PassesAt CX X σ (E σ)) (ha : DAs X E (e :: es) Ta) (hkw : DK X E kws Tk) (hg : Gl X x := by rfl)
    (hall : (backToKw pos (keywordEach kws X.env)).all (·.1.isSome) = true := by rfl) (hks : (backToKw pos (keywordEach kws X.env)).filterMap (·.1) = ks := by rfl) (hdb : (x == ("__debug__" : Str)) = false := by decide)
    (he : starEach (e :: es) X.env = (false, eval e X.env) :: starEach es X.env := by rfl) (hpl : ((backTo pos (starEach (e :: es) X.env)).any (·.1) || (backToKw pos (keywordEach kws X.env)).any (·.1.isNone)) = false := by rfl) :
    DE X E (.Call (.Name x p) (e :: es) kws pos) (dCallK n ks.length S dds Ta Tk) := by
  obtain ⟨f, fd, g, FO, hm, hk, b⟩ := F.ex
  refine ⟨⟨fun pins s σ H Q I ⟨F, M, G, τ, R, W, rs, rep, h, k, kx⟩ => ?_⟩⟩
  refine wpAny_Call_Name_kw (ld_glob I hg hm ?_ hdb)
  have hA : upA X.K E Ta σ H (fun vs H1 => upA X.K E Tk σ H1 (fun zs H2 => vs.length = n ∧ zs.length = ks.length ∧ upSp X.K S (vs ++ (dvs ++ zs)) H2 Q (E σ))) := by
    refine ⟨F, M, G, τ, _, W, rs, rep, h, fun es' M1 F1 H1 vs q s1 rep1 r1 => ?_, kx⟩
    refine ⟨F1, M1, G, τ, _, W, rs.mono s1, rep1, q, fun zs' M2 F2 H2 zs q2 s2 rep2 r2 => ?_, kx.le s1⟩
    exact ⟨by rw [r1.len]; exact q2.1, by rw [r2.len]; exact q2.2.1, F2, M2, G, _, R, W, (r1.mono s2).append ((dd F2).append r2), rep2, q2.2.2, (k.le s1).le s2, (kx.le s1).le s2⟩
  refine PySem.W.callWith_KW (h₀ := X.base) I.ok.mod.kin hk hall (thn (ha.p.run pos pins s σ H _ I hA) fun us s1 ⟨vs, H1, I1, r, q⟩ => ?_) hpl he
  refine thn (hkw.p.run pos pins s1 σ H1 _ I1 q) fun ws s2 ⟨zs, H2, I2, rz, l1, l2, q2⟩ => ⟨I2.kIn, ?_⟩
  rw [hks]
  exact run_fnKD FO hr b (hx σ) I2 r rz l1 l2 q2
def dMethK (C : Addr) (m : Str) (n k : Nat) (S : SpD) (dds : List D) (To : TD) (Ta Tk : TAD) : TD := fun τ M R W => To τ M (fun d M1 => match vw M1 d with
  | .ins C' gs => C' = C ∧ m ∉ gs.map (·.1) ∧ Ta τ M1 (fun ds M2 => Tk τ M2 (fun zs M3 => ds.length + 1 = n ∧ zs.length = k ∧ S (d :: (ds ++ (dds ++ zs))) M3 R W) W) W
  | _ => False) W
theorem de_mtK {pl : Sem Bool} (c : Cls X.K C) (F : MtdK X.prog X.w X.K X.mg X.base CX lv C m ps n ks dvs (upSp X.K S)) (dd : Dfl X.K dvs dds) (hr : Room lv X.A) (hx : ∀ σ, PassesAt CX X σ (E σ)) (he : DE X E o To) (ha : DAs X E (e :: es) Ta) (hkw : DK X E kws Tk)
    (hall : (backToKw pos (keywordEach kws X.env)).all (·.1.isSome) = true := by rfl) (hks : (backToKw pos (keywordEach kws X.env)).filterMap (·.1) = ks := by rfl)
    (hst : starEach (e :: es) X.env = (false, eval e X.env) :: starEach es X.env := by rfl) (hpl : ((backTo pos (starEach (e :: es) X.env)).any (·.1) || (backToKw pos (keywordEach kws X.env)).any (·.1.isNone)) = false := by rfl)
    (ht : eval (.Call (.Attribute o m apos) (e :: es) kws pos) X.env = (do
      let ov ← eval o X.env
      standAt apos.atName
      let (f, first) ← holding [ov] (getMethod ov m pl)
      callWith pos f first (backTo pos (starEach (e :: es) X.env)) (backToKw pos (keywordEach kws X.env))) := by rfl) : DE X E (.Call (.Attribute o m apos) (e :: es) kws pos) (dMethK C m n ks.length S dds To Ta Tk) := by
  obtain ⟨f, fd, g, FO, hm, b⟩ := F.ex
  refine ⟨⟨fun pins s σ H Q I ⟨F, M, G, τ, R, W, rs, rep, h, k, kx⟩ => ?_⟩⟩
  have hO : up X.K E To σ H (fun x H1 => ∃ a dx fs, x = .ref a ∧ H1 a = some (.ins C dx fs) ∧ fs.lookup m = none ∧ upA X.K E Ta σ H1 (fun vs H2 => upA X.K E Tk σ H2 (fun zs H3 => vs.length + 1 = n ∧ zs.length = ks.length ∧ upSp X.K S (x :: (vs ++ (dvs ++ zs))) H3 Q (E σ)))) := by
    refine ⟨F, M, G, τ, _, W, rs, rep, h, fun d M1 F1 H1 v q s1 rep1 r1 => ?_, kx⟩
    dsimp only at q
    split at q
    · rename_i C' gs e
      obtain ⟨rfl, nm, q⟩ := q
      obtain ⟨a, dx, fs, ev, e1, rr, _⟩ := vw_ins rep1 r1 e
      refine ⟨a, dx, fs, ev, e1, rr.no nm, F1, M1, G, τ, _, W, rs.mono s1, rep1, q, fun es' M2 F2 H2 vs q2 s2 rep2 r2 => ?_, kx.le s1⟩
      refine ⟨F2, M2, G, τ, _, W, (rs.mono s1).mono s2, rep2, q2, fun zs' M3 F3 H3 zs q3 s3 rep3 r3 => ?_, (kx.le s1).le s2⟩
      exact ⟨by rw [r2.len]; exact q3.1, by rw [r3.len]; exact q3.2.1, F3, M3, G, _, R, W, .cons ((r1.mono s2).mono s3) ((r2.mono s3).append ((dd F3).append r3)), rep3, q3.2.2, ((k.le s1).le s2).le s3, ((kx.le s1).le s2).le s3⟩
    · exact q.elim
  refine PySem.W.methodCall_KW (pl := pl) (thn (he.p.run pins s σ H _ I hO) fun u s1 ⟨x, H1, I1, rx, a, dx, fs, ex, ea, l, q⟩ => ?_) ht
  subst ex
  obtain rfl : u = Value.ref a := rx
  refine getmeth_ok I1 ea c hm l ?_
  refine PySem.W.callWith_KW (first := [.ref a]) (h₀ := X.base) I.ok.mod.kin hm.kp hall (thn (ha.p.run pos pins s1 σ H1 _ I1 q) fun us s2 ⟨vs, H2, I2, r, q2⟩ => ?_) hpl hst
  refine thn (hkw.p.run pos pins s2 σ H2 _ I2 q2) fun ws s3 ⟨zs, H3, I3, rz, l1, l2, q3⟩ => ⟨I3.kIn, ?_⟩
  rw [hks]
  exact run_fnKD (us := .ref a :: us) (vs := .ref a :: vs) FO hr b (hx σ) I3 (.cons rfl r) rz l1 l2 q3
end
end RS

set_option maxRecDepth 100000
set_option maxHeartbeats 4000000
namespace RS
open PySem PySem.Spec PyProof.Rows L2 NdefX He
open PySem.SeqAt
open AutoSeq1 (wpAny_loadPart')
open MeetsSeq MeetsSeq2 MeetsSeq3 SeqRoads2
/-! ### in, by the items' own == -/
section
variable {prog : Program} {w : World} {A : Around} {R : Result → Shared → Prop}
/-- one turn: the i-th item is compared -/
def TurnL (prog : Program) (w : World) (A : Around) (R : Result → Shared → Prop) (l : Addr) (N : Nat) (x : Value) (I : Nat → Shared → Prop) : Prop :=
  ∀ i s, I i s → ∃ (items : Array Value) (n : Nat) (dd : Option Addr) (sl : Array (Option Value)), s.heap.get? l = some { cls := .type "list", dict := dd, data := .seq items n, slots := sl } ∧ items.size = N ∧
    ∀ h : i < items.size, wpAny (model prog w) A.in1 (eqBool items[i] x) (fun r s' => (r = true → R (.ok (.ret (.bool true))) s') ∧ (r = false → I (i + 1) s')) (fun e s' => R (.error e) s') s
theorem has_loop (l : Addr) (N : Nat) (x : Value) (I : Nat → Shared → Prop) (hl : TurnL prog w A R l N x I) (fin : ∀ s, I N s → R (.ok (.ret (.bool false))) s) (k : Nat) :
    ∀ i : Nat, N - i = k → i ≤ N → ∀ s, I i s → wpAny (model prog w) A.in1 (Builtin.«list.__contains__.loop» ⟨[.ref l, x, rawInt i], []⟩) (GQ.FinOf prog w A R) (fun e s' => R (.error e) s') s := by
  induction k with
  | zero =>
    intro i hk hi s h
    obtain ⟨items, n, dd, sl, e1, hs, _⟩ := hl _ _ h
    have ei : i = N := by omega
    have hR := fin s (ei ▸ h)
    obtain ⟨hp, g, d, tk, os⟩ := s
    wp_walk using wpAny_loadPart' e1
    have e2 : items[((i : Nat) : Int).toNat]? = none := by simp; omega
    rw [e2]
    wp_walk
    exact hR
  | succ k ih =>
    intro i hk hi s h
    obtain ⟨items, n, dd, sl, e1, hs, turn⟩ := hl _ _ h
    have hlt : i < items.size := by omega
    have ht := turn hlt
    obtain ⟨hp, g, d, tk, os⟩ := s
    wp_walk using wpAny_loadPart' e1
    have e2 : items[((i : Nat) : Int).toNat]? = some items[i] := by simp [hlt]
    rw [e2]
    refine wpAny_bind (wpAny_mono ht (fun r s2 h2 => ?_) fun _ _ x => x)
    obtain ⟨h2, h3⟩ := h2
    cases r with
    | true =>
      have q := h2 rfl
      obtain ⟨hp2, g2, d2, tk2, os2⟩ := s2
      wp_walk
      exact q
    | false =>
      have q := ih (i + 1) (by omega) (by omega) s2 (h3 rfl)
      have hc : ((i : Int) + 1) = ((i + 1 : Nat) : Int) := by omega
      obtain ⟨hp2, g2, d2, tk2, os2⟩ := s2
      wp_walk
      rw [hc]
      exact ⟨plainId_quiet plain_contains_loop _, codeAny_builtin entry_contains_loop (by
        rw [Around.under_plainId plain_contains_loop _]
        exact q)⟩
theorem list_has (l : Addr) (N : Nat) (x : Value) (I : Nat → Shared → Prop) (hl : TurnL prog w A R l N x I) (fin : ∀ s, I N s → R (.ok (.ret (.bool false))) s) {s : Shared} (h : I 0 s) :
    wpAny (model prog w) A.in1 (Builtin.«list.__contains__» ⟨[.ref l, x], []⟩) (GQ.FinOf prog w A R) (fun e s' => R (.error e) s') s := by
  have q := has_loop l N x I hl fin N 0 (by omega) (by omega) s h
  obtain ⟨items, n, dd, sl, e1, hs, _⟩ := hl _ _ h
  obtain ⟨hp, g, d, tk, os⟩ := s
  wp_walk using wpAny_loadPart' e1
  exact ⟨plainId_quiet plain_contains_loop _, codeAny_builtin entry_contains_loop (by
    rw [Around.under_plainId plain_contains_loop _]
    exact q)⟩
theorem tuple_has (l : Addr) (items : Array Value) (n : Nat) (dd : Option Addr) (sl : Array (Option Value)) (x : Value) (I : Nat → Shared → Prop)
    (turn : ∀ i (h : i < items.size) s, I i s → wpAny (model prog w) A.in1 (eqBool items[i] x) (fun r s' => (r = true → R (.ok (.ret (.bool true))) s') ∧ (r = false → I (i + 1) s')) (fun e s' => R (.error e) s') s)
    (fin : ∀ s, I items.size s → R (.ok (.ret (.bool false))) s) {s : Shared} (hl : s.heap.get? l = some { cls := .type "tuple", dict := dd, data := .seq items n, slots := sl }) (h : I 0 s) :
    wpAny (model prog w) A.in1 (Builtin.«tuple.__contains__» ⟨[.ref l, x], []⟩) (GQ.FinOf prog w A R) (fun e s' => R (.error e) s') s := by
  obtain ⟨hp, g, d, tk, os⟩ := s
  wp_walk using wpAny_loadPart' hl, wpAny_forIn_array _ (fun rest b s' => b.1 = none ∧ ∃ i, rest = items.toList.drop i ∧ i ≤ items.size ∧ I i s') _
  case turn =>
    rintro y rest b s' ⟨hb, i, hr, hi, hI⟩
    have hlt : i < items.size := by
      rcases Nat.lt_or_ge i items.size with h | h
      · exact h
      · rw [List.drop_eq_nil_of_le (by simpa using h)] at hr
        cases hr
    have hd : items.toList.drop i = items[i] :: items.toList.drop (i + 1) := by simp [List.drop_eq_getElem_cons, hlt]
    rw [hd] at hr
    cases hr
    refine wpAny_bind (wpAny_mono (turn i hlt s' hI) (fun r s2 h2 => ?_) fun _ _ x => x)
    obtain ⟨h2, h3⟩ := h2
    cases r with
    | true =>
      have q := h2 rfl
      obtain ⟨hp2, g2, d2, tk2, os2⟩ := s2
      wp_walk
      exact q
    | false =>
      have q := h3 rfl
      obtain ⟨hp2, g2, d2, tk2, os2⟩ := s2
      wp_walk
      exact ⟨rfl, i + 1, rfl, by omega, q⟩
  case fin =>
    rintro ⟨b1, b2⟩ s' ⟨hb, i, hr, hi, hI⟩
    simp only at hb
    subst hb
    have ei : i = items.size := by
      rcases Nat.lt_or_ge i items.size with h | h
      · have := congrArg List.length hr
        simp at this
        omega
      · omega
    subst ei
    have q := fin s' hI
    obtain ⟨hp2, g2, d2, tk2, os2⟩ := s'
    wp_walk
    exact q
  case h =>
    exact ⟨rfl, 0, by simp, by omega, h⟩
end
section
variable {prog : Program} {w : World} {A : Around} {E : Value → Shared → Prop} {s : Shared}
theorem in_here {T id : String} {B : Builtin} {c x : Value} {Q : Value → Shared → Prop} (neg : Bool) (hT : s.TypeIs c T) (slot : Slot T "__contains__" id) (entry : entryFor table id = some B) (args : argsOk id ⟨[c, x], []⟩)
    (h : wpAny (model prog w) A.in1 (B ⟨[c, x], []⟩) (GQ.FinOf prog w A (wants (fun v s' => ∃ b, v = .bool b ∧ Q (.bool (if neg then !b else b)) s') E)) (fun e s' => wants (fun v s' => ∃ b, v = .bool b ∧ Q (.bool (if neg then !b else b)) s') E (.error e) s') s) :
    wpAny (model prog w) A (compareOp (if neg then .NotIn else .In) x c) Q E s := by
  have q := GQ.call_here slot hT entry args h
  cases neg with
  | true =>
    show wpAny _ A (do return .bool (!(← contains c x))) Q E s
    refine wpAny_bind (wpAny_contains_slot hT slot (wpAny_mono q (fun v s' hv => ?_) fun _ _ e => e))
    obtain ⟨b, rfl, hq⟩ := hv
    exact wpAny_truthy_bool (wpAny_pure hq)
  | false =>
    show wpAny _ A (do return .bool (← contains c x)) Q E s
    refine wpAny_bind (wpAny_contains_slot hT slot (wpAny_mono q (fun v s' hv => ?_) fun _ _ e => e))
    obtain ⟨b, rfl, hq⟩ := hv
    exact wpAny_truthy_bool (wpAny_pure hq)
end
/-! ### of the class at C, the items and what is looked for -/
/-- what a tuple holds is one -/
def TupInj (K : Frg) (H : Hp) : Prop := ∀ a xs ys, SqT K H a xs → SqT K H a ys → xs = ys
/-- one item is compared with the object at a -/
def oneE (K : Frg) (C : Addr) (sp : Sp) (E : XK) (a : Addr) (Q : Bool → Hp → Prop) (y : V) (H : Hp) (nx : Hp → Prop) : Prop := ∃ b dx fs dy gs, y = .ref b ∧ (b = a → TupInj K H → Q true H) ∧ H b = some (.ins C dx fs) ∧ H a = some (.ins C dy gs) ∧
  sp [.ref b, .ref a] H (fun v H' => ∃ k, v = .bl k ∧ (k = true → Q true H') ∧ (k = false → nx H')) E
/-- the items of a tuple one behind another -/
def loopE (K : Frg) (C : Addr) (sp : Sp) (E : XK) (a : Addr) (Q : Bool → Hp → Prop) : List V → Hp → Prop
  | [], H => Q false H
  | y :: ys, H => oneE K C sp E a Q y H (loopE K C sp E a Q ys)
/-- the items of a list, read anew at each turn; n turns are left -/
def loopL (K : Frg) (C : Addr) (sp : Sp) (E : XK) (a p : Addr) (N : Nat) (Q : Bool → Hp → Prop) : Nat → Hp → Prop
  | 0, H => (∃ xs, SqL K H p xs ∧ xs.length = N) ∧ Q false H
  | n + 1, H => ∃ xs y, SqL K H p xs ∧ xs.length = N ∧ xs[N - (n + 1)]? = some y ∧ oneE K C sp E a Q y H (loopL K C sp E a p N Q n)
def rInE (K : Frg) (C : Addr) (sp : Sp) (E : XK) (neg : Bool) : R2 := fun x y H Q => ∃ a p, x = .ref a ∧ y = .ref p ∧
  ((∃ N, loopL K C sp E a p N (fun k H' => Q (.bl (if neg then !k else k)) H') N H) ∨ (∃ xs, SqT K H p xs ∧ loopE K C sp E a (fun k H' => Q (.bl (if neg then !k else k)) H') xs H))
section
variable {X : Cx} {CX : CXT} {lv : Nat} {C : Addr} {ps : List Str} {sp : Sp} {E : XK}
theorem eqB_own {A : Around} {pins : List (Addr × Obj)} {σ : L2.St} {H : Hp} {s : Shared} {a b dx dy : Addr} {fs gs : List (Str × V)} {Q : Bool → Hp → Prop} (F : Mtd X.prog X.w X.K X.mg X.base CX lv C "__eq__" ps [] sp) (sb : L2.Sub X lv A) (hx : Passes CX X E) (hn : PySem.W.notFirst X.K C (.ref C) = true)
    (I : Inv X pins σ H s) (eb : H b = some (.ins C dx fs)) (ea : H a = some (.ins C dy gs)) (same : b = a → TupInj X.K H → Q true H) (h : sp [.ref b, .ref a] H (fun v H' => ∃ k, v = .bl k ∧ Q k H') E) :
    wpAny (model X.prog X.w) A (eqBool (.ref b) (.ref a)) (fun r s' => ∃ H', Inv X pins σ H' s' ∧ Q r H') X.xe s := by
  by_cases hab : b = a
  · subst hab
    exact SeqAt.EqAt.same (A := A) (s := s) (.ref b) X.prog X.w X.xe _ ⟨H, I, same rfl fun _ _ _ h h' => I.tuple_inj h h'⟩
  · refine GQ.eqBool_refG hab ?_
    obtain ⟨f, fd, ds, G, k, vd, bb⟩ := F.ex
    cases vd
    obtain ⟨od, J⟩ := inst_at I eb
    obtain ⟨od', J'⟩ := inst_at I ea
    obtain ⟨mm, hF⟩ := I.fr
    refine PySem.W.cmp_K (op := .Eq) (tb := .ref C) sb.room.units0 hF I.ok.mod.kin J J'.type hn k.at_ k.fn ?_
    have e0 : Env0 X.prog X.w X.K X.mg X.base A X.stack s H := by
      have e := I.env0
      exact ⟨by rw [sb.fr]; exact e.frames, e.mod, e.bs, e.bsz, e.funs, e.frf, e.hok, e.bare⟩
    have r2 : Vals [V.ref b, V.ref a] [Value.ref b, Value.ref a] := .cons rfl (.cons rfl .nil)
    have hl := G.len _ _ _ _ h
    refine wpAny_call (codeAny_mono (G.run A X.stack s H ⟨[.ref b, .ref a], []⟩ [.ref b, .ref a] [.ref b, .ref a] _ E sb.room e0 (by
      have := bb s [.ref b, .ref a] I.kIn (by simpa using hl)
      simpa using this) r2 h) fun r s' hq => ?_)
    match r, hq with
    | .error e, hq => exact hx pins σ H s e s' I hq
    | .ok (.ret w), hq =>
      obtain ⟨z, H', I', rz, k, ez, qk⟩ := I.after hq
      subst ez
      cases rz
      exact ⟨k, rfl, H', I', qk⟩
    | .ok .next, hq => exact hq.elim
    | .ok .brk, hq => exact hq.elim
    | .ok .cont, hq => exact hq.elim
theorem op_inE (neg : Bool) (F : Mtd X.prog X.w X.K X.mg X.base CX lv C "__eq__" ps [] sp) (hr : Room (lv + 1) X.A) (hx : Passes CX X E) (hn : PySem.W.notFirst X.K C (.ref C) = true) : OpR X (compareOp (if neg then .NotIn else .In)) (rInE X.K C sp E neg) := by
  intro pins s σ H x y v u Q I rx ry h
  obtain ⟨a, p, rfl, rfl, h⟩ := h
  obtain rfl : v = Value.ref a := rx
  obtain rfl : u = Value.ref p := ry
  have sb : L2.Sub X lv X.A.in1 := (L2.Sub.mk hr rfl : L2.Sub X (lv + 1) X.A).in1
  -- one item
  have turn : ∀ {R : Bool → Hp → Prop} {nx : Hp → Prop} {i : Nat} {xs : List V} {y : V} {its : List Value} {H1 : Hp} {s1 : Shared} (hi : i < its.length), Vals xs its → xs[i]? = some y → Inv X pins σ H1 s1 → oneE X.K C sp E a R y H1 nx →
      wpAny (model X.prog X.w) X.A.in1 (eqBool its[i] (.ref a)) (fun r s' => ∃ H', Inv X pins σ H' s' ∧ (r = true → R true H') ∧ (r = false → nx H')) X.xe s1 := by
    intro R nx i xs y its H1 s1 hi rv hy I1 one
    obtain ⟨b, dx, fs, dy, gs, ey, same, eb, ea, q⟩ := one
    obtain ⟨w, hw, rw'⟩ := rv.get hy
    rw [List.getElem?_eq_getElem hi] at hw
    cases hw
    rw [ey] at rw'
    rw [show its[i] = Value.ref b from rw']
    exact eqB_own (Q := fun r H' => (r = true → R true H') ∧ (r = false → nx H')) F sb hx hn I1 eb ea (fun e t => ⟨fun _ => same e t, fun z => nomatch z⟩) q
  rcases h with ⟨N, lp⟩ | ⟨xs, hq, lp⟩
  · have first : ∀ {n : Nat} {H1 : Hp} {R : Bool → Hp → Prop}, loopL X.K C sp E a p N R n H1 → ∃ xs, SqL X.K H1 p xs ∧ xs.length = N := by
      intro n H1 R h
      cases n with
      | zero => exact h.1
      | succ n => obtain ⟨xs, _, h1, h2, _⟩ := h; exact ⟨xs, h1, h2⟩
    obtain ⟨xs, hq, hN⟩ := first lp
    obtain ⟨its, r, hl, _⟩ := I.list hq
    obtain ⟨⟨cls, dd, data, sl⟩, ho, hc, n, hd⟩ := hl.isList
    simp only at hc hd
    subst hc hd
    refine in_here neg ⟨_, ho, rfl⟩ PySem.F.slot_list_contains PySem.F.entry_list_contains (PySem.F.args_list_contains_2 _ _) ?_
    refine list_has p N (.ref a) (fun i s' => i ≤ N ∧ ∃ H', Inv X pins σ H' s' ∧ loopL X.K C sp E a p N (fun k H' => Q (.bl (if neg then !k else k)) H') (N - i) H') (fun i s' hI => ?_) (fun s' hI => ?_) ⟨Nat.zero_le _, H, I, lp⟩
    · obtain ⟨hi, H1, I1, lp1⟩ := hI
      obtain ⟨xs1, q1, hN1⟩ := first lp1
      obtain ⟨its1, r1, hl1, _⟩ := I1.list q1
      obtain ⟨⟨cls1, dd1, data1, sl1⟩, ho1, hc1, n1, hd1⟩ := hl1.isList
      simp only at hc1 hd1
      subst hc1 hd1
      refine ⟨its1.toArray, n1, dd1, sl1, ho1, by rw [← hN1]; simpa using r1.length.symm, fun hi => ?_⟩
      have hi' : i < its1.length := by simpa using hi
      have hlt : i < N := by rw [← hN1, r1.length]; exact hi'
      obtain ⟨k, hk⟩ : ∃ k, N - i = k + 1 := ⟨N - i - 1, by omega⟩
      rw [hk] at lp1
      obtain ⟨xs2, y, q2, hN2, hy, one⟩ := lp1
      have ex := I1.list_inj q1 q2
      subst ex
      rw [show N - (k + 1) = i by omega] at hy
      refine wpAny_mono (turn hi' r1 hy I1 one) (fun r s2 h2 => ?_) fun _ _ x => x
      obtain ⟨H2, I2, h2, h3⟩ := h2
      exact ⟨fun e => ⟨true, rfl, .bl _, H2, I2, rfl, h2 e⟩, fun e => ⟨by omega, H2, I2, by rw [show N - (i + 1) = k by omega]; exact h3 e⟩⟩
    · obtain ⟨_, H1, I1, lp1⟩ := hI
      rw [Nat.sub_self] at lp1
      exact ⟨false, rfl, .bl _, H1, I1, rfl, lp1.2⟩
  · obtain ⟨its, r, hl, _⟩ := I.tuple hq
    obtain ⟨⟨cls, dd, data, sl⟩, ho, hc, n, hd⟩ := id hl
    simp only at hc hd
    subst hc hd
    refine in_here neg ⟨_, ho, rfl⟩ PySem.F.slot_tuple_contains PySem.F.entry_tuple_contains (PySem.F.args_tuple_contains_2 _ _) ?_
    refine tuple_has p its.toArray n dd sl (.ref a) (fun i s' => ∃ H', Inv X pins σ H' s' ∧ loopE X.K C sp E a (fun k H' => Q (.bl (if neg then !k else k)) H') (xs.drop i) H') (fun i hi s' hI => ?_) (fun s' hI => ?_) ho ⟨H, I, lp⟩
    · obtain ⟨H1, I1, lp1⟩ := hI
      have hi' : i < its.length := by simpa using hi
      have hx1 : i < xs.length := by rw [r.length]; exact hi'
      rw [List.drop_eq_getElem_cons hx1] at lp1
      refine wpAny_mono (turn hi' r (List.getElem?_eq_getElem hx1) I1 lp1) (fun r s2 h2 => ?_) fun _ _ x => x
      obtain ⟨H2, I2, h2, h3⟩ := h2
      exact ⟨fun e => ⟨true, rfl, .bl _, H2, I2, rfl, h2 e⟩, fun e => ⟨H2, I2, h3 e⟩⟩
    · obtain ⟨H1, I1, lp1⟩ := hI
      rw [List.drop_eq_nil_of_le (by rw [r.length]; simp)] at lp1
      exact ⟨false, rfl, .bl _, H1, I1, rfl, lp1⟩
end
end RS

set_option maxRecDepth 100000
set_option maxHeartbeats 4000000
namespace RS
open PySem PySem.Spec PyProof.Rows L2 NdefX He PySem.W
variable [Tbls]
/-! ### one object is told by one tree, where the trees are alike -/
def LkD : Nat → D → D → Prop
  | n + 1, .tup xs, .tup ys => ∀ x ∈ xs, ∀ y ∈ ys, LkD n x y
  | n + 1, .lst xs, .lst ys => ∀ x ∈ xs, ∀ y ∈ ys, LkD n x y
  | n + 1, .dct xs, .dct ys => ∀ (x y : Key × D), x ∈ xs → y ∈ ys → LkD n x.2 y.2
  | n + 1, .ins C xs, .ins C' ys => C = C' ∧ xs.map (·.1) = ys.map (·.1) ∧ ∀ (i : Nat) (x y : Str × D), xs[i]? = some x → ys[i]? = some y → LkD n x.2 y.2
  | _, .non, .non => True
  | _, .bl _, .bl _ => True
  | _, .int _, .int _ => True
  | _, .str _, .str _ => True
  | _, .str _, .int _ => True
  | _, .int _, .str _ => True
  | _, _, _ => False
theorem rvs_det {K : Frg} {F : Hp} : ∀ {vs : List V} {ds es : List D}, (∀ d ∈ ds, ∀ e ∈ es, ∀ v, Rv K F v d → Rv K F v e → d = e) → Rvs K F vs ds → Rvs K F vs es → ds = es
  | _, _, _, _, .nil, .nil => rfl
  | _, _, _, h, .cons a as, .cons b bs => by
    rw [h _ (List.mem_cons_self ..) _ (List.mem_cons_self ..) _ a b, rvs_det (fun d hd e he => h d (List.mem_cons_of_mem _ hd) e (List.mem_cons_of_mem _ he)) as bs]
theorem rks_det {K : Frg} {F : Hp} : ∀ {vs : List (Key × V)} {ds es : List (Key × D)}, (∀ d ∈ ds, ∀ e ∈ es, ∀ v, Rv K F v d.2 → Rv K F v e.2 → d.2 = e.2) → Rks K F vs ds → Rks K F vs es → ds = es
  | _, _, _, _, .nil, .nil => rfl
  | _, _, _, h, .cons a as, .cons b bs => by
    have e1 := h _ (List.mem_cons_self ..) _ (List.mem_cons_self ..) _ a b
    dsimp only at e1
    rw [e1, rks_det (fun d hd e he => h d (List.mem_cons_of_mem _ hd) e (List.mem_cons_of_mem _ he)) as bs]
theorem rfs_det {K : Frg} {F : Hp} : ∀ {vs : List (Str × V)} {ds es : List (Str × D)}, (∀ (i : Nat) (d e : Str × D), ds[i]? = some d → es[i]? = some e → ∀ v, Rv K F v d.2 → Rv K F v e.2 → d.2 = e.2) → Rfs K F vs ds → Rfs K F vs es → ds = es
  | _, _, _, _, .nil, .nil => rfl
  | _, _, _, h, .cons a as, .cons b bs => by
    have e1 := h 0 _ _ rfl rfl _ a b
    dsimp only at e1
    rw [e1, rfs_det (fun i d e hd he => h (i + 1) d e (by simpa using hd) (by simpa using he)) as bs]
theorem rv_det {K : Frg} {F H : Hp} (s : L2.Same F H) (tj : TupInj K H) : ∀ (n : Nat) {v : V} {d e : D}, LkD n d e → Rv K F v d → Rv K F v e → d = e := by
  intro n
  induction n with
  | zero =>
    intro v d e l r r'
    cases r with
    | non => cases r'; rfl
    | bl b => cases r'; rfl
    | int i => cases r'; rfl
    | str x => cases r'; rfl
    | ty n => clear r'; cases e <;> exact l.elim
    | _ => clear r'; cases e <;> exact l.elim
  | succ n ih =>
    intro v d e l r r'
    cases r with
    | non => cases r'; rfl
    | bl b => cases r'; rfl
    | int i => cases r'; rfl
    | str x => cases r'; rfl
    | ty n => clear r'; cases e <;> exact l.elim
    | ref => clear r'; cases e <;> exact l.elim
    | exc0 _ => clear r'; cases e <;> exact l.elim
    | exc1 _ _ => clear r'; cases e <;> exact l.elim
    | scr _ => clear r'; cases e <;> exact l.elim
    | tup e1 rr =>
      cases r' with
      | tup e2 rr' =>
        have q := tj _ _ _ (Same.sqT s e1) (Same.sqT s e2)
        subst q
        rw [rvs_det (fun d hd e he v a b => ih (l d hd e he) a b) rr rr']
      | _ => exact l.elim
    | lst e1 rr =>
      cases r' with
      | lst e2 rr' =>
        rw [e1] at e2
        cases e2
        rw [rvs_det (fun d hd e he v a b => ih (l d hd e he) a b) rr rr']
      | _ => exact l.elim
    | dct e1 rr =>
      cases r' with
      | dct e2 rr' =>
        rw [e1] at e2
        cases e2
        rw [rks_det (fun d hd e he v a b => ih (l d e hd he) a b) rr rr']
      | _ => exact l.elim
    | ins e1 rr _ =>
      cases r' with
      | ins e2 rr' _ =>
        rw [e1] at e2
        cases e2
        rw [rfs_det (fun i d e hd he v a b => ih (l.2.2 i d e hd he) a b) rr rr']
      | _ => exact l.elim
/-! ### in, by the items' own == -/
/-- the items one behind another; S: the own == -/
def dInLp (S : SpD) (x : D) (M : MS) (R : Bool → Prop) (W : XD) : List D → Prop
  | [] => R false
  | d :: ds => (d = x → R true) ∧ S [d, x] M (fun v M' => M' = M ∧ (match v with
      | .bl b => (b = true → R true) ∧ (b = false → dInLp S x M R W ds)
      | _ => False)) W
def dInOwn (C : Addr) (S : SpD) (neg : Bool) (x y : D) (M : MS) (R : D → MS → Prop) (W : XD) : Prop := match vw M y with
  | .lst ds => isC M C x ∧ (∀ d ∈ ds, isC M C d ∧ LkD 60 d x) ∧ dInLp S x M (fun b => R (.bl (if neg then !b else b)) M) W ds
  | .tup ds => isC M C x ∧ (∀ d ∈ ds, isC M C d ∧ LkD 60 d x) ∧ dInLp S x M (fun b => R (.bl (if neg then !b else b)) M) W ds
  | _ => False
section
variable {K : Frg} {C : Addr} {S : SpD} {E1 : XK} {M : MS} {F0 G : Hp} {R : D → MS → Prop} {W : XD} {Q : VK} {x : D} {a : Addr} {neg : Bool}
theorem oneE_up (hx : Rv K F0 (.ref a) x) (cx : isC M C x) (k : KQ K F0 G R Q) (kx : KX K F0 G W E1) {v : V} {d : D} {ds : List D} {F H : Hp} {nx : Hp → Prop} (s : L2.Same F0 F) (r : Rv K F v d) (hd : isC M C d ∧ LkD 60 d x) (rep : Rep K F M G H)
    (h : dInLp S x M (fun b => R (.bl (if neg then !b else b)) M) W (d :: ds)) (nxt : ∀ F' H', L2.Same F F' → Rep K F' M G H' → dInLp S x M (fun b => R (.bl (if neg then !b else b)) M) W ds → nx H') :
    oneE K C (upSp K S) E1 a (fun k H' => Q (.bl (if neg then !k else k)) H') v H nx := by
  obtain ⟨c1, lk⟩ := hd
  obtain ⟨b, dx, fs, rfl, e1⟩ := c1.at rep r
  have hx' := hx.mono s
  obtain ⟨a', dy, gs, ea, e2⟩ := cx.at rep hx'
  cases ea
  obtain ⟨h1, h2⟩ := h
  refine ⟨b, dx, fs, dy, gs, rfl, fun e tj => ?_, e1, e2, ?_⟩
  · subst e
    exact k _ M F H _ (h1 (rv_det rep.fz tj 60 lk r hx')) s rep (.bl _)
  · refine ⟨F, M, G, _, _, W, .cons r (.cons hx' .nil), rep, h2, fun d M' F' H' v q s' rep' rv => ?_, kx.le s⟩
    obtain ⟨rfl, q⟩ := q
    cases d <;> try exact q.elim
    rename_i kb
    cases rv
    exact ⟨kb, rfl, fun e => k _ _ F' H' _ (q.1 e) (s.trans s') rep' (.bl _), fun e => nxt F' H' s' rep' (q.2 e)⟩
theorem loopE_up (hx : Rv K F0 (.ref a) x) (cx : isC M C x) (k : KQ K F0 G R Q) (kx : KX K F0 G W E1) :
    ∀ {vs : List V} {ds : List D} {F H : Hp}, L2.Same F0 F → Rvs K F vs ds → (∀ d ∈ ds, isC M C d ∧ LkD 60 d x) → Rep K F M G H → dInLp S x M (fun b => R (.bl (if neg then !b else b)) M) W ds →
      loopE K C (upSp K S) E1 a (fun k H' => Q (.bl (if neg then !k else k)) H') vs H
  | _, _, F, H, s, .nil, _, rep, h => k _ M F H _ h s rep (.bl _)
  | _, _, F, H, s, .cons r rs, hd, rep, h =>
    oneE_up hx cx k kx s r (hd _ (List.mem_cons_self ..)) rep h fun F' H' s' rep' h' => loopE_up hx cx k kx (s.trans s') (rs.mono s') (fun d hd' => hd d (List.mem_cons_of_mem _ hd')) rep' h'
theorem rvs_drop {K : Frg} {F : Hp} {vs : List V} {ds : List D} {i : Nat} {d : D} (h : Rvs K F vs ds) (e : ds[i]? = some d) : ∃ v, vs[i]? = some v ∧ Rv K F v d := h.atD e
theorem loopL_up (hx : Rv K F0 (.ref a) x) (cx : isC M C x) (k : KQ K F0 G R Q) (kx : KX K F0 G W E1) {p : Addr} {ds : List D} (hd : ∀ d ∈ ds, isC M C d ∧ LkD 60 d x)
    (rd : ∀ F' H', L2.Same F0 F' → Rep K F' M G H' → ∃ vs, H' p = some (.lst vs) ∧ Rvs K F' vs ds) :
    ∀ (n : Nat) {F H : Hp}, n ≤ ds.length → L2.Same F0 F → Rep K F M G H → dInLp S x M (fun b => R (.bl (if neg then !b else b)) M) W (ds.drop (ds.length - n)) →
      loopL K C (upSp K S) E1 a p ds.length (fun k H' => Q (.bl (if neg then !k else k)) H') n H
  | 0, F, H, _, s, rep, h => by
    obtain ⟨vs, e, r⟩ := rd F H s rep
    rw [Nat.sub_zero, List.drop_length] at h
    exact ⟨⟨vs, SqL.of e, r.len⟩, k _ M F H _ h s rep (.bl _)⟩
  | n + 1, F, H, hn, s, rep, h => by
    obtain ⟨vs, e, r⟩ := rd F H s rep
    have hi : ds.length - (n + 1) < ds.length := by omega
    rw [List.drop_eq_getElem_cons hi] at h
    obtain ⟨v, ev, rv⟩ := r.atD (List.getElem?_eq_getElem hi)
    refine ⟨vs, v, SqL.of e, r.len, ev, oneE_up hx cx k kx s rv (hd _ (List.getElem_mem hi)) rep h fun F' H' s' rep' h' => ?_⟩
    refine loopL_up hx cx k kx hd rd n (by omega) (s.trans s') rep' ?_
    rw [show ds.length - n = ds.length - (n + 1) + 1 by omega]
    exact h'
theorem rox_inE : ROX K E1 (rInE K C (upSp K S) E1 neg) (dInOwn C S neg) := fun F M G H x y v u R W Q rx ry rep h k kx => by
  unfold dInOwn at h
  split at h
  · rename_i ds e
    obtain ⟨cx, hd, lp⟩ := h
    obtain ⟨a, dx, fs, rfl, ea⟩ := cx.at rep rx
    obtain ⟨p, vs, rfl, h1, r1⟩ := vw_lst rep ry e
    refine ⟨a, p, rfl, rfl, .inl ⟨ds.length, loopL_up rx cx k kx hd (fun F' H' s' rep' => ?_) ds.length (Nat.le_refl _) (L2.Same.refl F) rep (by rw [Nat.sub_self]; exact lp)⟩⟩
    obtain ⟨p', vs', ep, h2, r2⟩ := vw_lst rep' (ry.mono s') e
    cases ep
    exact ⟨vs', h2, r2⟩
  · rename_i ds e
    obtain ⟨cx, hd, lp⟩ := h
    obtain ⟨a, dx, fs, rfl, ea⟩ := cx.at rep rx
    obtain ⟨p, vs, rfl, h1, r1⟩ := vw_tup rep ry e
    exact ⟨a, p, rfl, rfl, .inr ⟨vs, Same.sqT rep.fz h1, loopE_up rx cx k kx (L2.Same.refl F) r1 hd rep lp⟩⟩
  · exact h.elim
end
/-- where the own == decides -/
theorem dInLp_of {S : SpD} {x : D} {M : MS} {R : Bool → Prop} {W : XD} {q : D → Bool} : ∀ {ds : List D}, (∀ d ∈ ds, ∀ R' : D → MS → Prop, R' (.bl (q d)) M → S [d, x] M R' W) → (∀ d ∈ ds, d = x → q d = true) → R (ds.any q) → dInLp S x M R W ds
  | [], _, _, h => h
  | d :: ds, hS, hx, h => by
    rw [List.any_cons] at h
    refine ⟨fun e => by rw [hx d (List.mem_cons_self ..) e, Bool.true_or] at h; exact h, hS d (List.mem_cons_self ..) _ ⟨rfl, fun e => ?_, fun e => ?_⟩⟩
    · rw [e, Bool.true_or] at h
      exact h
    · rw [e, Bool.false_or] at h
      exact dInLp_of (fun d hd => hS d (List.mem_cons_of_mem _ hd)) (fun d hd => hx d (List.mem_cons_of_mem _ hd)) h
end RS

set_option maxRecDepth 100000
set_option maxHeartbeats 4000000
local macro_rules | `(tactic| walk_at "w") => `(tactic| (conv => whnf))
local macro_rules | `(tactic| walk_at "ni") => `(tactic| ((repeat (refine RS.ni_cons (by decide +kernel) ?_)); exact RS.ni_nil))
local macro_rules | `(tactic| walk_at "s") => `(tactic| ((conv => whnf); first | (refine And.intro True.intro ?_; walk_at "s") | (refine And.intro rfl ?_; walk_at "s") | (refine RS.dIte_t ?_; walk_at "s") | (refine RS.dIte_f ?_; walk_at "s") | (rw [RS.vw_same]; walk_at "s") | (rw [RS.updM_same]; walk_at "s") | (rw [RS.atD_0]; walk_at "s") | (rw [RS.atD_1]; walk_at "s") | (rw [RS.atD_2]; walk_at "s") | (rw [RS.atD_last]; walk_at "s") | (rw [List.getLast?_concat]; walk_at "s") | (refine And.intro RS.isLst_upd ?_; walk_at "s") | (refine And.intro (RS.le_line rfl) ?_; walk_at "s") | (refine And.intro (RS.lt1000 rfl) ?_; walk_at "s") | (refine And.intro (by walk_at "ni") ?_; walk_at "s") | (refine And.intro (by assumption) ?_; walk_at "s") | skip))
namespace RS
open PySem PySem.Spec PyProof.Rows L2 NdefX He PySem.W LamX
variable [Tbls]
def top (i : Nat) : Stmt := PySem.Challenge.pw_risingscales_k51_books_made_and_refused.main.body.getD i (.Pass ⟨0, 0, 0, 0⟩)
abbrev FnP (K : PySem.W.Frag) (x qual : Str) (st : Stmt) (f : Addr) (fd : FuncData) : Prop := FunD K x qual (defArgs st) (defBody st) (defScope st) [] [] f fd
abbrev kd_RELATIONS : D := .tup [.str "<", .str "<=", .str "=", .str ">=", .str ">"]
abbrev kd_KINDS : D := .tup [.str "free", .str "rising", .str "falling"]
structure Fx (K : Frg) (mg : Str → Option Value) (C_BadClaim C_BadFact C_BadKind C_BadName C_Book C_Form C_NoScale C_OtherScales C_Row C_ScaleError C_Scales C_TwiceNamed a_KINDS a_RELATIONS : Addr) : Prop where
  at_Book_facts : AttrOK K C_Book "facts"
  at_Book_names : AttrOK K C_Book "names"
  at_Book_scales : AttrOK K C_Book "scales"
  at_Form_highs : AttrOK K C_Form "highs"
  at_Form_lows : AttrOK K C_Form "lows"
  at_Form_scales : AttrOK K C_Form "scales"
  at_Row_scales : AttrOK K C_Row "scales"
  at_Row_steps : AttrOK K C_Row "steps"
  at_Scales_kinds_told : AttrOK K C_Scales "kinds_told"
  at_Scales_names : AttrOK K C_Scales "names"
  at_Scales_pairs : AttrOK K C_Scales "pairs"
  b_all : mg "all" = none
  b_any : mg "any" = none
  b_enumerate : mg "enumerate" = none
  b_isinstance : mg "isinstance" = none
  b_len : mg "len" = none
  b_list : mg "list" = none
  b_range : mg "range" = none
  b_str : mg "str" = none
  b_tuple : mg "tuple" = none
  c_Book : Cls K C_Book
  c_Scales : Cls K C_Scales
  ex_BadClaim_BadClaim : Exm K C_BadClaim C_BadClaim true
  ex_BadFact_BadFact : Exm K C_BadFact C_BadFact true
  ex_BadFact_BadName : Exm K C_BadFact C_BadName false
  ex_BadFact_TwiceNamed : Exm K C_BadFact C_TwiceNamed false
  ex_BadName_BadName : Exm K C_BadName C_BadName true
  ex_TwiceNamed_BadName : Exm K C_TwiceNamed C_BadName false
  ex_TwiceNamed_TwiceNamed : Exm K C_TwiceNamed C_TwiceNamed true
  g_BadClaim : mg "BadClaim" = some (.ref C_BadClaim)
  g_BadFact : mg "BadFact" = some (.ref C_BadFact)
  g_BadName : mg "BadName" = some (.ref C_BadName)
  g_Form : mg "Form" = some (.ref C_Form)
  g_KINDS : mg "KINDS" = some (.ref a_KINDS)
  g_RELATIONS : mg "RELATIONS" = some (.ref a_RELATIONS)
  g_Row : mg "Row" = some (.ref C_Row)
  g_ScaleError : mg "ScaleError" = some (.ref C_ScaleError)
  g_Scales : mg "Scales" = some (.ref C_Scales)
  gi_Scales : getIn K C_Scales = true
  i_LONGEST : ∃ t, mg "LONGEST" = some (.int 12 t)
  isi_Form : IsiC K C_Form
  isi_Row : IsiC K C_Row
  isi_Scales : IsiC K C_Scales
  ka_Form : ∀ t, IsA K (.bt t) (.own C_Form) false
  ka_Row : ∀ t, IsA K (.bt t) (.own C_Row) false
  kk_BadFact_BadClaim : IsA K (.own C_BadFact) (.own C_BadClaim) false
  kk_BadFact_ScaleError : IsA K (.own C_BadFact) (.own C_ScaleError) true
  kk_BadName_BadFact : IsA K (.own C_BadName) (.own C_BadFact) false
  kk_BadName_ScaleError : IsA K (.own C_BadName) (.own C_ScaleError) true
  kk_Form_Form : IsA K (.own C_Form) (.own C_Form) true
  kk_Form_Row : IsA K (.own C_Form) (.own C_Row) false
  kk_Row_Form : IsA K (.own C_Row) (.own C_Form) false
  kk_Row_Row : IsA K (.own C_Row) (.own C_Row) true
  kk_Scales_Scales : IsA K (.own C_Scales) (.own C_Scales) true
  kk_TwiceNamed_BadName : IsA K (.own C_TwiceNamed) (.own C_BadName) false
  kk_TwiceNamed_ScaleError : IsA K (.own C_TwiceNamed) (.own C_ScaleError) true
  n_BadClaim_index : NoAttr K C_BadClaim "index"
  n_BadFact_index : NoAttr K C_BadFact "index"
  n_BadName_name : NoAttr K C_BadName "name"
  n_TwiceNamed_name : NoAttr K C_TwiceNamed "name"
  ne_Scales : NoNe K C_Scales
  nf_Row : NotF K C_Row (.own C_Row)
  nf_Scales : NotF K C_Scales (.own C_Scales)
  s_DIGITS : ∃ t, mg "DIGITS" = some (.str "0123456789" t)
  s_LETTERS : ∃ t, mg "LETTERS" = some (.str "abcdefghijklmnopqrstuvwxyz" t)
  sf_Row : PySem.W.selfFirst K C_Row = true
  t_KINDS : ∀ F, Rv K F (.ref a_KINDS) kd_KINDS
  t_RELATIONS : ∀ F, Rv K F (.ref a_RELATIONS) kd_RELATIONS
section
variable {P : Program} {w : World} {K : PySem.W.Frag} {mg : Str → Option Value} {base : Heap} {C_BadClaim C_BadFact C_BadKind C_BadName C_Book C_Form C_NoScale C_OtherScales C_Row C_ScaleError C_Scales C_TwiceNamed a_KINDS a_RELATIONS : Addr}
abbrev s_normal_steps : Stmt := top 12
theorem sc_normal_steps : FnScope ["steps", "kept", "name", "exponent"] ["steps"] (defScope s_normal_steps) := ⟨rfl, rfl, rfl, by decide +kernel, rfl, by decide +kernel, by decide +kernel⟩
def sp_normal_steps : SpD := fun ds M R W => match ds with
  | [d] => ∃ qs : SL, Seq2 M d (qs.map qD) ∧ qs.length ≤ 1000 ∧ R (.tup ((nrm qs).map stD)) M
  | _ => False
theorem ok_normal_steps {f : Addr} {fd : FuncData} (F : FnP K "normal_steps" "normal_steps" s_normal_steps f fd) (T : Fx K mg C_BadClaim C_BadFact C_BadKind C_BadName C_Book C_Form C_NoScale C_OtherScales C_Row C_ScaleError C_Scales C_TwiceNamed a_KINDS a_RELATIONS) :
    FnOk P w K mg base (L2.CX P w) 1 f fd ["steps"] (upSp K sp_normal_steps) := by
  refine okD (k := 0) F sc_normal_steps (fun ds M R W h => ?_) (fun cdv A outer s H E hr hx tk => ⟨_, (dss_cons (ds_set 1 sc_normal_steps.nd (de_lstM da_nil))
      (dss_cons (ds_forO (passes_of rfl) rfl (de_v 0) (dg_tup (K := K) (n := 2) rfl (by rfl) (dgs_cons (dg_name 2 sc_normal_steps.nd) (dgs_cons (dg_name 3 sc_normal_steps.nd) dgs_nil))) (dss_cut (ds_if (DW.t (dw_and (dt_cmp op_gt ro_b0 (de_bi call_len rc_len T.b_len PySem.boot_len (da_cons (de_v 1) da_nil)) de_int (nomark _)) (dw_and1 (dt_cmp (op_eqA hr.units) ro_eqA (de_ix (de_ix (de_v 1) (de_neg de_int) (fun _ _ => rfl)) de_int (fun _ _ => rfl)) (de_v 2) (nomark _))))) (dss_one (ds_set 3 sc_normal_steps.nd (de_op op_addD ro_add (de_v 3) (de_ix (de_bm0 PySem.F.slot_list_pop PySem.F.type_list_pop mt_pop rm_pop (de_v 1)) de_int (fun _ _ => rfl))))) dss_nil)
      (dss_one (ds_if (dt_cmp (op_neA hr.units) ro_neA (de_v 3) de_int (nomark _)) (dss_one (ds_expr (de_bm PySem.F.slot_list_append PySem.F.type_list_append mt_append rm_append (de_v 1) (da_cons (de_tup (da_cons (de_v 2) (da_cons (de_v 3) da_nil))) da_nil)))) dss_nil))))
      (dss_one (ds_ret (de_bt call_tuple_of rc_tuple T.b_tuple (by decide +kernel) (da_cons (de_v 1) da_nil)))))), fun ds M R W h => ?_⟩)
  · match ds, h with | [_], _ => rfl
  · match ds, h with
    | [d], h =>
      obtain ⟨qs, ⟨xs, o, e, it⟩, few, k⟩ := h
      walk_at "w"
      refine ⟨by decide, fun p hp => ?_⟩
      show (match seqOf (updM M p (.lst [])) d with
        | some (xs, o) => _
        | none => _)
      rw [seqOf_new e hp]
      refine dLoopO_ind (fun r τ M' => ∃ (acc qs' : SL) (v2 v3 : Option D), Items r (qs'.map qD) ∧ τ = [some d, some (.ref p), v2, v3] ∧ M' = updM M p (.lst (acc.map stD)) ∧ qs'.foldl nStep acc = nrm qs ∧ acc.length + qs'.length ≤ 1000) ⟨[], qs, _, _, it, rfl, rfl, rfl, by simpa using few⟩ ?_ ?_
      · rintro _ r _ _ ⟨acc, qs', v2, v3, it', rfl, rfl, ef, hl⟩ ih
        cases qs' with
        | nil => cases it'
        | cons q qs' =>
        cases it' with
        | cons i2 it' =>
        obtain ⟨n, x⟩ := q
        have i3 : Item2 _ (.str n, x) := i2
        rcases i3 with rfl | rfl
        all_goals
          walk_at "s"
          refine ⟨fun τ' M' => ∃ (acc' : SL) (x' : Int), τ' = [some d, some (.ref p), some (.str n), some (.int x')] ∧ M' = updM M p (.lst (acc'.map stD)) ∧ acc'.length ≤ acc.length ∧ nStep acc (n, x) = (if x' = 0 then acc' else acc' ++ [(n, x')]), ?_, ?_⟩
          · walk_at "s"
            refine dIte_d (fun h => ?_) (fun h => ?_)
            · rcases List.eq_nil_or_concat acc with rfl | ⟨acc0, ⟨n', e'⟩, rfl⟩
              · exact absurd h (by decide)
              have em : ((acc0.concat (n', e')).map stD) = acc0.map stD ++ [.tup [.str n', .int e']] := by
                rw [List.concat_eq_append, List.map_append]
                rfl
              have el : (acc0.concat (n', e')).length = acc0.length + 1 := by simp
              have ns : ∀ q, nStep (acc0.concat (n', e')) q = (if n' = q.1 then (if q.2 + e' = 0 then acc0 else acc0 ++ [(q.1, q.2 + e')]) else (if q.2 = 0 then acc0.concat (n', e') else acc0.concat (n', e') ++ [q])) := by
                intro q
                unfold nStep
                simp
              rw [em]
              walk_at "s"
              refine dIte_d (c := n' = n) (fun h => ?_) (fun h => ?_)
              · walk_at "s"
                refine ⟨acc0, x + e', rfl, ?_, by omega, ?_⟩
                · rw [updM_updM, List.dropLast_concat]
                · rw [ns, if_pos h]
              · walk_at "s"
                exact ⟨acc0.concat (n', e'), x, rfl, by rw [em], Nat.le_refl _, by rw [ns, if_neg h]⟩
            · have ea : acc = [] := by
                cases acc with
                | nil => rfl
                | cons a b => exact absurd (by simp) h
              subst ea
              walk_at "s"
              exact ⟨[], x, rfl, rfl, Nat.le_refl _, rfl⟩
          · rintro _ _ ⟨acc', x', rfl, rfl, h1, h2⟩
            walk_at "s"
            refine dIte_nd (c := x' = 0) (fun h => ?_) (fun h => ?_)
            · walk_at "s"
              refine ⟨lt_line (by simp at hl ⊢; omega), ?_⟩
              walk_at "s"
              refine ih _ _ ⟨acc' ++ [(n, x')], qs', _, _, it', rfl, ?_, ?_, by simp at hl ⊢; omega⟩ (by rw [updM_updM]; exact chk.new (seqOf_chk e) hp)
              · rw [updM_updM, List.map_append]
                rfl
              · rw [if_neg h] at h2
                rw [← h2]
                exact ef
            · walk_at "s"
              refine ih _ _ ⟨acc', qs', _, _, it', rfl, rfl, ?_, by simp at hl; omega⟩ (chk.new (seqOf_chk e) hp)
              rw [if_pos h] at h2
              rw [← h2]
              exact ef
      · rintro _ _ ⟨acc, qs', v2, v3, it', rfl, rfl, ef, hl⟩
        cases qs' with
        | cons q qs' => cases it'
        | nil =>
        walk_at "s"
        have e2 : acc = nrm qs := ef
        subst e2
        exact ⟨M, (SubM.refl M).new hp, k⟩
end
end RS

set_option maxRecDepth 100000
set_option maxHeartbeats 4000000
namespace RS
open PySem PySem.Spec PyProof.Rows L2 NdefX He PySem.W LamX
variable [Tbls]
section
variable {P : Program} {w : World} {K : PySem.W.Frag} {mg : Str → Option Value} {base : Heap} {C_BadClaim C_BadFact C_BadKind C_BadName C_Book C_Form C_NoScale C_OtherScales C_Row C_ScaleError C_Scales C_TwiceNamed a_KINDS a_RELATIONS : Addr}
abbrev s_is_name : Stmt := top 67
theorem sc_is_name : FnScope ["value", "sign"] ["value"] (defScope s_is_name) := ⟨rfl, rfl, rfl, by decide +kernel, rfl, by decide +kernel, by decide +kernel⟩
def sp_is_name : SpD := fun ds M R W => match ds with
  | [d] => Pln d ∧ R (.bl (nameD d)) M
  | _ => False
theorem ok_is_name {f : Addr} {fd : FuncData} (F : FnP K "is_name" "is_name" s_is_name f fd) (T : Fx K mg C_BadClaim C_BadFact C_BadKind C_BadName C_Book C_Form C_NoScale C_OtherScales C_Row C_ScaleError C_Scales C_TwiceNamed a_KINDS a_RELATIONS) :
    FnOk P w K mg base (L2.CX P w) 1 f fd ["value"] (upSp K sp_is_name) := by
  refine okD (k := 0) F sc_is_name (fun ds M R W h => ?_) (fun cdv A outer s H E hr hx tk => ⟨_, (dss_cons (ds_if (DW.t (dw_or (dt_not (dt_val (de_bi call_isi rc_isi T.b_isinstance (by decide +kernel) (da_cons (de_v 0) (da_cons (de_ty (n := .str) T.b_str (by decide +kernel)) da_nil))))) (dw_or (dt_not (dt_chain op_le op_le de_int (de_bi call_len rc_len T.b_len PySem.boot_len (da_cons (de_v 0) da_nil)) (de_int1 T.i_LONGEST))) (dw_or1 (dt_cmp (op_notInA hr.units) (ro_in true) (de_ix (de_v 0) de_int (fun _ _ => rfl)) (de_str1 T.s_LETTERS) rfl))))) (dss_one (ds_ret de_bl)) dss_nil)
      (dss_one (ds_ret (de_bi (cr_all rfl) rc_all T.b_all (by decide +kernel) (da_cons (de_lc (own := [("sign", 1)]) (by rfl) sc_is_name.nd (di_str (de_v 0)) (blkOk_by (own := [("sign", 1)]) (N := ["value", "sign"]) (sc := defScope s_is_name) (by decide +kernel)) (fun _ _ _ _ _ => (dgw_name 1 sc_is_name.nd)) (fun _ _ _ _ _ => dts_nil) (fun _ _ _ _ _ => (de_or (de_cmp (op_inA hr.units) (ro_in false) (de_v 1) (de_str1 T.s_LETTERS) rfl) (de_one (de_cmp (op_inA hr.units) (ro_in false) (de_v 1) (de_str1 T.s_DIGITS) rfl))))) da_nil))))), fun ds M R W h => ?_⟩)
  · match ds, h with | [_], _ => rfl
  · match ds, h with
    | [d], h =>
      obtain ⟨pl, k⟩ := h
      have fin : Rt R (.bl (nameD d)) M := Rt.of k
      cases d <;> try exact pl.elim
      case str x =>
        walk_at "s"
        have ret : nameB x = false → Rt R (.bl false) M := fun e => by rw [← e]; exact fin
        refine dIte_d (c := 1 ≤ (x.length : Int)) (fun h1 => ?_) (fun h1 => ?_)
        · walk_at "s"
          refine dIte_nd (c := (x.length : Int) ≤ 12) (fun h2 => ?_) (fun h2 => ?_)
          · walk_at "s"
            refine ret ?_
            unfold nameB
            rw [decide_eq_false (show ¬ x.length ≤ 12 by omega)]
            simp
          · obtain ⟨c, l, hc⟩ : ∃ c l, x.cps.toList = c :: l := by
              cases e : x.cps.toList with
              | nil =>
                have : x.length = 0 := by
                  have h3 : x.cps.toList.length = 0 := by rw [e]; rfl
                  exact h3
                omega
              | cons c l => exact ⟨c, l, rfl⟩
            walk_at "s"
            refine ⟨c, by rw [hc]; exact atI_nat (j := 0) rfl, ?_⟩
            walk_at "s"
            refine ⟨c, rfl, ?_⟩
            walk_at "s"
            refine dIte_nd (c := c ∈ LT.cps.toList) (fun h3 => ?_) (fun h3 => ?_)
            · walk_at "s"
              refine ret ?_
              unfold nameB headB
              rw [hc]
              simp [h3]
            · walk_at "s"
              refine dLcL_ind (fun r acc M' => ∃ cs done : List Nat, r = cs.map (fun c => .str ⟨#[c]⟩) ∧ acc = done.map (fun c => .bl (okS c)) ∧ done ++ cs = x.cps.toList ∧ M = M') ⟨_, [], rfl, rfl, rfl, rfl⟩ ?_ ?_
              · rintro _ r _ _ ⟨cs, done, e1, rfl, e3, rfl⟩ ih
                cases cs with
                | nil => cases e1
                | cons y cs =>
                cases e1
                have next : done.length < sizeLine ∧ dLcL _ _ _ _ _ _ (cs.map fun c => .str ⟨#[c]⟩) ((done.map fun c => .bl (okS c)) ++ [.bl (okS y)]) M := ⟨lt_line (by have h4 := congrArg List.length e3; have h5 : x.cps.toList.length = x.length := rfl; simp only [List.length_append, List.length_cons] at h4; omega), ih _ _ ⟨cs, done ++ [y], rfl, by rw [List.map_append]; rfl, by rw [List.append_assoc]; exact e3, rfl⟩⟩
                walk_at "s"
                refine ⟨y, rfl, ?_⟩
                walk_at "s"
                refine dIte_d (c := y ∈ LT.cps.toList) (fun h4 => ?_) (fun h4 => ?_)
                · walk_at "s"
                  have e4 : okS y = true := by unfold okS; rw [decide_eq_true h4]; rfl
                  rw [e4] at next
                  rw [List.length_map]
                  exact next
                · walk_at "s"
                  refine ⟨y, rfl, ?_⟩
                  walk_at "s"
                  have e4 : okS y = decide (y ∈ DGT.cps.toList) := by unfold okS; rw [decide_eq_false h4]; rfl
                  rw [e4] at next
                  rw [List.length_map]
                  exact next
              · rintro _ _ ⟨cs, done, e1, rfl, e3, rfl⟩
                cases cs with
                | cons y cs => cases e1
                | nil =>
                walk_at "s"
                refine ⟨_, bools_map _ _, ?_⟩
                rw [List.append_nil] at e3
                subst e3
                walk_at "s"
                have e5 : nameB x = (x.cps.toList.map okS).all id := by
                  unfold nameB headB
                  rw [decide_eq_true (show 1 ≤ x.length by omega), decide_eq_true (show x.length ≤ 12 by omega), hc]
                  simp [h3]
                show Rt R (.bl ((x.cps.toList.map okS).all id)) M
                rw [← e5]
                exact fin
        · walk_at "s"
          refine ret ?_
          unfold nameB
          rw [decide_eq_false (show ¬ 1 ≤ x.length by omega)]
          simp
      all_goals
        walk_at "s"
        exact fin
abbrev s_Scales___contains__ : Stmt := inClass (top 77) 5
theorem sc_Scales___contains__ : FnScope ["self", "name"] ["self", "name"] (defScope s_Scales___contains__) := ⟨rfl, rfl, rfl, by decide +kernel, rfl, by decide +kernel, by decide +kernel⟩
def sp_Scales___contains__ (C_Scales : Addr) : SpD := fun ds M R W => match ds with
  | [s, d] => ∃ ps : PL, s = scD C_Scales ps ∧ Pln d ∧ R (.bl (hasN ps d)) M
  | _ => False
theorem ok_Scales___contains__ {f : Addr} {fd : FuncData} (F : FnP K "__contains__" "Scales.__contains__" s_Scales___contains__ f fd) (T : Fx K mg C_BadClaim C_BadFact C_BadKind C_BadName C_Book C_Form C_NoScale C_OtherScales C_Row C_ScaleError C_Scales C_TwiceNamed a_KINDS a_RELATIONS) :
    FnOk P w K mg base (L2.CX P w) 1 f fd ["self", "name"] (upSp K (sp_Scales___contains__ C_Scales)) := by
  refine okD (k := 0) F sc_Scales___contains__ (fun ds M R W h => ?_) (fun cdv A outer s H E hr hx tk => ⟨_, (dss_one (ds_ret (de_and (de_bi call_isi rc_isi T.b_isinstance (by decide +kernel) (da_cons (de_v 1) (da_cons (de_ty (n := .str) T.b_str (by decide +kernel)) da_nil))) (de_one (de_din (hu_of hr) (de_v 1) (de_fld (K := K) rfl "kinds_told" 2 (de_v 0))))))), fun ds M R W h => ?_⟩)
  · match ds, h with | [_, _], _ => rfl
  · match ds, h with
    | [s, d], h =>
      obtain ⟨ps, rfl, pl, k⟩ := h
      have a1 := T.at_Scales_kinds_told
      have fin : Rt R (.bl (hasN ps d)) M := Rt.of k
      cases d <;> try exact pl.elim
      case str x =>
        walk_at "s"
        rw [valD_kd]
        exact fin
      all_goals
        walk_at "s"
        exact fin
abbrev s_Scales___eq__ : Stmt := inClass (top 77) 7
theorem sc_Scales___eq__ : FnScope ["self", "other"] ["self", "other"] (defScope s_Scales___eq__) := ⟨rfl, rfl, rfl, by decide +kernel, rfl, by decide +kernel, by decide +kernel⟩
def sp_Scales___eq__ (C_Scales : Addr) : SpD := fun ds M R W => match ds with
  | [s, t] => ∃ ps qs : PL, s = scD C_Scales ps ∧ t = scD C_Scales qs ∧ R (.bl (decide (ps = qs))) M
  | _ => False
theorem ok_Scales___eq__ {f : Addr} {fd : FuncData} (F : FnP K "__eq__" "Scales.__eq__" s_Scales___eq__ f fd) (T : Fx K mg C_BadClaim C_BadFact C_BadKind C_BadName C_Book C_Form C_NoScale C_OtherScales C_Row C_ScaleError C_Scales C_TwiceNamed a_KINDS a_RELATIONS) :
    FnOk P w K mg base (L2.CX P w) 1 f fd ["self", "other"] (upSp K (sp_Scales___eq__ C_Scales)) := by
  refine okD (k := 0) F sc_Scales___eq__ (fun ds M R W h => ?_) (fun cdv A outer s H E hr hx tk => ⟨_, (dss_one (ds_ret (de_and (de_bi call_isi rc_isi T.b_isinstance (by decide +kernel) (da_cons (de_v 1) (da_cons (de_cls T.g_Scales) da_nil))) (de_one (de_cmp (op_eqA hr.units) ro_eqA (de_fld (K := K) rfl "pairs" 0 (de_v 0)) (de_fld (K := K) rfl "pairs" 0 (de_v 1)) (nomark _)))))), fun ds M R W h => ?_⟩)
  · match ds, h with | [_, _], _ => rfl
  · match ds, h with
    | [s, t], h =>
      obtain ⟨ps, qs, rfl, rfl, k⟩ := h
      have a1 := T.at_Scales_pairs
      have a2 := T.isi_Scales
      walk_at "s"
      refine ⟨true, T.kk_Scales_Scales, ?_⟩
      walk_at "s"
      refine ⟨PD_d (Tup.mk ps), PD_d (Tup.mk qs), ?_⟩
      walk_at "s"
      show Rt R (.bl (dEqB (Dt.d (Tup.mk ps)) (Dt.d (Tup.mk qs)))) M
      rw [dEqB_d, decide_eq_decide.mpr (show Tup.mk ps = Tup.mk qs ↔ ps = qs from ⟨fun e => Tup.mk.inj e, fun e => by rw [e]⟩)]
      exact Rt.of k
end
end RS

set_option maxRecDepth 100000
set_option maxHeartbeats 4000000
namespace RS
open PySem PySem.Spec PyProof.Rows L2 NdefX He PySem.W LamX
variable [Tbls]
section
variable {P : Program} {w : World} {K : PySem.W.Frag} {mg : Str → Option Value} {base : Heap} {C_BadClaim C_BadFact C_BadKind C_BadName C_Book C_Form C_NoScale C_OtherScales C_Row C_ScaleError C_Scales C_TwiceNamed a_KINDS a_RELATIONS : Addr}
abbrev s_Row___init__ : Stmt := inClass (top 13) 1
theorem sc_Row___init__ : FnScope ["self", "scales", "steps", "name", "exponent"] ["self", "scales", "steps"] (defScope s_Row___init__) := ⟨rfl, rfl, rfl, by decide +kernel, rfl, by decide +kernel, by decide +kernel⟩
def sp_Row___init__ (C_Scales C_NoScale C_Row : Addr) : SpD := fun ds M R W => match ds with
  | [s, t, d] => ∃ (p : Addr) (ps : PL) (xs : List (D × Int)), s = .ref p ∧ t = scD C_Scales ps ∧ M p = some (.ins C_Row []) ∧ Seq2 M d xs ∧ xs.length ≤ 1000 ∧ (∀ x ∈ xs, Pln x.1) ∧
    ((∃ qs : SL, xs = qs.map qD ∧ (∀ q ∈ qs, q.1 ∈ ps.map (·.1)) ∧ R .non (updM M p (.ins C_Row [("scales", scD C_Scales ps), ("steps", .tup ((nrm qs).map stD))]))) ∨
     (∃ (a b : List (D × Int)) (x : D × Int), xs = a ++ x :: b ∧ (∀ y ∈ a, hasN ps y.1 = true) ∧ hasN ps x.1 = false ∧ W C_NoScale [("name", x.1)] M))
  | _ => False
theorem ok_Row___init__ {dvs : List V} {f : Addr} {fd : FuncData} (F : FunD K "__init__" "Row.__init__" (defArgs s_Row___init__) (defBody s_Row___init__) (defScope s_Row___init__) dvs [] f fd) (T : Fx K mg C_BadClaim C_BadFact C_BadKind C_BadName C_Book C_Form C_NoScale C_OtherScales C_Row C_ScaleError C_Scales C_TwiceNamed a_KINDS a_RELATIONS) (M_NoScale : Exk P w K mg base "NoScale" C_NoScale ["name"]) (M_normal_steps : Cal P w K mg base (L2.CX P w) 1 "normal_steps" ["steps"] [] (upSp K sp_normal_steps)) (M_Scales___contains__ : Mtd P w K mg base (L2.CX P w) 1 C_Scales "__contains__" ["self", "name"] [] (upSp K (sp_Scales___contains__ C_Scales))) :
    FnOk P w K mg base (L2.CX P w) 5 f fd ["self", "scales", "steps"] (upSp K (sp_Row___init__ C_Scales C_NoScale C_Row)) := by
  refine okD (k := 4) F sc_Row___init__ (fun ds M R W h => ?_) (fun cdv A outer s H E hr hx tk => ⟨_, (dss_cons (ds_forO (passes_of rfl) rfl (de_v 2) (dg_tup (K := K) (n := 2) rfl (by rfl) (dgs_cons (dg_name 3 sc_Row___init__.nd) (dgs_cons (dg_name 4 sc_Row___init__.nd) dgs_nil))) (dss_one (ds_if (dt_cmpX EL.none (op_notInOwn M_Scales___contains__ (hr.mono (by decide)) passL) (rox_in true) (de_v 3) (de_v 1) rfl) (dss_one (ds_raise rfl tk M_NoScale (hr.mono (by decide)) (da_cons (de_v 3) da_nil))) dss_nil)))
      (dss_cons (ds_fld (K := K) rfl "scales" 0 (de_v 0) (de_v 1))
      (dss_one (ds_fld (K := K) rfl "steps" 1 (de_v 0) (de_fn M_normal_steps Dfl.nil (hr.mono (by decide)) hx (da_cons (de_v 2) da_nil)))))), fun ds M R W h => ?_⟩)
  · match ds, h with | [_, _, _], _ => rfl
  · match ds, h with
    | [s, t, d], h =>
      obtain ⟨p, ps, xs, rfl, rfl, hp, ⟨ys, o, e, it⟩, few, pl, k⟩ := h
      have a1 := T.at_Row_scales
      have a2 := T.at_Row_steps
      walk_at "w"
      show (match seqOf M d with
        | some (xs, o) => _
        | none => _)
      rw [e]
      have ck := seqOf_chk e
      refine dLoopO_ind (fun r τ M' => ∃ (xs' : List (D × Int)) (v3 v4 : Option D), Items r xs' ∧ τ = [some (.ref p), some (scD C_Scales ps), some d, v3, v4] ∧ M = M' ∧ (∀ x ∈ xs', Pln x.1) ∧
        ((∃ qs : SL, xs = qs.map qD ∧ (∀ x ∈ xs', hasN ps x.1 = true) ∧ R .non (updM M p (.ins C_Row [("scales", scD C_Scales ps), ("steps", .tup ((nrm qs).map stD))]))) ∨ (∃ (a b : List (D × Int)) (x : D × Int), xs' = a ++ x :: b ∧ (∀ y ∈ a, hasN ps y.1 = true) ∧ hasN ps x.1 = false ∧ W C_NoScale [("name", x.1)] M)))
        ⟨xs, _, _, it, rfl, rfl, pl, k.imp (fun ⟨qs, h1, h2, h3⟩ => ⟨qs, h1, fun x hx => (by subst h1; obtain ⟨q, hq, rfl⟩ := List.mem_map.mp hx; exact decide_eq_true (h2 q hq)), h3⟩) id⟩ ?_ ?_
      · rintro _ r _ _ ⟨xs', v3, v4, it', rfl, rfl, pl', kk⟩ ih
        cases it' with
        | cons i2 it' =>
        rename_i x xs'
        have plx := pl' x (List.mem_cons_self ..)
        rcases i2 with rfl | rfl
        all_goals
          walk_at "s"
          refine ⟨ps, rfl, plx, ?_⟩
          walk_at "s"
          cases hx : hasN ps x.1 with
          | true =>
            walk_at "s"
            refine (ih _ _ ⟨xs', _, _, it', rfl, rfl, fun y hy => pl' y (List.mem_cons_of_mem _ hy), ?_⟩ ck).2
            rcases kk with ⟨qs, h1, h2, h3⟩ | ⟨a, b, z, h1, h2, h3, h4⟩
            · exact .inl ⟨qs, h1, fun y hy => h2 y (List.mem_cons_of_mem _ hy), h3⟩
            · cases a with
              | nil =>
                cases h1
                rw [hx] at h3
                cases h3
              | cons y a =>
                cases h1
                exact .inr ⟨a, b, z, rfl, fun y hy => h2 y (List.mem_cons_of_mem _ hy), h3, h4⟩
          | false =>
            walk_at "s"
            rcases kk with ⟨qs, h1, h2, h3⟩ | ⟨a, b, z, h1, h2, h3, h4⟩
            · rw [h2 x (List.mem_cons_self ..)] at hx
              cases hx
            · cases a with
              | nil =>
                cases h1
                exact Wt.of h4
              | cons y a =>
                cases h1
                rw [h2 _ (List.mem_cons_self ..)] at hx
                cases hx
      · rintro _ _ ⟨xs', v3, v4, it', rfl, rfl, pl', kk⟩
        cases it'
        rcases kk with ⟨qs, h1, _, h3⟩ | ⟨a, b, z, h1, _⟩
        · subst h1
          walk_at "w"
          rw [hp]
          walk_at "s"
          refine ⟨qs, ⟨ys, o, seqOf_ins e hp, it⟩, by simpa using few, ?_⟩
          walk_at "s"
          exact ⟨_, SubM.refl _, by rw [updM_updM]; exact h3⟩
        · cases a <;> cases h1
abbrev s_Scales___init__ : Stmt := inClass (top 77) 0
theorem sc_Scales___init__ : FnScope ["self", "pairs", "told", "kinds", "name", "kind"] ["self", "pairs"] (defScope s_Scales___init__) := ⟨rfl, rfl, rfl, by decide +kernel, rfl, by decide +kernel, by decide +kernel⟩
def sp_Scales___init__ (C_BadKind C_BadName C_Scales C_TwiceNamed : Addr) : SpD := fun ds M R W => match ds with
  | [s, d] => ∃ (p : Addr) (ys : List D) (xs : List (D × D)), s = .ref p ∧ (d = .lst ys ∨ d = .tup ys) ∧ M p = some (.ins C_Scales []) ∧ ItemsP ys xs ∧ xs ≠ [] ∧ xs.length ≤ 1000 ∧ (∀ x ∈ xs, Pln x.1 ∧ Pln x.2) ∧
    (match scan [] xs with
    | .ok ps => R .non (updM M p (.ins C_Scales [("pairs", .tup (ps.map prD)), ("names", .tup (ps.map fun q => .str q.1)), ("kinds_told", .dct (kdD ps))]))
    | .error (.name x) => W C_BadName [("name", x)] M
    | .error (.twice x) => W C_TwiceNamed [("name", x)] M
    | .error (.kind x) => W C_BadKind [("kind", x)] M)
  | _ => False
theorem ok_Scales___init__ {f : Addr} {fd : FuncData} (F : FnP K "__init__" "Scales.__init__" s_Scales___init__ f fd) (T : Fx K mg C_BadClaim C_BadFact C_BadKind C_BadName C_Book C_Form C_NoScale C_OtherScales C_Row C_ScaleError C_Scales C_TwiceNamed a_KINDS a_RELATIONS) (M_BadKind : Exk P w K mg base "BadKind" C_BadKind ["kind"]) (M_BadName : Exk P w K mg base "BadName" C_BadName ["name"]) (M_TwiceNamed : Exk P w K mg base "TwiceNamed" C_TwiceNamed ["name"]) (M_is_name : Cal P w K mg base (L2.CX P w) 1 "is_name" ["value"] [] (upSp K sp_is_name)) :
    FnOk P w K mg base (L2.CX P w) 3 f fd ["self", "pairs"] (upSp K (sp_Scales___init__ C_BadKind C_BadName C_Scales C_TwiceNamed)) := by
  refine okD (k := 2) F sc_Scales___init__ (fun ds M R W h => ?_) (fun cdv A outer s H E hr hx tk => ⟨_, (dss_cons (ds_setLc 2 (own := [("name", 4), ("kind", 5)]) (by rfl) sc_Scales___init__.nd rfl rfl (sw_true rfl rfl rfl (by decide +kernel)) (di_sq (de_v 1)) (blkOk_by (own := [("name", 4), ("kind", 5)]) (N := ["self", "pairs", "told", "kinds", "name", "kind"]) (sc := defScope s_Scales___init__) (by decide +kernel)) (fun _ _ _ _ _ => (dgw_tup (K := K) (n := 2) rfl (by rfl) (dgsw_cons (dgw_name 4 sc_Scales___init__.nd) (dgsw_cons (dgw_name 5 sc_Scales___init__.nd) dgsw_nil)))) (fun _ _ _ _ _ => dts_nil) (fun _ _ _ _ _ => (de_tup (da_cons (de_v 4) (da_cons (de_v 5) da_nil)))))
      (dss_cons (ds_if (dt_cmp (op_eqA hr.units) ro_eqA (de_bi call_len rc_len T.b_len PySem.boot_len (da_cons (de_v 2) da_nil)) de_int (nomark _)) (dss_one ds_never) dss_nil)
      (dss_cons (ds_set 3 sc_Scales___init__.nd de_dnew)
      (dss_cons (ds_for (passes_of rfl) rfl (di_sq (de_v 2)) (dg_tup (K := K) (n := 2) rfl (by rfl) (dgs_cons (dg_name 4 sc_Scales___init__.nd) (dgs_cons (dg_name 5 sc_Scales___init__.nd) dgs_nil))) (dss_cons (ds_if (dt_not (dt_tru (de_fn M_is_name Dfl.nil (hr.mono (by decide)) hx (da_cons (de_v 4) da_nil)))) (dss_one (ds_raise rfl tk M_BadName (hr.mono (by decide)) (da_cons (de_v 4) da_nil))) dss_nil)
      (dss_cons (ds_if (dt_din (hu_of hr) (de_v 4) (de_v 3)) (dss_one (ds_raise rfl tk M_TwiceNamed (hr.mono (by decide)) (da_cons (de_v 4) da_nil))) dss_nil)
      (dss_cons (ds_if (DW.t (dw_or (dt_not (dt_val (de_bi call_isi rc_isi T.b_isinstance (by decide +kernel) (da_cons (de_v 5) (da_cons (de_ty (n := .str) T.b_str (by decide +kernel)) da_nil))))) (dw_or1 (dt_cmp (op_notInA hr.units) (ro_in true) (de_v 5) (de_con (v := .ref a_KINDS) (d := kd_KINDS) T.g_KINDS rfl T.t_KINDS) rfl)))) (dss_one (ds_raise rfl tk M_BadKind (hr.mono (by decide)) (da_cons (de_v 5) da_nil))) dss_nil)
      (dss_one (ds_dput (hu_of hr) (de_v 3) (de_v 4) (de_v 5)))))))
      (dss_cons (ds_fld (K := K) rfl "pairs" 0 (de_v 0) (de_bt call_tuple_of rc_tuple T.b_tuple (by decide +kernel) (da_cons (de_v 2) da_nil)))
      (dss_cons (ds_fld (K := K) rfl "names" 1 (de_v 0) (de_bt call_tuple_of rc_tuple T.b_tuple (by decide +kernel) (da_cons (de_lc (own := [("name", 4), ("kind", 5)]) (by rfl) sc_Scales___init__.nd (di_sq (de_v 2)) (blkOk_by (own := [("name", 4), ("kind", 5)]) (N := ["self", "pairs", "told", "kinds", "name", "kind"]) (sc := defScope s_Scales___init__) (by decide +kernel)) (fun _ _ _ _ _ => (dgw_tup (K := K) (n := 2) rfl (by rfl) (dgsw_cons (dgw_name 4 sc_Scales___init__.nd) (dgsw_cons (dgw_name 5 sc_Scales___init__.nd) dgsw_nil)))) (fun _ _ _ _ _ => dts_nil) (fun _ _ _ _ _ => (de_v 4))) da_nil)))
      (dss_one (ds_fld (K := K) rfl "kinds_told" 2 (de_v 0) (de_f 3))))))))), fun ds M R W h => ?_⟩)
  · match ds, h with | [_, _], _ => rfl
  · match ds, h with
    | [s, d], h =>
      obtain ⟨p, ys, xs, rfl, hd, hp, it, ne, few, pl, k⟩ := h
      have a1 := T.at_Scales_pairs
      have a2 := T.at_Scales_names
      have a3 := T.at_Scales_kinds_told
      have tl : ∀ (xs : List (D × D)), (xs.map fun x => D.tup [x.1, x.2]).length = xs.length := fun xs => List.length_map ..
      rcases hd with rfl | rfl
      all_goals
        walk_at "s"
        refine dLcL_ind (fun r acc M' => ∃ xs1 xs2 : List (D × D), ItemsP r xs2 ∧ acc = (xs1.map fun x => .tup [x.1, x.2]) ∧ xs1 ++ xs2 = xs ∧ M = M') ⟨[], xs, it, rfl, rfl, rfl⟩ ?_ ?_
        · rintro _ r _ _ ⟨xs1, xs2, it', rfl, rfl, rfl⟩ ih
          cases it' with
          | cons i2 it' =>
          rename_i x xs2
          rcases i2 with rfl | rfl
          all_goals
            walk_at "s"
            refine ⟨lt_line (by rw [tl]; simp at few; omega), ?_⟩
            exact ih _ _ ⟨xs1 ++ [x], xs2, it', by rw [List.map_append]; rfl, by rw [List.append_assoc]; rfl, rfl⟩
        · rintro _ _ ⟨xs1, xs2, it', rfl, rfl, rfl⟩
          cases it'
          rw [List.append_nil] at few ne pl k
          walk_at "s"
          have nz : ¬ (((xs1.map fun x => D.tup [x.1, x.2]).length : Int) = 0) := fun z => by
            rw [tl] at z
            cases xs1 with
            | nil => exact ne rfl
            | cons a b => simp at z; omega
          refine dIte_no (fun z => nz (of_decide_eq_true z)) ?_
          walk_at "w"
          refine fun q hq => ?_
          have pq : p ≠ q := by rintro rfl; rw [hp] at hq; cases hq
          walk_at "s"
          refine dLoop_ind (fun r τ M' => ∃ (xs' : List (D × D)) (done : PL) (v4 v5 : Option D), r = (xs'.map fun x => .tup [x.1, x.2]) ∧ done.map qP ++ xs' = xs1 ∧ scan [] xs1 = scan done xs' ∧ τ = [some (.ref p), some _, some (.lst (xs1.map fun x => .tup [x.1, x.2])), some (.ref q), v4, v5] ∧ M' = updM M q (.dct (kdD done)) ∧ (∀ x ∈ xs', Pln x.1 ∧ Pln x.2)) ⟨xs1, [], _, _, rfl, rfl, rfl, rfl, rfl, pl⟩ ?_ ?_
          · rintro _ r _ _ ⟨xs', done, v4, v5, e1, e2, e3, rfl, rfl, pl'⟩ ih
            cases xs' with
            | nil => cases e1
            | cons x xs' =>
            cases e1
            obtain ⟨n, kk⟩ := x
            obtain ⟨p1, p2⟩ := pl' _ (List.mem_cons_self ..)
            have sb : SubM M (updM M q (.dct (kdD done))) := (SubM.refl M).new hq
            walk_at "s"
            cases hn : nameD n with
            | false =>
              have es : scan done ((n, kk) :: xs') = .error (.name n) := by
                cases n <;> try rfl
                have h1 : nameB _ = false := hn
                unfold scan
                rw [if_neg (by rw [h1]; exact nofun)]
              rw [e3, es] at k
              walk_at "s"
              exact ⟨M, sb, k⟩
            | true =>
              cases n <;> try cases hn
              rename_i x
              have h1 : nameB x = true := hn
              walk_at "s"
              rw [valD_kd]
              refine dIte_d (fun h2 => ?_) (fun h2 => ?_)
              · have es : scan done ((.str x, kk) :: xs') = .error (.twice (.str x)) := by
                  unfold scan
                  rw [if_pos h1, if_pos h2]
                rw [e3, es] at k
                walk_at "s"
                exact ⟨M, sb, k⟩
              · have bad : kindD kk = none → W C_BadKind [("kind", kk)] M := fun e => by rw [e3, scan_no h1 h2 e] at k; exact k
                have good : ∀ s : Str, kk = .str s → kdS s = true → kindD kk = some s := fun s e z => by subst e; exact if_pos z
                cases kk <;> try exact p2.elim
                case str y =>
                  walk_at "s"
                  refine ⟨strs_pd ["free", "rising", "falling"], ?_⟩
                  walk_at "s"
                  show dIte (!inB (.str y) [.str "free", .str "rising", .str "falling"]) _ _
                  rw [kd_in]
                  cases hy : kdS y with
                  | false =>
                    walk_at "s"
                    exact ⟨M, sb, bad (if_neg (by rw [hy]; exact nofun))⟩
                  | true =>
                    walk_at "s"
                    rw [updM_updM, putD_kd h2]
                    refine ⟨lt_line (by have h4 := congrArg List.length e2; unfold kdD; simp at h4 few ⊢; omega), ?_⟩
                    refine ih _ _ ⟨xs', done ++ [(x, y)], _, _, rfl, ?_, ?_, rfl, rfl, fun z hz => pl' z (List.mem_cons_of_mem _ hz)⟩
                    · rw [← e2, List.map_append, List.append_assoc]
                      rfl
                    · rw [e3, scan_ok h1 h2 (good y rfl hy)]
                all_goals
                  walk_at "s"
                  exact ⟨M, sb, bad rfl⟩
          · rintro _ _ ⟨xs', done, v4, v5, e1, e2, e3, rfl, rfl, pl'⟩
            cases xs' with
            | cons x xs' => cases e1
            | nil =>
            rw [List.append_nil] at e2
            subst e2
            have e4 : scan [] (done.map qP) = .ok done := e3
            rw [e4] at k
            walk_at "w"
            rw [updM_ne pq, hp]
            walk_at "s"
            refine dLcL_indC (fun r acc => ∃ d1 d2 : PL, r = d2.map prD ∧ acc = (d1.map fun q => .str q.1) ∧ d1 ++ d2 = done) ⟨[], done, by rw [List.map_map]; rfl, rfl, rfl⟩ ?_ ?_
            · rintro _ r _ ⟨d1, d2, e5, rfl, e6⟩ ih2
              cases d2 with
              | nil => cases e5
              | cons z d2 =>
              cases e5
              walk_at "s"
              refine ⟨lt_line (by have h4 := congrArg List.length e6; simp at h4 few ⊢; omega), ?_⟩
              exact ih2 _ ⟨d1 ++ [z], d2, rfl, by rw [List.map_append]; rfl, by rw [List.append_assoc]; exact e6⟩
            · rintro _ ⟨d1, d2, e5, rfl, e6⟩
              cases d2 with
              | cons z d2 => cases e5
              | nil =>
              rw [List.append_nil] at e6
              subst e6
              walk_at "s"
              rw [updM_ne pq.symm, updM_ne pq.symm, updM_same]
              walk_at "w"
              rw [delM_ne pq]
              walk_at "s"
              refine ⟨_, ?_, k⟩
              have en : (d1.map qP).map (fun x => D.tup [x.1, x.2]) = d1.map prD := by rw [List.map_map]; rfl
              rw [en]
              refine SubM.upd' fun a m ha e => ?_
              have hb : a ≠ q := by rintro rfl; rw [hq] at e; cases e
              rw [delM_ne hb, updM_ne ha, updM_ne ha, updM_ne hb]
              exact e
end
end RS

set_option maxRecDepth 100000
set_option maxHeartbeats 4000000
namespace RS
open PySem PySem.Spec PyProof.Rows L2 NdefX He PySem.W LamX
variable [Tbls]
section
variable {P : Program} {w : World} {K : PySem.W.Frag} {mg : Str → Option Value} {base : Heap} {C_BadClaim C_BadFact C_BadKind C_BadName C_Book C_Form C_NoScale C_OtherScales C_Row C_ScaleError C_Scales C_TwiceNamed a_KINDS a_RELATIONS : Addr}
abbrev s_Scales___getitem__ : Stmt := inClass (top 77) 3
theorem sc_Scales___getitem__ : FnScope ["self", "name"] ["self", "name"] (defScope s_Scales___getitem__) := ⟨rfl, rfl, rfl, by decide +kernel, rfl, by decide +kernel, by decide +kernel⟩
def sp_Scales___getitem__ (C_NoScale C_Row C_Scales : Addr) : SpD := fun ds M R W => match ds with
  | [s, d] => ∃ ps : PL, s = scD C_Scales ps ∧ Pln d ∧ ((∃ x : Str, d = .str x ∧ x ∈ ps.map (·.1) ∧ R (rowD C_Row C_Scales ps [(x, 1)]) M) ∨
    (hasN ps d = false ∧ W C_NoScale [("name", d)] M))
  | _ => False
theorem ok_Scales___getitem__ {f : Addr} {fd : FuncData} (F : FnP K "__getitem__" "Scales.__getitem__" s_Scales___getitem__ f fd) (T : Fx K mg C_BadClaim C_BadFact C_BadKind C_BadName C_Book C_Form C_NoScale C_OtherScales C_Row C_ScaleError C_Scales C_TwiceNamed a_KINDS a_RELATIONS) (M_NoScale : Exk P w K mg base "NoScale" C_NoScale ["name"]) (M_Scales___contains__ : Mtd P w K mg base (L2.CX P w) 1 C_Scales "__contains__" ["self", "name"] [] (upSp K (sp_Scales___contains__ C_Scales))) (M_Row___init__ : Mkr P w K mg base (L2.CX P w) 5 "Row" C_Row ["self", "scales", "steps"] [] (upSp K (sp_Row___init__ C_Scales C_NoScale C_Row))) :
    FnOk P w K mg base (L2.CX P w) 9 f fd ["self", "name"] (upSp K (sp_Scales___getitem__ C_NoScale C_Row C_Scales)) := by
  refine okD (k := 8) F sc_Scales___getitem__ (fun ds M R W h => ?_) (fun cdv A outer s H E hr hx tk => ⟨_, (dss_cons (ds_if (dt_cmpX EL.none (op_notInOwn M_Scales___contains__ (hr.mono (by decide)) passL) (rox_in true) (de_v 1) (de_v 0) rfl) (dss_one (ds_raise rfl tk M_NoScale (hr.mono (by decide)) (da_cons (de_v 1) da_nil))) dss_nil)
      (dss_one (ds_ret (de_mk M_Row___init__ Dfl.nil (hr.mono (by decide)) hx (da_cons (de_v 0) (da_cons (de_lst (da_cons (de_tup (da_cons (de_v 1) (da_cons de_int da_nil))) da_nil)) da_nil)))))), fun ds M R W h => ?_⟩)
  · match ds, h with | [_, _], _ => rfl
  · match ds, h with
    | [s, d], h =>
      obtain ⟨ps, rfl, pl, k⟩ := h
      walk_at "s"
      refine ⟨ps, rfl, pl, ?_⟩
      rcases k with ⟨x, rfl, hx, k⟩ | ⟨hn, k⟩
      · have hh : hasN ps (.str x) = true := decide_eq_true hx
        rw [hh]
        walk_at "s"
        refine fun p hp => ?_
        refine ⟨p, ps, [(.str x, 1)], rfl, rfl, updM_same, ⟨_, none, rfl, .cons (Or.inl rfl) .nil⟩, by simp, fun y hy => ?_, .inl ⟨[(x, 1)], rfl, fun y hy => ?_, ?_⟩⟩
        · cases hy with
          | head => exact pl
          | tail _ hy => exact nomatch hy
        · cases hy with
          | head => exact hx
          | tail _ hy => exact nomatch hy
        walk_at "s"
        refine ⟨M, ?_, k⟩
        rw [updM_updM]
        exact ((SubM.refl M).new hp).del hp
      · rw [hn]
        walk_at "s"
        exact Wt.of k
abbrev s_Scales_still : Stmt := inClass (top 77) 4
theorem sc_Scales_still : FnScope ["self"] ["self"] (defScope s_Scales_still) := ⟨rfl, rfl, rfl, by decide +kernel, rfl, by decide +kernel, by decide +kernel⟩
def sp_Scales_still (C_Row C_Scales : Addr) : SpD := fun ds M R W => match ds with
  | [s] => ∃ (ps : PL), s = scD C_Scales ps ∧ R (rowD C_Row C_Scales ps []) M
  | _ => False
theorem ok_Scales_still {f : Addr} {fd : FuncData} (F : FnP K "still" "Scales.still" s_Scales_still f fd) (T : Fx K mg C_BadClaim C_BadFact C_BadKind C_BadName C_Book C_Form C_NoScale C_OtherScales C_Row C_ScaleError C_Scales C_TwiceNamed a_KINDS a_RELATIONS) (M_Row___init__2 : Mkr P w K mg base (L2.CX P w) 5 "Row" C_Row ["self", "scales", "steps"] [.ref a_dflRow] (upSp K (sp_Row___init__ C_Scales C_NoScale C_Row))) (D_Row___init__2 : Dfl K [.ref a_dflRow] [.tup []]) :
    FnOk P w K mg base (L2.CX P w) 9 f fd ["self"] (upSp K (sp_Scales_still C_Row C_Scales)) := by
  refine okD (k := 8) F sc_Scales_still (fun ds M R W h => ?_) (fun cdv A outer s H E hr hx tk => ⟨_, (dss_one (ds_ret (de_mk M_Row___init__2 D_Row___init__2 (hr.mono (by decide)) hx (da_cons (de_v 0) da_nil)))), fun ds M R W h => ?_⟩)
  · match ds, h with | [_], _ => rfl
  · match ds, h with
    | [s], h =>
      obtain ⟨ps, rfl, k⟩ := h
      walk_at "w"
      refine fun p hp => ?_
      refine ⟨p, ps, [], rfl, rfl, updM_same, ⟨[], none, rfl, .nil⟩, by simp, fun _ z => (nomatch z), .inl ⟨[], rfl, fun _ z => (nomatch z), ?_⟩⟩
      walk_at "s"
      refine ⟨M, ?_, k⟩
      rw [updM_updM]
      exact ((SubM.refl M).new hp).del hp
abbrev s_Row___eq__ : Stmt := inClass (top 13) 11
theorem sc_Row___eq__ : FnScope ["self", "other"] ["self", "other"] (defScope s_Row___eq__) := ⟨rfl, rfl, rfl, by decide +kernel, rfl, by decide +kernel, by decide +kernel⟩
def sp_Row___eq__ (C_Row C_Scales : Addr) : SpD := fun ds M R W => match ds with
  | [s, t] => ∃ (ps : PL) (qs : SL), s = rowD C_Row C_Scales ps qs ∧ ((∃ (ps2 : PL) (qs2 : SL), t = rowD C_Row C_Scales ps2 qs2 ∧ R (.bl (decide (ps = ps2 ∧ qs = qs2))) M) ∨ (Pln t ∧ R (.bl false) M))
  | _ => False
theorem ok_Row___eq__ {f : Addr} {fd : FuncData} (F : FnP K "__eq__" "Row.__eq__" s_Row___eq__ f fd) (T : Fx K mg C_BadClaim C_BadFact C_BadKind C_BadName C_Book C_Form C_NoScale C_OtherScales C_Row C_ScaleError C_Scales C_TwiceNamed a_KINDS a_RELATIONS) (M_Scales___eq__ : Mtd P w K mg base (L2.CX P w) 1 C_Scales "__eq__" ["self", "other"] [] (upSp K (sp_Scales___eq__ C_Scales))) :
    FnOk P w K mg base (L2.CX P w) 5 f fd ["self", "other"] (upSp K (sp_Row___eq__ C_Row C_Scales)) := by
  refine okD (k := 4) F sc_Row___eq__ (fun ds M R W h => ?_) (fun cdv A outer s H E hr hx tk => ⟨_, (dss_one (ds_ret (de_and (de_bi call_isi rc_isi T.b_isinstance (by decide +kernel) (da_cons (de_v 1) (da_cons (de_cls T.g_Row) da_nil))) (de_and (de_cmpX EL.none (op_eqOwn M_Scales___eq__ (hr.mono (by decide)) passL) rox_eq (de_fld (K := K) rfl "scales" 0 (de_v 0)) (de_fld (K := K) rfl "scales" 0 (de_v 1)) (nomark _)) (de_one (de_cmp (op_eqA hr.units) ro_eqA (de_fld (K := K) rfl "steps" 1 (de_v 0)) (de_fld (K := K) rfl "steps" 1 (de_v 1)) (nomark _))))))), fun ds M R W h => ?_⟩)
  · match ds, h with | [_, _], _ => rfl
  · match ds, h with
    | [s, t], h =>
      obtain ⟨ps, qs, rfl, h⟩ := h
      have a1 := T.at_Row_steps
      have a2 := T.at_Row_scales
      have a3 := T.isi_Row
      rcases h with ⟨ps2, qs2, rfl, k⟩ | ⟨pl, k⟩
      · walk_at "s"
        refine ⟨true, T.kk_Row_Row, ?_⟩
        walk_at "s"
        refine ⟨T.isi_Scales, T.nf_Scales, ?_⟩
        refine ⟨ps, ps2, rfl, rfl, ?_⟩
        walk_at "s"
        refine dIte_d (fun h1 => ?_) (fun h1 => ?_)
        · walk_at "s"
          refine ⟨PD_d (Tup.mk qs), PD_d (Tup.mk qs2), ?_⟩
          walk_at "s"
          show Rt R (.bl (dEqB (Dt.d (Tup.mk qs)) (Dt.d (Tup.mk qs2)))) M
          rw [dEqB_d, decide_eq_decide.mpr (show Tup.mk qs = Tup.mk qs2 ↔ (ps = ps2 ∧ qs = qs2) from ⟨fun e => ⟨h1, Tup.mk.inj e⟩, fun e => by rw [e.2]⟩)]
          exact Rt.of k
        · walk_at "s"
          rw [decide_eq_false (show ¬ (ps = ps2 ∧ qs = qs2) from fun z => h1 z.1)] at k
          exact Rt.of k
      · have k2 : Rt R (.bl false) M := Rt.of k
        cases t <;> try exact pl.elim
        all_goals
          walk_at "s"
          refine ⟨false, T.ka_Row _, ?_⟩
          walk_at "s"
          exact k2
abbrev s_need_like : Stmt := top 15
theorem sc_need_like : FnScope ["one", "other"] ["one", "other"] (defScope s_need_like) := ⟨rfl, rfl, rfl, by decide +kernel, rfl, by decide +kernel, by decide +kernel⟩
def sp_need_like (C_OtherScales C_Row C_Scales : Addr) : SpD := fun ds M R W => match ds with
  | [s, t] => ∃ (ps ps2 : PL) (qs qs2 : SL), s = rowD C_Row C_Scales ps qs ∧ t = rowD C_Row C_Scales ps2 qs2 ∧ (ps = ps2 → R .non M) ∧ (ps ≠ ps2 → W C_OtherScales [] M)
  | _ => False
theorem ok_need_like {f : Addr} {fd : FuncData} (F : FnP K "need_like" "need_like" s_need_like f fd) (T : Fx K mg C_BadClaim C_BadFact C_BadKind C_BadName C_Book C_Form C_NoScale C_OtherScales C_Row C_ScaleError C_Scales C_TwiceNamed a_KINDS a_RELATIONS) (M_OtherScales : Exk P w K mg base "OtherScales" C_OtherScales []) (M_Scales___eq__ : Mtd P w K mg base (L2.CX P w) 1 C_Scales "__eq__" ["self", "other"] [] (upSp K (sp_Scales___eq__ C_Scales))) :
    FnOk P w K mg base (L2.CX P w) 5 f fd ["one", "other"] (upSp K (sp_need_like C_OtherScales C_Row C_Scales)) := by
  refine okD (k := 4) F sc_need_like (fun ds M R W h => ?_) (fun cdv A outer s H E hr hx tk => ⟨_, (dss_one (ds_if (dt_cmpX EL.none (op_neOwn T.ne_Scales M_Scales___eq__ (hr.mono (by decide)) passL) rox_ne (de_fld (K := K) rfl "scales" 0 (de_v 0)) (de_fld (K := K) rfl "scales" 0 (de_v 1)) (nomark _)) (dss_one (ds_raise0 rfl tk M_OtherScales (hr.mono (by decide)))) dss_nil)), fun ds M R W h => ?_⟩)
  · match ds, h with | [_, _], _ => rfl
  · match ds, h with
    | [s, t], h =>
      obtain ⟨ps, ps2, qs, qs2, rfl, rfl, k1, k2⟩ := h
      have a2 := T.at_Row_scales
      walk_at "s"
      refine ⟨T.isi_Scales, T.nf_Scales, ps, ps2, rfl, rfl, ?_⟩
      refine dIte_nd (c := ps = ps2) (fun h => ?_) (fun h => ?_)
      · walk_at "s"
        exact Wt.of (k2 h)
      · walk_at "s"
        exact Rt.of (k1 h)
end
end RS

set_option maxRecDepth 100000
set_option maxHeartbeats 4000000
namespace RS
open PySem PySem.Spec PyProof.Rows L2 NdefX He PySem.W LamX
variable [Tbls]
section
variable {P : Program} {w : World} {K : PySem.W.Frag} {mg : Str → Option Value} {base : Heap} {C_BadClaim C_BadFact C_BadKind C_BadName C_Book C_Form C_NoScale C_OtherScales C_Row C_ScaleError C_Scales C_TwiceNamed a_KINDS a_RELATIONS : Addr}
abbrev s_highs_of : Stmt := top 16
theorem sc_highs_of : FnScope ["value"] ["value"] (defScope s_highs_of) := ⟨rfl, rfl, rfl, by decide +kernel, rfl, by decide +kernel, by decide +kernel⟩
def sp_highs_of (C_Row C_Scales : Addr) : SpD := fun ds M R W => match ds with
  | [v] => ∃ (ps : PL) (qs : SL), v = rowD C_Row C_Scales ps qs ∧ R (.tup [.tup [v]]) M
  | _ => False
theorem ok_highs_of {f : Addr} {fd : FuncData} (F : FnP K "highs_of" "highs_of" s_highs_of f fd) (T : Fx K mg C_BadClaim C_BadFact C_BadKind C_BadName C_Book C_Form C_NoScale C_OtherScales C_Row C_ScaleError C_Scales C_TwiceNamed a_KINDS a_RELATIONS) :
    FnOk P w K mg base (L2.CX P w) 1 f fd ["value"] (upSp K (sp_highs_of C_Row C_Scales)) := by
  refine okD (k := 0) F sc_highs_of (fun ds M R W h => ?_) (fun cdv A outer s H E hr hx tk => ⟨_, (dss_one (ds_ret (de_ifExp (dt_val (de_bi call_isi rc_isi T.b_isinstance (by decide +kernel) (da_cons (de_v 0) (da_cons (de_cls T.g_Row) da_nil)))) (de_tup (da_cons (de_tup (da_cons (de_v 0) da_nil)) da_nil)) (de_fld (K := K) rfl "highs" 1 (de_v 0))))), fun ds M R W h => ?_⟩)
  · match ds, h with | [_], _ => rfl
  · match ds, h with
    | [v], h =>
      obtain ⟨ps, qs, rfl, k⟩ := h
      walk_at "s"
      refine ⟨T.isi_Row, true, T.kk_Row_Row, ?_⟩
      walk_at "s"
      exact Rt.of k
abbrev s_lows_of : Stmt := top 17
theorem sc_lows_of : FnScope ["value"] ["value"] (defScope s_lows_of) := ⟨rfl, rfl, rfl, by decide +kernel, rfl, by decide +kernel, by decide +kernel⟩
def sp_lows_of (C_Row C_Scales : Addr) : SpD := fun ds M R W => match ds with
  | [v] => ∃ (ps : PL) (qs : SL), v = rowD C_Row C_Scales ps qs ∧ R (.tup [.tup [v]]) M
  | _ => False
theorem ok_lows_of {f : Addr} {fd : FuncData} (F : FnP K "lows_of" "lows_of" s_lows_of f fd) (T : Fx K mg C_BadClaim C_BadFact C_BadKind C_BadName C_Book C_Form C_NoScale C_OtherScales C_Row C_ScaleError C_Scales C_TwiceNamed a_KINDS a_RELATIONS) :
    FnOk P w K mg base (L2.CX P w) 1 f fd ["value"] (upSp K (sp_lows_of C_Row C_Scales)) := by
  refine okD (k := 0) F sc_lows_of (fun ds M R W h => ?_) (fun cdv A outer s H E hr hx tk => ⟨_, (dss_one (ds_ret (de_ifExp (dt_val (de_bi call_isi rc_isi T.b_isinstance (by decide +kernel) (da_cons (de_v 0) (da_cons (de_cls T.g_Row) da_nil)))) (de_tup (da_cons (de_tup (da_cons (de_v 0) da_nil)) da_nil)) (de_fld (K := K) rfl "lows" 2 (de_v 0))))), fun ds M R W h => ?_⟩)
  · match ds, h with | [_], _ => rfl
  · match ds, h with
    | [v], h =>
      obtain ⟨ps, qs, rfl, k⟩ := h
      walk_at "s"
      refine ⟨T.isi_Row, true, T.kk_Row_Row, ?_⟩
      walk_at "s"
      exact Rt.of k
/-! ### formulas: lists of rows -/
def tlD (p : List (List D)) : D := .tup (p.map .tup)
def chStep (f p : List (List D)) : List (List D) := f.flatMap fun s => p.map fun m => s ++ m
def chs : List (List (List D)) → List (List D) → List (List D)
  | [], f => f
  | p :: ps, f => chs ps (chStep f p)
/-- it stays short -/
def ChOk : List (List (List D)) → List (List D) → Prop
  | [], _ => True
  | p :: ps, f => (chStep f p).length ≤ 12000 ∧ (∀ x ∈ chStep f p, x.length ≤ 12000) ∧ ChOk ps (chStep f p)
theorem chStep_len {f1 f2 : List (List D)} {s : List D} {p1 p2 : List (List D)} {m : List D} : (chStep f1 (p1 ++ m :: p2)).length + p1.length < (chStep (f1 ++ s :: f2) (p1 ++ m :: p2)).length := by
  unfold chStep
  rw [List.flatMap_append, List.flatMap_cons, List.length_append, List.length_append, List.length_map, List.length_append, List.length_cons]
  omega
abbrev s_choices : Stmt := top 19
theorem sc_choices : FnScope ["parts", "found", "part", "some", "more"] ["parts"] (defScope s_choices) := ⟨rfl, rfl, rfl, by decide +kernel, rfl, by decide +kernel, by decide +kernel⟩
def sp_choices : SpD := fun ds M R W => match ds with
  | [d] => ∃ parts : List (List (List D)), d = .lst (parts.map tlD) ∧ ChOk parts [[]] ∧ R (.lst ((chs parts [[]]).map .tup)) M
  | _ => False
theorem ok_choices {f : Addr} {fd : FuncData} (F : FnP K "choices" "choices" s_choices f fd) (T : Fx K mg C_BadClaim C_BadFact C_BadKind C_BadName C_Book C_Form C_NoScale C_OtherScales C_Row C_ScaleError C_Scales C_TwiceNamed a_KINDS a_RELATIONS) :
    FnOk P w K mg base (L2.CX P w) 1 f fd ["parts"] (upSp K sp_choices) := by
  refine okD (k := 0) F sc_choices (fun ds M R W h => ?_) (fun cdv A outer s H E hr hx tk => ⟨_, (dss_cons (ds_set 1 sc_choices.nd (de_lst (da_cons (de_tup da_nil) da_nil)))
      (dss_cons (ds_for (passes_of rfl) rfl (di_sq (de_v 0)) (dg_name 2 sc_choices.nd) (dss_one (ds_setLc2 1 (own := [("some", 3), ("more", 4)]) (vs1 := [4]) (by rfl) sc_choices.nd rfl rfl (sw_true rfl rfl rfl (by decide +kernel)) (di_sq (de_v 1)) (blkOk_by (own := [("some", 3), ("more", 4)]) (N := ["parts", "found", "part", "some", "more"]) (sc := defScope s_choices) (by decide +kernel)) (by decide) (fun _ _ _ _ _ => (dgw_name 3 sc_choices.nd)) (fun _ _ _ _ _ => dts_nil) (fun _ _ _ _ _ => (di_sq (de_v 2))) (fun _ _ _ _ _ => (dgw_name 4 sc_choices.nd)) (fun _ _ _ _ _ => dts_nil) (fun _ _ _ _ _ => (de_tup (da_star (de_v 3) (da_star (de_v 4) da_nil)))))))
      (dss_one (ds_ret (de_v 1))))), fun ds M R W h => ?_⟩)
  · match ds, h with | [_], _ => rfl
  · match ds, h with
    | [d], h =>
      obtain ⟨parts, rfl, ok, k⟩ := h
      walk_at "s"
      refine dLoop_indC (fun r τ => ∃ (ps : List (List (List D))) (f : List (List D)) (v2 v3 v4 : Option D), r = ps.map tlD ∧ τ = [some (.lst (parts.map tlD)), some (.lst (f.map .tup)), v2, v3, v4] ∧ ChOk ps f ∧ chs ps f = chs parts [[]]) ⟨parts, [[]], _, _, _, rfl, rfl, ok, rfl⟩ ?_ ?_
      · rintro _ r _ ⟨ps, f, v2, v3, v4, e1, rfl, ok, e2⟩ ih
        cases ps with
        | nil => cases e1
        | cons p ps =>
        cases e1
        walk_at "s"
        refine dLc2_indC (fun r acc => ∃ f1 f2, f1 ++ f2 = f ∧ r = f2.map .tup ∧ acc = (chStep f1 p).map .tup) ⟨[], f, rfl, rfl, rfl⟩ ?_ ?_
        · rintro _ r2 _ ⟨f1, f2, ef, e4, rfl⟩ ih2
          cases f2 with
          | nil => cases e4
          | cons s f2 =>
          cases e4
          have lim : ∀ p1 m p2, p1 ++ m :: p2 = p → (chStep f1 p).length + p1.length < 12000 ∧ (s ++ m).length ≤ 12000 := fun p1 m p2 ep => by
            have h1 := ok.1
            have h2 := ok.2.1 (s ++ m) (by
              unfold chStep
              refine List.mem_flatMap.mpr ⟨s, by rw [← ef]; exact List.mem_append_right _ (List.mem_cons_self ..), List.mem_map.mpr ⟨m, by rw [← ep]; exact List.mem_append_right _ (List.mem_cons_self ..), rfl⟩⟩)
            have h3 := chStep_len (f1 := f1) (f2 := f2) (s := s) (p1 := p1) (p2 := p2) (m := m)
            rw [ef, ep] at h3
            exact ⟨by omega, h2⟩
          walk_at "s"
          refine dLcL_indC (fun r acc => ∃ p1 p2, p1 ++ p2 = p ∧ r = p2.map .tup ∧ acc = (chStep f1 p).map .tup ++ (p1.map fun m => s ++ m).map .tup) ⟨[], p, rfl, rfl, by simp⟩ ?_ ?_
          · rintro _ r3 _ ⟨p1, p2, ep, e5, rfl⟩ ih3
            cases p2 with
            | nil => cases e5
            | cons m p2 =>
            cases e5
            obtain ⟨l1, l2⟩ := lim p1 m p2 ep
            walk_at "s"
            rw [List.append_nil]
            refine ⟨le_line2 (by omega), ?_⟩
            refine ⟨lt_line (by simp; omega), ?_⟩
            refine ih3 _ ⟨p1 ++ [m], p2, by rw [← ep]; simp, rfl, by simp⟩
          · rintro _ ⟨p1, p2, ep, e5, rfl⟩
            cases p2 with
            | cons m p2 => cases e5
            | nil =>
            rw [List.append_nil] at ep
            subst ep
            refine ih2 _ ⟨f1 ++ [s], f2, by rw [← ef]; simp, rfl, ?_⟩
            unfold chStep
            simp
        · rintro _ ⟨f1, f2, ef, e4, rfl⟩
          cases f2 with
          | cons s f2 => cases e4
          | nil =>
          rw [List.append_nil] at ef
          subst ef
          walk_at "s"
          exact ih _ ⟨ps, _, _, _, _, rfl, rfl, ok.2.2, e2⟩
      · rintro _ ⟨ps, f, v2, v3, v4, e1, rfl, ok, e2⟩
        cases ps with
        | cons p ps => cases e1
        | nil =>
        walk_at "s"
        exact Rt.of (by have e3 : f = chs parts [[]] := e2; rw [← e3] at k; exact k)
end
end RS

set_option maxRecDepth 100000
set_option maxHeartbeats 4000000
namespace RS
open PySem PySem.Spec PyProof.Rows L2 NdefX He PySem.W LamX
variable [Tbls]
section
variable {P : Program} {w : World} {K : PySem.W.Frag} {mg : Str → Option Value} {base : Heap} {C_BadClaim C_BadFact C_BadKind C_BadName C_Book C_Form C_NoScale C_OtherScales C_Row C_ScaleError C_Scales C_TwiceNamed a_KINDS a_RELATIONS : Addr}
def rwsD (C Cs : Addr) (ps : PL) (rs : List SL) : D := .tup (rs.map (rowD C Cs ps))
/-- each row once -/
def ddp (rs : List SL) : List SL := rs.foldl (fun a r => if r ∈ a then a else a ++ [r]) []
/-- without those that hold another one -/
def kpt : List (List SL) → List (List SL) → List (List SL)
  | kept, [] => kept
  | kept, rows :: rest => if (kept ++ rest).any (fun o => o.all fun r => decide (r ∈ rows)) = true then kpt kept rest else kpt (kept ++ [rows]) rest
theorem ddp_snoc (rs : List SL) (x : SL) : ddp (rs ++ [x]) = if x ∈ ddp rs then ddp rs else ddp rs ++ [x] := by
  unfold ddp
  rw [List.foldl_append]
  rfl
theorem ddp_len (rs : List SL) : (ddp rs).length ≤ rs.length := by
  refine snocRec (P := fun rs => (ddp rs).length ≤ rs.length) (Nat.le_refl _) (fun a x ih => ?_) rs
  rw [ddp_snoc]
  split
  · rw [List.length_append]
    omega
  · rw [List.length_append, List.length_append]
    exact Nat.add_le_add_right ih _
theorem stD_inj {p q : Str × Int} (h : stD p = stD q) : p = q := by
  obtain ⟨n, x⟩ := p
  obtain ⟨m, y⟩ := q
  have h' : D.tup [.str n, .int x] = D.tup [.str m, .int y] := h
  injection h' with h1
  injection h1 with h2 h3
  injection h2 with h2
  injection h3 with h3 _
  injection h3 with h3
  rw [h2, h3]
theorem st_inj {a b : SL} (h : a.map stD = b.map stD) : a = b := (List.map_inj_right fun _ _ => stD_inj).mp h
theorem isLst_at2 {M : MS} {p q : Addr} {xs : List D} {m : MO} (h : p ≠ q) : isLst (updM (updM M p (.lst xs)) q m) (.ref p) := by
  unfold isLst
  rw [vw_ne h, vw_same]
  trivial
theorem row_inj {C Cs : Addr} {ps : PL} {a b : SL} (h : rowD C Cs ps a = rowD C Cs ps b) : a = b := by
  unfold rowD at h
  injection h with h1 h2
  injection h2 with h2 h3
  injection h3 with h3 h4
  injection h3 with h3 h5
  injection h5 with h5
  exact st_inj h5
theorem lk_row {C Cs : Addr} {ps ps' : PL} {qs qs' : SL} : LkD 60 (rowD C Cs ps qs) (rowD C Cs ps' qs') := by
  have two : ∀ (n : Nat) (a b : PL), LkD (n + 2) (.tup (a.map prD)) (.tup (b.map prD)) := fun n a b x hx y hy => by
    obtain ⟨p, _, rfl⟩ := List.mem_map.mp hx
    obtain ⟨q, _, rfl⟩ := List.mem_map.mp hy
    intro u hu v hv
    simp only [List.mem_cons, List.not_mem_nil, or_false] at hu hv
    rcases hu with rfl | rfl <;> rcases hv with rfl | rfl <;> cases n <;> trivial
  refine ⟨rfl, rfl, fun i x y hx hy => ?_⟩
  match i with
  | 0 =>
    cases hx
    cases hy
    refine ⟨rfl, rfl, fun i x y hx hy => ?_⟩
    match i with
    | 0 =>
      cases hx
      cases hy
      exact two _ _ _
    | 1 =>
      cases hx
      cases hy
      intro u hu v hv
      obtain ⟨p, _, rfl⟩ := List.mem_map.mp hu
      obtain ⟨q, _, rfl⟩ := List.mem_map.mp hv
      trivial
    | 2 =>
      cases hx
      cases hy
      intro u v hu hv
      obtain ⟨p, _, rfl⟩ := List.mem_map.mp hu
      obtain ⟨q, _, rfl⟩ := List.mem_map.mp hv
      trivial
    | i + 3 => simp at hx
  | 1 =>
    cases hx
    cases hy
    intro x hx y hy
    obtain ⟨p, _, rfl⟩ := List.mem_map.mp hx
    obtain ⟨q, _, rfl⟩ := List.mem_map.mp hy
    intro u hu v hv
    simp only [List.mem_cons, List.not_mem_nil, or_false] at hu hv
    rcases hu with rfl | rfl <;> rcases hv with rfl | rfl <;> trivial
  | i + 2 => simp at hx
/-- a row among rows -/
theorem inRow {C Cs : Addr} {ps : PL} {S : SpD} {M : MS} {R : Bool → Prop} {W : XD} {x : SL} (hS : ∀ qs (R' : D → MS → Prop), R' (.bl (decide (qs = x))) M → S [rowD C Cs ps qs, rowD C Cs ps x] M R' W) : ∀ {xs : List SL}, R (decide (x ∈ xs)) → dInLp S (rowD C Cs ps x) M R W (xs.map (rowD C Cs ps))
  | [], h => h
  | y :: xs, h => by
    refine ⟨fun e => ?_, hS y _ ⟨rfl, fun e => ?_, fun e => inRow hS ?_⟩⟩
    · rw [decide_eq_true (show x ∈ y :: xs by rw [row_inj e]; exact List.mem_cons_self ..)] at h
      exact h
    · rw [decide_eq_true (show x ∈ y :: xs by rw [of_decide_eq_true e]; exact List.mem_cons_self ..)] at h
      exact h
    · rw [decide_eq_decide.mpr (show x ∈ xs ↔ x ∈ y :: xs by rw [List.mem_cons]; exact ⟨.inr, fun z => z.elim (fun z => absurd z.symm (of_decide_eq_false e)) id⟩)]
      exact h
abbrev s_kept_lists : Stmt := top 20
theorem sc_kept_lists : FnScope ["told", "found", "rows", "kept", "once", "row", "k", "others", "other"] ["told"] (defScope s_kept_lists) := ⟨rfl, rfl, rfl, by decide +kernel, rfl, by decide +kernel, by decide +kernel⟩
def sp_kept_lists (C_Row C_Scales : Addr) : SpD := fun ds M R W => match ds with
  | [d] => ∃ (ps : PL) (told : List (List SL)), d = .lst (told.map (rwsD C_Row C_Scales ps)) ∧ told.length ≤ 5000 ∧ (∀ rs ∈ told, rs.length ≤ 5000) ∧ R (.lst ((kpt [] (told.map ddp)).map (rwsD C_Row C_Scales ps))) M
  | _ => False
theorem ok_kept_lists {f : Addr} {fd : FuncData} (F : FnP K "kept_lists" "kept_lists" s_kept_lists f fd) (T : Fx K mg C_BadClaim C_BadFact C_BadKind C_BadName C_Book C_Form C_NoScale C_OtherScales C_Row C_ScaleError C_Scales C_TwiceNamed a_KINDS a_RELATIONS) (M_Row___eq__ : Mtd P w K mg base (L2.CX P w) 5 C_Row "__eq__" ["self", "other"] [] (upSp K (sp_Row___eq__ C_Row C_Scales))) :
    FnOk P w K mg base (L2.CX P w) 9 f fd ["told"] (upSp K (sp_kept_lists C_Row C_Scales)) := by
  refine okD (k := 8) F sc_kept_lists (fun ds M R W h => ?_) (fun cdv A outer s H E hr hx tk => ⟨_, (dss_cons (ds_set 1 sc_kept_lists.nd (de_lstM da_nil))
      (dss_cons (ds_for (passes_of rfl) rfl (di_sq (de_v 0)) (dg_name 2 sc_kept_lists.nd) (dss_cons (ds_set 4 sc_kept_lists.nd (de_lstM da_nil))
      (dss_cons (ds_for (passes_of rfl) rfl (di_sq (de_v 2)) (dg_name 5 sc_kept_lists.nd) (dss_one (ds_if (dt_cmpX EL.none (op_inE true M_Row___eq__ (hr.mono (by decide)) passL T.nf_Row) (rox_inE (neg := true)) (de_v 5) (de_v 4) rfl) (dss_one (ds_expr (de_bm PySem.F.slot_list_append PySem.F.type_list_append mt_append rm_append (de_v 4) (da_cons (de_v 5) da_nil)))) dss_nil)))
      (dss_one (ds_expr (de_bm PySem.F.slot_list_append PySem.F.type_list_append mt_append rm_append (de_v 1) (da_cons (de_bt call_tuple_of rc_tuple T.b_tuple (by decide +kernel) (da_cons (de_v 4) da_nil)) da_nil)))))))
      (dss_frz 1 (dss_cons (ds_set 3 sc_kept_lists.nd (de_lstM da_nil))
      (dss_cons (ds_for (passes_of rfl) rfl (di_enum T.b_enumerate (da_cons (de_f 1) da_nil)) (dg_tup (K := K) (n := 2) rfl (by rfl) (dgs_cons (dg_name 6 sc_kept_lists.nd) (dgs_cons (dg_name 2 sc_kept_lists.nd) dgs_nil))) (dss_cons (ds_set 7 sc_kept_lists.nd (de_lst (da_star (de_v 3) (da_star (de_sl (de_v 1) (do_some (de_op op_addD ro_add (de_v 6) de_int)) do_none) da_nil))))
      (dss_one (ds_if (dt_not (dt_val (de_bi (cr_any rfl) rc_any T.b_any (by decide +kernel) (da_cons (de_lc (own := [("other", 8)]) (by rfl) sc_kept_lists.nd (di_sq (de_v 7)) (blkOk_by (own := [("other", 8)]) (N := ["told", "found", "rows", "kept", "once", "row", "k", "others", "other"]) (sc := defScope s_kept_lists) (by decide +kernel)) (fun _ _ _ _ _ => (dgw_name 8 sc_kept_lists.nd)) (fun _ _ _ _ _ => dts_nil) (fun _ _ _ _ _ => (de_bi (cr_all rfl) rc_all T.b_all (by decide +kernel) (da_cons (de_lc (own := [("row", 5)]) (by rfl) sc_kept_lists.nd (di_sq (de_v 8)) (blkOk_by (own := [("row", 5)]) (N := ["told", "found", "rows", "kept", "once", "row", "k", "others", "other"]) (by kernel_rfl)) (fun _ _ _ _ _ => (dgw_name 5 sc_kept_lists.nd)) (fun _ _ _ _ _ => dts_nil) (fun _ _ _ _ _ => (de_cmpX EL.none (op_inE false M_Row___eq__ (hr.mono (by decide)) passL T.nf_Row) (rox_inE (neg := false)) (de_v 5) (de_v 2) rfl))) da_nil)))) da_nil)))) (dss_one (ds_expr (de_bm PySem.F.slot_list_append PySem.F.type_list_append mt_append rm_append (de_v 3) (da_cons (de_v 2) da_nil)))) dss_nil))))
      (dss_one (ds_ret (de_f 3)))))))), fun ds M R W h => ?_⟩)
  · match ds, h with | [_], _ => rfl
  · match ds, h with
    | [d], h =>
      obtain ⟨ps, told, rfl, l1, l2, k⟩ := h
      walk_at "s"
      refine fun p hp => ?_
      walk_at "s"
      refine dLoop_ind (fun r τ M' => ∃ (t1 t2 : List (List SL)) (M1 : MS) (v2 v3 v4 v5 v6 v7 v8 : Option D), t1 ++ t2 = told ∧ r = t2.map (rwsD C_Row C_Scales ps) ∧ τ = [some (.lst (told.map (rwsD C_Row C_Scales ps))), some (.ref p), v2, v3, v4, v5, v6, v7, v8] ∧ M' = updM M1 p (.lst ((t1.map ddp).map (rwsD C_Row C_Scales ps))) ∧ M1 p = none ∧ SubM M M1) ⟨[], told, M, _, _, _, _, _, _, _, rfl, rfl, rfl, rfl, hp, SubM.refl M⟩ ?_ ?_
      · rintro _ r _ _ ⟨t1, t2, M1, v2, v3, v4, v5, v6, v7, v8, et, e1, rfl, rfl, np, sb⟩ ih
        cases t2 with
        | nil => cases e1
        | cons rs t2 =>
        cases e1
        have lr : rs.length ≤ 5000 := l2 rs (by rw [← et]; exact List.mem_append_right _ (List.mem_cons_self ..))
        have lt : t1.length < 5000 := by have := congrArg List.length et; simp at this; omega
        walk_at "s"
        refine fun q hq => ?_
        walk_at "s"
        have qp : q ≠ p := fun z => by rw [z, updM_same] at hq; cases hq
        have nq : M1 q = none := by rw [updM_ne qp] at hq; exact hq
        refine dLoop_ind (fun r τ M' => ∃ (r1 r2 : List SL) (v5 : Option D), r1 ++ r2 = rs ∧ r = r2.map (rowD C_Row C_Scales ps) ∧ τ = [some (.lst (told.map (rwsD C_Row C_Scales ps))), some (.ref p), some (rwsD C_Row C_Scales ps rs), v3, some (.ref q), v5, v6, v7, v8] ∧ M' = updM (updM M1 p (.lst ((t1.map ddp).map (rwsD C_Row C_Scales ps)))) q (.lst ((ddp r1).map (rowD C_Row C_Scales ps)))) ⟨[], rs, _, rfl, rfl, rfl, rfl⟩ ?_ ?_
        · rintro _ r _ _ ⟨r1, r2, v5, er, e2, rfl, rfl⟩ ih2
          cases r2 with
          | nil => cases e2
          | cons x r2 =>
          cases e2
          walk_at "s"
          refine ⟨fun d hd => (by obtain ⟨r', _, rfl⟩ := List.mem_map.mp hd; exact ⟨rfl, lk_row⟩), inRow (fun qs R' k' => (by
            refine ⟨ps, qs, rfl, .inl ⟨ps, x, rfl, ?_⟩⟩
            rw [decide_eq_decide.mpr (show (ps = ps ∧ qs = x) ↔ qs = x from ⟨fun z => z.2, fun z => ⟨rfl, z⟩⟩)]
            exact k')) ?_⟩
          have lr1 : (ddp r1).length ≤ 5000 := by have h1 := ddp_len r1; have h2 := congrArg List.length er; simp at h2; omega
          show dIte (!decide (x ∈ ddp r1)) _ _
          refine dIte_nd (c := x ∈ ddp r1) (fun h1 => ?_) (fun h1 => ?_)
          · walk_at "s"
            refine ⟨lt_line (by simp; omega), ?_⟩
            walk_at "s"
            refine ih2 _ _ ⟨r1 ++ [x], r2, _, by rw [← er]; simp, rfl, rfl, ?_⟩
            rw [updM_updM, ddp_snoc, if_neg h1, List.map_append]
            rfl
          · walk_at "s"
            refine ih2 _ _ ⟨r1 ++ [x], r2, _, by rw [← er]; simp, rfl, rfl, ?_⟩
            rw [ddp_snoc, if_pos h1]
        · rintro _ _ ⟨r1, r2, v5, er, e2, rfl, rfl⟩
          cases r2 with
          | cons x r2 => cases e2
          | nil =>
          rw [List.append_nil] at er
          subst er
          walk_at "w"
          refine ⟨isLst_at2 qp.symm, ?_⟩
          walk_at "s"
          rw [updM_ne qp.symm, updM_same]
          walk_at "s"
          refine ⟨lt_line (by simp; omega), ?_⟩
          walk_at "s"
          have mq : M q = none := by
            cases e : M q with
            | none => rfl
            | some m => rw [sb _ _ e] at nq; cases nq
          refine ih _ _ ⟨t1 ++ [r1], t2, updM M1 q (.lst ((ddp r1).map (rowD C_Row C_Scales ps))), _, _, _, _, _, _, _, by rw [← et]; simp, rfl, rfl, ?_, by rw [updM_ne qp.symm]; exact np, sb.new mq⟩
          rw [updM_swap qp, updM_comm qp.symm, List.map_append, List.map_append]
          rfl
      · rintro _ _ ⟨t1, t2, M1, v2, v3, v4, v5, v6, v7, v8, et, e1, rfl, rfl, np, sb⟩
        cases t2 with
        | cons rs t2 => cases e1
        | nil =>
        rw [List.append_nil] at et
        subst et
        walk_at "s"
        rw [delM_updM np]
        refine fun p2 hp2 => ?_
        walk_at "s"
        have mp2 : M p2 = none := by
          cases e : M p2 with
          | none => rfl
          | some m => rw [sb _ _ e] at hp2; cases hp2
        have lf : (t1.map ddp).length = t1.length := List.length_map ..
        refine dLoop_ind (fun r τ M' => ∃ (f1 f2 kp : List (List SL)) (v2 v4 v5 v6 v7 v8 : Option D), r = enumD f1.length (f2.map (rwsD C_Row C_Scales ps)) ∧ f1 ++ f2 = t1.map ddp ∧ kpt kp f2 = kpt [] (t1.map ddp) ∧ kp.length ≤ f1.length ∧ (∀ o ∈ kp, o.length ≤ 5000) ∧ τ = [some (.lst (t1.map (rwsD C_Row C_Scales ps))), some (.lst ((t1.map ddp).map (rwsD C_Row C_Scales ps))), v2, some (.ref p2), v4, v5, v6, v7, v8] ∧ M' = updM M1 p2 (.lst (kp.map (rwsD C_Row C_Scales ps)))) ⟨[], t1.map ddp, [], _, _, _, _, _, _, rfl, rfl, rfl, Nat.le_refl _, by simp, rfl, rfl⟩ ?_ ?_
        · rintro _ r _ _ ⟨f1, f2, kp, v2, v4, v5, v6, v7, v8, e1, ef, ek, lk, lkp, rfl, rfl⟩ ih
          cases f2 with
          | nil => cases e1
          | cons rows f2 =>
          cases e1
          have lt : f1.length + f2.length < 5000 := by have := congrArg List.length ef; simp at this; omega
          walk_at "s"
          have eo : cutD (((t1.map ddp)).map (rwsD C_Row C_Scales ps)) (some ((f1.length : Int) + 1)) none = f2.map (rwsD C_Row C_Scales ps) := by
            rw [cut_from (i := f1.length + 1) (by omega), ← List.map_drop, ← ef, show f1 ++ rows :: f2 = (f1 ++ [rows]) ++ f2 by simp, List.drop_append_of_le_length (by simp), List.drop_of_length_le (by simp), List.nil_append]
          rw [eo, List.append_nil, ← List.map_append]
          refine ⟨le_line2 (by simp; omega), ?_⟩
          walk_at "s"
          have lrows : rows.length ≤ 5000 := by
            have h1 : rows ∈ t1.map ddp := by rw [← ef]; simp
            obtain ⟨z, hz, rfl⟩ := List.mem_map.mp h1
            have h2 := l2 z hz
            have h3 := ddp_len z
            omega
          have lall : ∀ o ∈ kp ++ f2, o.length ≤ 5000 := fun o ho => by
            rcases List.mem_append.mp ho with ho | ho
            · exact lkp o ho
            · have h1 : o ∈ t1.map ddp := by rw [← ef]; simp [ho]
              obtain ⟨z, hz, rfl⟩ := List.mem_map.mp h1
              have h2 := l2 z hz
              have h3 := ddp_len z
              omega
          refine dLcL_indC (fun r acc => ∃ o1 o2, o1 ++ o2 = kp ++ f2 ∧ r = o2.map (rwsD C_Row C_Scales ps) ∧ acc = o1.map (fun o => .bl (o.all fun r => decide (r ∈ rows)))) ⟨[], kp ++ f2, rfl, rfl, rfl⟩ ?_ ?_
          · rintro _ r _ ⟨o1, o2, eo2, e2, rfl⟩ ih2
            cases o2 with
            | nil => cases e2
            | cons o o2 =>
            cases e2
            have lo : o1.length < 10000 := by have := congrArg List.length eo2; simp at this; omega
            walk_at "s"
            refine dLcL_indC (fun r acc => ∃ s1 s2, s1 ++ s2 = o ∧ r = s2.map (rowD C_Row C_Scales ps) ∧ acc = s1.map (fun r => .bl (decide (r ∈ rows)))) ⟨[], o, rfl, rfl, rfl⟩ ?_ ?_
            · rintro _ r _ ⟨s1, s2, es, e3, rfl⟩ ih3
              cases s2 with
              | nil => cases e3
              | cons x s2 =>
              cases e3
              walk_at "s"
              refine ⟨fun d hd => (by obtain ⟨r', _, rfl⟩ := List.mem_map.mp hd; exact ⟨rfl, lk_row⟩), inRow (fun qs R' k' => (by
                refine ⟨ps, qs, rfl, .inl ⟨ps, x, rfl, ?_⟩⟩
                rw [decide_eq_decide.mpr (show (ps = ps ∧ qs = x) ↔ qs = x from ⟨fun z => z.2, fun z => ⟨rfl, z⟩⟩)]
                exact k')) ?_⟩
              have ls : s1.length < 5000 := by
                have h1 : o ∈ kp ++ f2 := by rw [← eo2]; simp
                have h2 := lall o h1
                have h3 := congrArg List.length es
                simp at h3
                omega
              walk_at "s"
              refine ⟨lt_line (by simp; omega), ?_⟩
              exact ih3 _ ⟨s1 ++ [x], s2, by rw [← es]; simp, rfl, by rw [List.map_append]; rfl⟩
            · rintro _ ⟨s1, s2, es, e3, rfl⟩
              cases s2 with
              | cons x s2 => cases e3
              | nil =>
              rw [List.append_nil] at es
              subst es
              walk_at "s"
              refine ⟨_, bools_map _ _, ?_⟩
              walk_at "s"
              refine ⟨lt_line (by simp; omega), ?_⟩
              refine ih2 _ ⟨o1 ++ [s1], o2, by rw [← eo2]; simp, rfl, ?_⟩
              rw [List.map_append]
              show _ ++ [D.bl ((s1.map fun r => decide (r ∈ rows)).all id)] = _
              rw [List.all_map]
              rfl
          · rintro _ ⟨o1, o2, eo2, e2, rfl⟩
            cases o2 with
            | cons o o2 => cases e2
            | nil =>
            rw [List.append_nil] at eo2
            subst eo2
            walk_at "s"
            refine ⟨_, bools_map _ _, ?_⟩
            walk_at "s"
            have eany : ((kp ++ f2).map fun o => o.all fun r => decide (r ∈ rows)).any id = (kp ++ f2).any fun o => o.all fun r => decide (r ∈ rows) := by
              rw [List.any_map]
              rfl
            show dIte (!(((kp ++ f2).map fun o => o.all fun r => decide (r ∈ rows)).any id)) _ _
            rw [eany]
            rw [kpt.eq_2] at ek
            cases eb : (kp ++ f2).any fun o => o.all fun r => decide (r ∈ rows) with
            | true =>
              rw [eb, if_pos rfl] at ek
              walk_at "s"
              exact ih _ _ ⟨f1 ++ [rows], f2, kp, _, _, _, _, _, _, by rw [List.length_append]; rfl, by rw [← ef]; simp, ek, by simp; omega, lkp, rfl, rfl⟩
            | false =>
              rw [eb, if_neg (by decide)] at ek
              walk_at "s"
              refine ⟨lt_line (by simp; omega), ?_⟩
              walk_at "s"
              refine ih _ _ ⟨f1 ++ [rows], f2, kp ++ [rows], _, _, _, _, _, _, by rw [List.length_append]; rfl, by rw [← ef]; simp, ek, by simp; omega, fun o ho => (by rw [List.mem_append, List.mem_singleton] at ho; rcases ho with ho | rfl; exact lkp o ho; exact lrows), rfl, ?_⟩
              rw [updM_updM, List.map_append]
              rfl
        · rintro _ _ ⟨f1, f2, kp, v2, v4, v5, v6, v7, v8, e1, ef, ek, lk, lkp, rfl, rfl⟩
          cases f2 with
          | cons rows f2 => cases e1
          | nil =>
          walk_at "s"
          have e2 : kp = kpt [] (t1.map ddp) := ek
          subst e2
          rw [delM_updM hp2]
          exact ⟨M, sb, k⟩
end
end RS

set_option maxRecDepth 100000
set_option maxHeartbeats 4000000
namespace RS
open PySem PySem.Spec PyProof.Rows L2 NdefX He PySem.W LamX
variable [Tbls]
section
variable {P : Program} {w : World} {K : PySem.W.Frag} {mg : Str → Option Value} {base : Heap} {C_BadClaim C_BadFact C_BadKind C_BadName C_Book C_Form C_NoScale C_OtherScales C_Row C_ScaleError C_Scales C_TwiceNamed a_KINDS a_RELATIONS : Addr}
abbrev s_Form___init__ : Stmt := inClass (top 14) 0
theorem sc_Form___init__ : FnScope ["self", "scales", "highs", "lows"] ["self", "scales", "highs", "lows"] (defScope s_Form___init__) := ⟨rfl, rfl, rfl, by decide +kernel, rfl, by decide +kernel, by decide +kernel⟩
def sp_Form___init__ (C_Form : Addr) : SpD := fun ds M R W => match ds with
  | [s, t, h1, l1] => ∃ (p : Addr) (xs ys : List D), s = .ref p ∧ h1 = .lst xs ∧ l1 = .lst ys ∧ M p = some (.ins C_Form []) ∧ R .non (updM M p (.ins C_Form [("scales", t), ("highs", .tup xs), ("lows", .tup ys)]))
  | _ => False
theorem ok_Form___init__ {f : Addr} {fd : FuncData} (F : FnP K "__init__" "Form.__init__" s_Form___init__ f fd) (T : Fx K mg C_BadClaim C_BadFact C_BadKind C_BadName C_Book C_Form C_NoScale C_OtherScales C_Row C_ScaleError C_Scales C_TwiceNamed a_KINDS a_RELATIONS) :
    FnOk P w K mg base (L2.CX P w) 1 f fd ["self", "scales", "highs", "lows"] (upSp K (sp_Form___init__ C_Form)) := by
  refine okD (k := 0) F sc_Form___init__ (fun ds M R W h => ?_) (fun cdv A outer s H E hr hx tk => ⟨_, (dss_cons (ds_fld (K := K) rfl "scales" 0 (de_v 0) (de_v 1))
      (dss_cons (ds_fld (K := K) rfl "highs" 1 (de_v 0) (de_bt call_tuple_of rc_tuple T.b_tuple (by decide +kernel) (da_cons (de_v 2) da_nil)))
      (dss_one (ds_fld (K := K) rfl "lows" 2 (de_v 0) (de_bt call_tuple_of rc_tuple T.b_tuple (by decide +kernel) (da_cons (de_v 3) da_nil)))))), fun ds M R W h => ?_⟩)
  · match ds, h with | [_, _, _, _], _ => rfl
  · match ds, h with
    | [s, t, h1, l1], h =>
      obtain ⟨p, xs, ys, rfl, rfl, rfl, hp, k⟩ := h
      have a1 := T.at_Form_scales
      have a2 := T.at_Form_highs
      have a3 := T.at_Form_lows
      walk_at "w"
      rw [hp]
      walk_at "s"
      rw [updM_updM, updM_updM]
      exact ⟨_, SubM.refl _, k⟩
/-- a formula -/
def formD (Cf C Cs : Addr) (ps : PL) (hs ls : List (List SL)) : D := .ins Cf [("scales", scD Cs ps), ("highs", .tup (hs.map (rwsD C Cs ps))), ("lows", .tup (ls.map (rwsD C Cs ps)))]
abbrev s_higher : Stmt := top 21
theorem sc_higher : FnScope ["one", "other", "pairs"] ["one", "other"] (defScope s_higher) := ⟨rfl, rfl, rfl, by decide +kernel, rfl, by decide +kernel, by decide +kernel⟩
def sp_higher (C_Form C_Row C_Scales : Addr) : SpD := fun ds M R W => match ds with
  | [s, t] => ∃ (ps : PL) (qs qs2 : SL), s = rowD C_Row C_Scales ps qs ∧ t = rowD C_Row C_Scales ps qs2 ∧ R (formD C_Form C_Row C_Scales ps (kpt [] ([[qs], [qs2]].map ddp)) (kpt [] ([[qs, qs2]].map ddp))) M
  | _ => False
theorem ok_higher {f : Addr} {fd : FuncData} (F : FnP K "higher" "higher" s_higher f fd) (T : Fx K mg C_BadClaim C_BadFact C_BadKind C_BadName C_Book C_Form C_NoScale C_OtherScales C_Row C_ScaleError C_Scales C_TwiceNamed a_KINDS a_RELATIONS) (M_need_like : Cal P w K mg base (L2.CX P w) 5 "need_like" ["one", "other"] [] (upSp K (sp_need_like C_OtherScales C_Row C_Scales))) (M_highs_of : Cal P w K mg base (L2.CX P w) 1 "highs_of" ["value"] [] (upSp K (sp_highs_of C_Row C_Scales))) (M_lows_of : Cal P w K mg base (L2.CX P w) 1 "lows_of" ["value"] [] (upSp K (sp_lows_of C_Row C_Scales))) (M_choices : Cal P w K mg base (L2.CX P w) 1 "choices" ["parts"] [] (upSp K sp_choices)) (M_kept_lists : Cal P w K mg base (L2.CX P w) 9 "kept_lists" ["told"] [] (upSp K (sp_kept_lists C_Row C_Scales))) (M_Form___init__ : Mkr P w K mg base (L2.CX P w) 1 "Form" C_Form ["self", "scales", "highs", "lows"] [] (upSp K (sp_Form___init__ C_Form))) :
    FnOk P w K mg base (L2.CX P w) 10 f fd ["one", "other"] (upSp K (sp_higher C_Form C_Row C_Scales)) := by
  refine okD (k := 9) F sc_higher (fun ds M R W h => ?_) (fun cdv A outer s H E hr hx tk => ⟨_, (dss_cons (ds_expr (de_fn M_need_like Dfl.nil (hr.mono (by decide)) hx (da_cons (de_v 0) (da_cons (de_v 1) da_nil))))
      (dss_cons (ds_set 2 sc_higher.nd (de_fn M_choices Dfl.nil (hr.mono (by decide)) hx (da_cons (de_lst (da_cons (de_fn M_lows_of Dfl.nil (hr.mono (by decide)) hx (da_cons (de_v 0) da_nil)) (da_cons (de_fn M_lows_of Dfl.nil (hr.mono (by decide)) hx (da_cons (de_v 1) da_nil)) da_nil))) da_nil)))
      (dss_one (ds_ret (de_mk M_Form___init__ Dfl.nil (hr.mono (by decide)) hx (da_cons (de_fld (K := K) rfl "scales" 0 (de_v 0)) (da_cons (de_fn M_kept_lists Dfl.nil (hr.mono (by decide)) hx (da_cons (de_lst (da_star (de_fn M_highs_of Dfl.nil (hr.mono (by decide)) hx (da_cons (de_v 0) da_nil)) (da_star (de_fn M_highs_of Dfl.nil (hr.mono (by decide)) hx (da_cons (de_v 1) da_nil)) da_nil))) da_nil)) (da_cons (de_fn M_kept_lists Dfl.nil (hr.mono (by decide)) hx (da_cons (de_v 2) da_nil)) da_nil)))))))), fun ds M R W h => ?_⟩)
  · match ds, h with | [_, _], _ => rfl
  · match ds, h with
    | [s, t], h =>
      obtain ⟨ps, qs, qs2, rfl, rfl, k⟩ := h
      have a1 := T.at_Row_scales
      walk_at "s"
      refine ⟨ps, ps, qs, qs2, rfl, rfl, fun _ => ?_, fun z => absurd rfl z⟩
      walk_at "s"
      refine ⟨ps, qs, rfl, ?_⟩
      walk_at "s"
      refine ⟨ps, qs2, rfl, ?_⟩
      walk_at "s"
      refine ⟨[[[rowD C_Row C_Scales ps qs]], [[rowD C_Row C_Scales ps qs2]]], rfl, ⟨by simp [chStep], by simp [chStep], by simp [chStep], by simp [chStep], trivial⟩, ?_⟩
      walk_at "s"
      refine ⟨ps, qs, rfl, ?_⟩
      walk_at "s"
      refine ⟨ps, qs2, rfl, ?_⟩
      walk_at "s"
      refine ⟨ps, [[qs], [qs2]], rfl, by simp, by simp, ?_⟩
      walk_at "s"
      refine ⟨ps, [[qs, qs2]], rfl, by simp, by simp, ?_⟩
      walk_at "s"
      refine fun p hp => ?_
      walk_at "s"
      refine ⟨p, _, _, rfl, rfl, rfl, updM_same, ?_⟩
      walk_at "s"
      rw [updM_updM, delM_updM hp]
      exact Rt.of k
abbrev s_Row___or__ : Stmt := inClass (top 13) 4
theorem sc_Row___or__ : FnScope ["self", "other"] ["self", "other"] (defScope s_Row___or__) := ⟨rfl, rfl, rfl, by decide +kernel, rfl, by decide +kernel, by decide +kernel⟩
def sp_Row___or__ (C_Form C_Row C_Scales : Addr) : SpD := fun ds M R W => match ds with
  | [s, t] => ∃ (ps : PL) (qs qs2 : SL), s = rowD C_Row C_Scales ps qs ∧ t = rowD C_Row C_Scales ps qs2 ∧ R (formD C_Form C_Row C_Scales ps (kpt [] ([[qs], [qs2]].map ddp)) (kpt [] ([[qs, qs2]].map ddp))) M
  | _ => False
theorem ok_Row___or__ {f : Addr} {fd : FuncData} (F : FnP K "__or__" "Row.__or__" s_Row___or__ f fd) (T : Fx K mg C_BadClaim C_BadFact C_BadKind C_BadName C_Book C_Form C_NoScale C_OtherScales C_Row C_ScaleError C_Scales C_TwiceNamed a_KINDS a_RELATIONS) (M_higher : Cal P w K mg base (L2.CX P w) 10 "higher" ["one", "other"] [] (upSp K (sp_higher C_Form C_Row C_Scales))) :
    FnOk P w K mg base (L2.CX P w) 11 f fd ["self", "other"] (upSp K (sp_Row___or__ C_Form C_Row C_Scales)) := by
  refine okD (k := 10) F sc_Row___or__ (fun ds M R W h => ?_) (fun cdv A outer s H E hr hx tk => ⟨_, (dss_cons (ds_if (dt_not (dt_val (de_isiT (K := K) rfl T.b_isinstance (de_v 1) (de_cls T.g_Row) (de_cls T.g_Form)))) (dss_one ds_never) dss_nil)
      (dss_one (ds_ret (de_fn M_higher Dfl.nil (hr.mono (by decide)) hx (da_cons (de_v 0) (da_cons (de_v 1) da_nil)))))), fun ds M R W h => ?_⟩)
  · match ds, h with | [_, _], _ => rfl
  · match ds, h with
    | [s, t], h =>
      obtain ⟨ps, qs, qs2, rfl, rfl, k⟩ := h
      walk_at "s"
      refine ⟨T.isi_Row, true, T.kk_Row_Row, false, T.kk_Row_Form, ?_⟩
      walk_at "s"
      refine ⟨ps, qs, qs2, rfl, rfl, ?_⟩
      walk_at "s"
      exact Rt.of k
end
end RS

set_option maxRecDepth 100000
set_option maxHeartbeats 4000000
namespace RS
open PySem PySem.Spec PyProof.Rows L2 NdefX He PySem.W LamX
variable [Tbls]
section
variable {P : Program} {w : World} {K : PySem.W.Frag} {mg : Str → Option Value} {base : Heap} {C_BadClaim C_BadFact C_BadKind C_BadName C_Book C_Form C_NoScale C_OtherScales C_Row C_ScaleError C_Scales C_TwiceNamed a_KINDS a_RELATIONS : Addr}
def RELS : List Str := ["<", "<=", "=", ">=", ">"]
def relB : D → Bool
  | .str x => decide (x ∈ RELS)
  | _ => false
abbrev s_is_relation : Stmt := top 27
theorem sc_is_relation : FnScope ["value"] ["value"] (defScope s_is_relation) := ⟨rfl, rfl, rfl, by decide +kernel, rfl, by decide +kernel, by decide +kernel⟩
def sp_is_relation : SpD := fun ds M R W => match ds with
  | [d] => Pln d ∧ R (.bl (relB d)) M
  | _ => False
theorem ok_is_relation {f : Addr} {fd : FuncData} (F : FnP K "is_relation" "is_relation" s_is_relation f fd) (T : Fx K mg C_BadClaim C_BadFact C_BadKind C_BadName C_Book C_Form C_NoScale C_OtherScales C_Row C_ScaleError C_Scales C_TwiceNamed a_KINDS a_RELATIONS) :
    FnOk P w K mg base (L2.CX P w) 1 f fd ["value"] (upSp K sp_is_relation) := by
  refine okD (k := 0) F sc_is_relation (fun ds M R W h => ?_) (fun cdv A outer s H E hr hx tk => ⟨_, (dss_one (ds_ret (de_and (de_bi call_isi rc_isi T.b_isinstance (by decide +kernel) (da_cons (de_v 0) (da_cons (de_ty (n := .str) T.b_str (by decide +kernel)) da_nil))) (de_one (de_cmp (op_inA hr.units) (ro_in false) (de_v 0) (de_con (v := .ref a_RELATIONS) (d := kd_RELATIONS) T.g_RELATIONS rfl T.t_RELATIONS) rfl))))), fun ds M R W h => ?_⟩)
  · match ds, h with | [_], _ => rfl
  · match ds, h with
    | [d], h =>
      obtain ⟨pl, k⟩ := h
      have fin : Rt R (.bl (relB d)) M := Rt.of k
      cases d <;> try exact pl.elim
      case str x =>
        walk_at "s"
        refine ⟨strs_pd RELS, ?_⟩
        walk_at "s"
        show Rt R (.bl (inB (.str x) (RELS.map .str))) M
        rw [in_strs]
        exact fin
      all_goals
        walk_at "s"
        exact fin
/-- what stands where a row should -/
inductive RT where
  | row (ps : PL) (qs : SL) | form (ps : PL) (hs ls : List (List SL)) | pln (d : D)
def RT.d (Cf C Cs : Addr) : RT → D
  | .row ps qs => rowD C Cs ps qs
  | .form ps hs ls => formD Cf C Cs ps hs ls
  | .pln d => d
def RT.ok : RT → Prop
  | .pln d => Pln d
  | _ => True
def RT.good (ps : PL) (fo : Bool) : RT → Bool
  | .row ps' _ => decide (ps' = ps)
  | .form ps' _ _ => fo && decide (ps' = ps)
  | .pln _ => false
/-- what stands where a claim should -/
inductive Thing where
  | cl (one : D) (r : RT) (rel other : D) | no (d : D)
def Thing.d (Cf C Cs : Addr) : Thing → D
  | .cl one r rel other => .tup [one, r.d Cf C Cs, rel, other]
  | .no d => d
def Thing.ok : Thing → Prop
  | .cl one r rel other => Pln one ∧ r.ok ∧ Pln rel ∧ Pln other
  | .no d => Pln d ∧ match d with
    | .tup xs => xs.length ≠ 4
    | _ => True
def inNm (names : List Str) : D → Bool
  | .str x => decide (x ∈ names)
  | _ => false
def Thing.claim (ps : PL) (names : List Str) (fo : Bool) : Thing → Bool
  | .cl one r rel other => inNm names one && inNm names other && relB rel && r.good ps fo
  | .no _ => false
abbrev s_is_claim : Stmt := top 28
theorem sc_is_claim : FnScope ["value", "scales", "values", "formulas", "one", "row", "relation", "other"] ["value", "scales", "values", "formulas"] (defScope s_is_claim) := ⟨rfl, rfl, rfl, by decide +kernel, rfl, by decide +kernel, by decide +kernel⟩
def sp_is_claim (C_Form C_Row C_Scales : Addr) : SpD := fun ds M R W => match ds with
  | [v, s, n, f] => ∃ (t : Thing) (ps : PL) (names : List Str) (fo : Bool), v = t.d C_Form C_Row C_Scales ∧ s = scD C_Scales ps ∧ n = .tup (names.map .str) ∧ f = .bl fo ∧ t.ok ∧ R (.bl (t.claim ps names fo)) M
  | _ => False
theorem ok_is_claim {f : Addr} {fd : FuncData} (F : FnP K "is_claim" "is_claim" s_is_claim f fd) (T : Fx K mg C_BadClaim C_BadFact C_BadKind C_BadName C_Book C_Form C_NoScale C_OtherScales C_Row C_ScaleError C_Scales C_TwiceNamed a_KINDS a_RELATIONS) (M_Scales___eq__ : Mtd P w K mg base (L2.CX P w) 1 C_Scales "__eq__" ["self", "other"] [] (upSp K (sp_Scales___eq__ C_Scales))) (M_is_relation : Cal P w K mg base (L2.CX P w) 1 "is_relation" ["value"] [] (upSp K sp_is_relation)) :
    FnOk P w K mg base (L2.CX P w) 5 f fd ["value", "scales", "values", "formulas"] (upSp K (sp_is_claim C_Form C_Row C_Scales)) := by
  refine okD (k := 4) F sc_is_claim (fun ds M R W h => ?_) (fun cdv A outer s H E hr hx tk => ⟨_, (dss_cons (ds_if (DW.t (dw_or (dt_not (dt_val (de_bi call_isi rc_isi T.b_isinstance (by decide +kernel) (da_cons (de_v 0) (da_cons (de_ty (n := .tuple) T.b_tuple (by decide +kernel)) da_nil))))) (dw_or1 (dt_cmp (op_neA hr.units) ro_neA (de_bi call_len rc_len T.b_len PySem.boot_len (da_cons (de_v 0) da_nil)) de_int (nomark _))))) (dss_one (ds_ret de_bl)) dss_nil)
      (dss_cons (ds_asg (de_v 0) (dg_tup (K := K) (n := 4) rfl (by rfl) (dgs_cons (dg_name 4 sc_is_claim.nd) (dgs_cons (dg_name 5 sc_is_claim.nd) (dgs_cons (dg_name 6 sc_is_claim.nd) (dgs_cons (dg_name 7 sc_is_claim.nd) dgs_nil))))))
      (dss_cons (ds_if (DW.t (dw_and (dt_not (dt_val (de_bi call_isi rc_isi T.b_isinstance (by decide +kernel) (da_cons (de_v 5) (da_cons (de_cls T.g_Row) da_nil))))) (dw_and1 (dt_not (DW.t (dw_and (dt_tru (de_v 3)) (dw_and1 (dt_val (de_bi call_isi rc_isi T.b_isinstance (by decide +kernel) (da_cons (de_v 5) (da_cons (de_cls T.g_Form) da_nil))))))))))) (dss_one (ds_ret de_bl)) dss_nil)
      (dss_cons (ds_if (DW.t (dw_or (dt_not (dt_val (de_bi call_isi rc_isi T.b_isinstance (by decide +kernel) (da_cons (de_v 4) (da_cons (de_ty (n := .str) T.b_str (by decide +kernel)) da_nil))))) (dw_or (dt_not (dt_val (de_bi call_isi rc_isi T.b_isinstance (by decide +kernel) (da_cons (de_v 7) (da_cons (de_ty (n := .str) T.b_str (by decide +kernel)) da_nil))))) (dw_or1 (dt_not (dt_tru (de_fn M_is_relation Dfl.nil (hr.mono (by decide)) hx (da_cons (de_v 6) da_nil)))))))) (dss_one (ds_ret de_bl)) dss_nil)
      (dss_one (ds_ret (de_and (de_cmp (op_inA hr.units) (ro_in false) (de_v 4) (de_v 2) rfl) (de_and (de_cmp (op_inA hr.units) (ro_in false) (de_v 7) (de_v 2) rfl) (de_one (de_cmpX EL.none (op_eqOwn M_Scales___eq__ (hr.mono (by decide)) passL) rox_eq (de_fld (K := K) rfl "scales" 0 (de_v 5)) (de_v 1) (nomark _))))))))))), fun ds M R W h => ?_⟩)
  · match ds, h with | [_, _, _, _], _ => rfl
  · match ds, h with
    | [v, s, n, f], h =>
      obtain ⟨t, ps, names, fo, rfl, rfl, rfl, rfl, ok, k⟩ := h
      have a1 := T.at_Row_scales
      have a2 := T.at_Form_scales
      have fin : Rt R (.bl (t.claim ps names fo)) M := Rt.of k
      cases t with
      | no d =>
        obtain ⟨pl, o2⟩ := ok
        cases d <;> try exact pl.elim
        case tup xs =>
          walk_at "s"
          show dIte (!decide ((xs.length : Int) = 4)) _ _
          refine dIte_nd (fun h1 => ?_) (fun h1 => absurd (by omega) o2)
          walk_at "s"
          exact fin
        all_goals
          walk_at "s"
          exact fin
      | cl one r rel other =>
        obtain ⟨p1, p2, p3, p4⟩ := ok
        have ret : Thing.claim ps names fo (.cl one r rel other) = false → Rt R (.bl false) M := fun e => by rw [← e]; exact fin
        cases r with
        | row ps' qs =>
          walk_at "s"
          refine ⟨T.isi_Row, true, T.kk_Row_Row, ?_⟩
          walk_at "s"
          cases one <;> try exact p1.elim
          case str x =>
            cases other <;> try exact p4.elim
            case str y =>
              walk_at "s"
              cases hrel : relB rel with
              | false =>
                walk_at "s"
                exact ret (by simp [Thing.claim, hrel])
              | true =>
                walk_at "s"
                refine ⟨strs_pd names, ?_⟩
                walk_at "s"
                show dIte (inB (.str x) (names.map .str)) _ _
                rw [in_strs]
                refine dIte_d (c := x ∈ names) (fun h1 => ?_) (fun h1 => ?_)
                · walk_at "s"
                  refine ⟨strs_pd names, ?_⟩
                  walk_at "s"
                  show dIte (inB (.str y) (names.map .str)) _ _
                  rw [in_strs]
                  refine dIte_d (c := y ∈ names) (fun h2 => ?_) (fun h2 => ?_)
                  · walk_at "s"
                    refine ⟨T.isi_Scales, T.nf_Scales, ps', ps, rfl, rfl, ?_⟩
                    walk_at "s"
                    have e : Thing.claim ps names fo (.cl (.str x) (.row ps' qs) rel (.str y)) = decide (ps' = ps) := by simp [Thing.claim, inNm, hrel, h1, h2, RT.good]
                    rw [← e]
                    exact fin
                  · walk_at "s"
                    exact ret (by simp [Thing.claim, inNm, h2])
                · walk_at "s"
                  exact ret (by simp [Thing.claim, inNm, h1])
            all_goals
              walk_at "s"
              exact ret (by simp [Thing.claim, inNm])
          all_goals
            walk_at "s"
            exact ret (by simp [Thing.claim, inNm])
        | form ps' hs ls =>
          walk_at "s"
          refine ⟨T.isi_Form, false, T.kk_Form_Row, ?_⟩
          cases fo with
          | false =>
            walk_at "s"
            exact ret (by simp [Thing.claim, RT.good])
          | true =>
            walk_at "s"
            refine ⟨T.isi_Form, true, T.kk_Form_Form, ?_⟩
            walk_at "s"
            cases one <;> try exact p1.elim
            case str x =>
              cases other <;> try exact p4.elim
              case str y =>
                walk_at "s"
                cases hrel : relB rel with
                | false =>
                  walk_at "s"
                  exact ret (by simp [Thing.claim, hrel])
                | true =>
                  walk_at "s"
                  refine ⟨strs_pd names, ?_⟩
                  walk_at "s"
                  show dIte (inB (.str x) (names.map .str)) _ _
                  rw [in_strs]
                  refine dIte_d (c := x ∈ names) (fun h1 => ?_) (fun h1 => ?_)
                  · walk_at "s"
                    refine ⟨strs_pd names, ?_⟩
                    walk_at "s"
                    show dIte (inB (.str y) (names.map .str)) _ _
                    rw [in_strs]
                    refine dIte_d (c := y ∈ names) (fun h2 => ?_) (fun h2 => ?_)
                    · walk_at "s"
                      refine ⟨T.isi_Scales, T.nf_Scales, ps', ps, rfl, rfl, ?_⟩
                      walk_at "s"
                      have e : Thing.claim ps names true (.cl (.str x) (.form ps' hs ls) rel (.str y)) = decide (ps' = ps) := by simp [Thing.claim, inNm, hrel, h1, h2, RT.good]
                      rw [← e]
                      exact fin
                    · walk_at "s"
                      exact ret (by simp [Thing.claim, inNm, h2])
                  · walk_at "s"
                    exact ret (by simp [Thing.claim, inNm, h1])
              all_goals
                walk_at "s"
                exact ret (by simp [Thing.claim, inNm])
            all_goals
              walk_at "s"
              exact ret (by simp [Thing.claim, inNm])
        | pln d =>
          have p2' : Pln d := p2
          have rt := ret (by simp [Thing.claim, RT.good])
          cases d <;> try exact p2'.elim
          all_goals
            walk_at "s"
            refine ⟨false, T.ka_Row _, ?_⟩
            cases fo with
            | false =>
              walk_at "s"
              exact rt
            | true =>
              walk_at "s"
              refine ⟨false, T.ka_Form _, ?_⟩
              walk_at "s"
              exact rt
end
end RS

set_option maxRecDepth 100000
set_option maxHeartbeats 4000000
namespace RS
open PySem PySem.Spec PyProof.Rows L2 NdefX He PySem.W LamX
variable [Tbls]
section
variable {P : Program} {w : World} {K : PySem.W.Frag} {mg : Str → Option Value} {base : Heap} {C_BadClaim C_BadFact C_BadKind C_BadName C_Book C_Form C_NoScale C_OtherScales C_Row C_ScaleError C_Scales C_TwiceNamed a_KINDS a_RELATIONS : Addr}
/-! ### books -/
inductive BkE where
  | name (x : D) | twice (x : D) | fact (k : Nat)
def nameScan : List Str → List D → Except BkE (List Str)
  | done, [] => .ok done
  | done, .str y :: xs => if nameB y = true then (if y ∈ done then .error (.twice (.str y)) else nameScan (done ++ [y]) xs) else .error (.name (.str y))
  | _, x :: _ => .error (.name x)
def factScan (ps : PL) (names : List Str) : Nat → List Thing → Except BkE Unit
  | _, [] => .ok ()
  | k, t :: ts => if t.claim ps names false = true then factScan ps names (k + 1) ts else .error (.fact k)
def bookS (ps : PL) (xs : List D) (ts : List Thing) : Except BkE (List Str) := match nameScan [] xs with
  | .error e => .error e
  | .ok names => match factScan ps names 0 ts with
    | .error e => .error e
    | .ok _ => .ok names
def bkM (Cb Cf C Cs : Addr) (ps : PL) (xs : List D) (ts : List Thing) : MO := .ins Cb [("scales", scD Cs ps), ("names", .tup xs), ("facts", .tup (ts.map (Thing.d Cf C Cs)))]
theorem nameScan_ok : ∀ {xs : List D} {done names : List Str}, nameScan done xs = .ok names → done.map D.str ++ xs = names.map D.str
  | [], done, names, h => by
    injection h with h
    rw [h, List.append_nil]
  | x :: xs, done, names, h => by
    cases x <;> try (cases h; done)
    rename_i y
    unfold nameScan at h
    split at h
    · split at h
      · cases h
      · have := nameScan_ok h
        rw [List.map_append, List.append_assoc] at this
        exact this
    · cases h
theorem vw_keep {M : MS} {p C : Addr} {fs : List (Str × D)} {n : D} {xs : List D} {m : MO} (hp : M p = some (.ins C fs)) (h : vw M n = .lst xs ∨ vw M n = .tup xs) : vw (updM M p m) n = vw M n := by
  cases n <;> try rfl
  rename_i q
  by_cases e : q = p
  · subst e
    rw [vw_at hp] at h
    rcases h with h | h <;> cases h
  · exact vw_ne e
abbrev s_Book___init__ : Stmt := inClass (top 70) 0
theorem sc_Book___init__ : FnScope ["self", "scales", "values", "facts", "at", "name", "fact"] ["self", "scales", "values", "facts"] (defScope s_Book___init__) := ⟨rfl, rfl, rfl, by decide +kernel, rfl, by decide +kernel, by decide +kernel⟩
def sp_Book___init__ (C_BadFact C_BadName C_Book C_Form C_Row C_Scales C_TwiceNamed : Addr) : SpD := fun ds M R W => match ds with
  | [s, t, n, f1] => ∃ (p : Addr) (ps : PL) (xs : List D) (ts : List Thing), s = .ref p ∧ t = scD C_Scales ps ∧ M p = some (.ins C_Book []) ∧ (vw M n = .lst xs ∨ vw M n = .tup xs) ∧ (vw M f1 = .lst (ts.map (Thing.d C_Form C_Row C_Scales)) ∨ vw M f1 = .tup (ts.map (Thing.d C_Form C_Row C_Scales))) ∧ (∀ x ∈ xs, Pln x) ∧ (∀ t ∈ ts, t.ok) ∧ xs.length ≤ 1000 ∧ ts.length ≤ 1000 ∧
    (match bookS ps xs ts with
    | .ok names => R .non (updM M p (bkM C_Book C_Form C_Row C_Scales ps xs ts))
    | .error (.name x) => W C_BadName [("name", x)] (updM M p (bkM C_Book C_Form C_Row C_Scales ps xs ts))
    | .error (.twice x) => W C_TwiceNamed [("name", x)] (updM M p (bkM C_Book C_Form C_Row C_Scales ps xs ts))
    | .error (.fact k) => W C_BadFact [("index", .int k)] (updM M p (bkM C_Book C_Form C_Row C_Scales ps xs ts)))
  | _ => False
theorem ok_Book___init__ {dvs : List V} {f : Addr} {fd : FuncData} (F : FunD K "__init__" "Book.__init__" (defArgs s_Book___init__) (defBody s_Book___init__) (defScope s_Book___init__) dvs [] f fd) (T : Fx K mg C_BadClaim C_BadFact C_BadKind C_BadName C_Book C_Form C_NoScale C_OtherScales C_Row C_ScaleError C_Scales C_TwiceNamed a_KINDS a_RELATIONS) (M_BadFact : Exk P w K mg base "BadFact" C_BadFact ["index"]) (M_BadName : Exk P w K mg base "BadName" C_BadName ["name"]) (M_TwiceNamed : Exk P w K mg base "TwiceNamed" C_TwiceNamed ["name"]) (M_is_name : Cal P w K mg base (L2.CX P w) 1 "is_name" ["value"] [] (upSp K sp_is_name)) (M_is_claim : CalK P w K mg base (L2.CX P w) 5 "is_claim" ["value", "scales", "values", "formulas"] 3 ["formulas"] [] (upSp K (sp_is_claim C_Form C_Row C_Scales))) :
    FnOk P w K mg base (L2.CX P w) 6 f fd ["self", "scales", "values", "facts"] (upSp K (sp_Book___init__ C_BadFact C_BadName C_Book C_Form C_Row C_Scales C_TwiceNamed)) := by
  refine okD (k := 5) F sc_Book___init__ (fun ds M R W h => ?_) (fun cdv A outer s H E hr hx tk => ⟨_, (dss_cons (ds_fld (K := K) rfl "scales" 0 (de_v 0) (de_v 1))
      (dss_cons (ds_fld (K := K) rfl "names" 1 (de_v 0) (de_bt call_tuple_of rc_tuple T.b_tuple (by decide +kernel) (da_cons (de_v 2) da_nil)))
      (dss_cons (ds_fld (K := K) rfl "facts" 2 (de_v 0) (de_bt call_tuple_of rc_tuple T.b_tuple (by decide +kernel) (da_cons (de_v 3) da_nil)))
      (dss_cons (ds_for (passes_of rfl) rfl (di_enumT T.b_enumerate (da_cons (de_fld (K := K) rfl "names" 1 (de_v 0)) da_nil)) (dg_tup (K := K) (n := 2) rfl (by rfl) (dgs_cons (dg_name 4 sc_Book___init__.nd) (dgs_cons (dg_name 5 sc_Book___init__.nd) dgs_nil))) (dss_cons (ds_if (dt_not (dt_tru (de_fn M_is_name Dfl.nil (hr.mono (by decide)) hx (da_cons (de_v 5) da_nil)))) (dss_one (ds_raise rfl tk M_BadName (hr.mono (by decide)) (da_cons (de_v 5) da_nil))) dss_nil)
      (dss_one (ds_if (dt_cmp (op_inA hr.units) (ro_in false) (de_v 5) (de_sl (de_fld (K := K) rfl "names" 1 (de_v 0)) do_none (do_some (de_v 4))) rfl) (dss_one (ds_raise rfl tk M_TwiceNamed (hr.mono (by decide)) (da_cons (de_v 5) da_nil))) dss_nil))))
      (dss_one (ds_for (passes_of rfl) rfl (di_enumT T.b_enumerate (da_cons (de_fld (K := K) rfl "facts" 2 (de_v 0)) da_nil)) (dg_tup (K := K) (n := 2) rfl (by rfl) (dgs_cons (dg_name 4 sc_Book___init__.nd) (dgs_cons (dg_name 6 sc_Book___init__.nd) dgs_nil))) (dss_one (ds_if (dt_not (dt_tru (de_fnK M_is_claim Dfl.nil (hr.mono (by decide)) hx (da_cons (de_v 6) (da_cons (de_v 1) (da_cons (de_fld (K := K) rfl "names" 1 (de_v 0)) da_nil))) (dk_cons de_bl dk_nil)))) (dss_one (ds_raise rfl tk M_BadFact (hr.mono (by decide)) (da_cons (de_v 4) da_nil))) dss_nil)))))))), fun ds M R W h => ?_⟩)
  · match ds, h with | [_, _, _, _], _ => rfl
  · match ds, h with
    | [s, t, n, f1], h =>
      obtain ⟨p, ps, xs, ts, rfl, rfl, hp, hn, hf, pl, ok, l1, l2, k⟩ := h
      have a1 := T.at_Book_scales
      have a2 := T.at_Book_names
      have a3 := T.at_Book_facts
      have en : ∀ m, vw (updM M p m) n = vw M n := fun m => vw_keep hp hn
      have ef : ∀ m, vw (updM M p m) f1 = vw M f1 := fun m => vw_keep hp hf
      walk_at "w"
      rw [hp]
      rcases hn with hn | hn <;> rcases hf with hf | hf
      all_goals
        walk_at "s"
        rw [en, hn]
        walk_at "s"
        rw [updM_updM, ef, hf]
        walk_at "s"
        rw [updM_updM]
        refine dLoop_ind (fun r τ M' => ∃ (done : List Str) (xs2 : List D) (v4 v5 v6 : Option D), r = enumD done.length xs2 ∧ done.map D.str ++ xs2 = xs ∧ nameScan [] xs = nameScan done xs2 ∧ (∀ x ∈ xs2, Pln x) ∧ τ = [some (.ref p), some (scD C_Scales ps), some n, some f1, v4, v5, v6] ∧ M' = updM M p (bkM C_Book C_Form C_Row C_Scales ps xs ts)) ⟨[], xs, _, _, _, rfl, rfl, rfl, pl, rfl, rfl⟩ ?_ ?_
        · rintro _ r _ _ ⟨done, xs2, v4, v5, v6, e1, e2, e3, pl2, rfl, rfl⟩ ih
          cases xs2 with
          | nil => cases e1
          | cons x xs2 =>
          cases e1
          have px := pl2 x (List.mem_cons_self ..)
          have eS : ∀ e, nameScan done (x :: xs2) = .error e → bookS ps xs ts = .error e := fun e h => by
            unfold bookS
            rw [e3, h]
          walk_at "s"
          cases hx : nameD x with
          | false =>
            have e4 : nameScan done (x :: xs2) = .error (.name x) := by
              cases x <;> try rfl
              have h1 : nameB _ = false := hx
              unfold nameScan
              rw [if_neg (by rw [h1]; exact nofun)]
            rw [eS _ e4] at k
            walk_at "s"
            exact Wt.of k
          | true =>
            cases x <;> try (cases hx; done)
            rename_i y
            have h1 : nameB y = true := hx
            walk_at "s"
            have ec : cutD xs none (some (done.length : Int)) = done.map D.str := by
              rw [cut_to rfl, ← e2, List.take_append_of_le_length (by simp), List.take_of_length_le (by simp)]
            rw [ec]
            refine ⟨strs_pd done, ?_⟩
            walk_at "s"
            show dIte (inB (.str y) (done.map .str)) _ _
            rw [in_strs]
            refine dIte_d (c := y ∈ done) (fun h2 => ?_) (fun h2 => ?_)
            · have e4 : nameScan done (.str y :: xs2) = .error (.twice (.str y)) := by
                unfold nameScan
                rw [if_pos h1, if_pos h2]
              rw [eS _ e4] at k
              walk_at "s"
              exact Wt.of k
            · have e4 : nameScan done (.str y :: xs2) = nameScan (done ++ [y]) xs2 := by
                rw [nameScan.eq_2, if_pos h1, if_neg h2]
              walk_at "s"
              exact ih _ _ ⟨done ++ [y], xs2, _, _, _, by rw [List.length_append]; rfl, by rw [← e2, List.map_append, List.append_assoc]; rfl, by rw [e3, e4], fun z hz => pl2 z (List.mem_cons_of_mem _ hz), rfl, rfl⟩
        · rintro _ _ ⟨done, xs2, v4, v5, v6, e1, e2, e3, pl2, rfl, rfl⟩
          cases xs2 with
          | cons x xs2 => cases e1
          | nil =>
          rw [List.append_nil] at e2
          have e4 : nameScan [] xs = .ok done := e3
          walk_at "s"
          refine dLoop_ind (fun r τ M' => ∃ (t1 t2 : List Thing) (v4 v5 v6 : Option D), r = enumD t1.length (t2.map (Thing.d C_Form C_Row C_Scales)) ∧ t1 ++ t2 = ts ∧ factScan ps done 0 ts = factScan ps done t1.length t2 ∧ τ = [some (.ref p), some (scD C_Scales ps), some n, some f1, v4, v5, v6] ∧ M' = updM M p (bkM C_Book C_Form C_Row C_Scales ps xs ts)) ⟨[], ts, _, _, _, rfl, rfl, rfl, rfl, rfl⟩ ?_ ?_
          · rintro _ r _ _ ⟨t1, t2, v4, v5, v6, e5, e6, e7, rfl, rfl⟩ ih
            cases t2 with
            | nil => cases e5
            | cons t t2 =>
            cases e5
            have ot := ok t (by rw [← e6]; simp)
            walk_at "s"
            refine ⟨t, ps, done, false, rfl, rfl, by rw [e2], rfl, ot, ?_⟩
            cases hc : t.claim ps done false with
            | false =>
              have e8 : bookS ps xs ts = .error (.fact t1.length) := by
                unfold bookS
                rw [e4]
                show (match factScan ps done 0 ts with
                  | .error e => Except.error e
                  | .ok _ => .ok done) = _
                rw [e7]
                unfold factScan
                rw [if_neg (by rw [hc]; exact nofun)]
              rw [e8] at k
              walk_at "s"
              exact Wt.of k
            | true =>
              walk_at "s"
              refine ih _ _ ⟨t1 ++ [t], t2, _, _, _, by rw [List.length_append]; rfl, by rw [← e6]; simp, ?_, rfl, rfl⟩
              rw [e7, factScan.eq_2, if_pos hc, List.length_append]
              rfl
          · rintro _ _ ⟨t1, t2, v4, v5, v6, e5, e6, e7, rfl, rfl⟩
            cases t2 with
            | cons t t2 => cases e5
            | nil =>
            walk_at "s"
            have e8 : bookS ps xs ts = .ok done := by
              unfold bookS
              rw [e4]
              show (match factScan ps done 0 ts with
                | .error e => Except.error e
                | .ok _ => .ok done) = _
              rw [e7]
              rfl
            rw [e8] at k
            exact ⟨_, SubM.refl _, k⟩
abbrev s_Book_need_claim : Stmt := inClass (top 70) 2
theorem sc_Book_need_claim : FnScope ["self", "claim", "index", "formulas"] ["self", "claim", "index", "formulas"] (defScope s_Book_need_claim) := ⟨rfl, rfl, rfl, by decide +kernel, rfl, by decide +kernel, by decide +kernel⟩
def sp_Book_need_claim (C_BadClaim C_Book C_Form C_Row C_Scales : Addr) : SpD := fun ds M R W => match ds with
  | [s, v, i, f1] => ∃ (t : Thing) (ps : PL) (names : List Str) (ts : List Thing) (fo : Bool), s = (bkM C_Book C_Form C_Row C_Scales ps (names.map .str) ts).d ∧ v = t.d C_Form C_Row C_Scales ∧ f1 = .bl fo ∧ t.ok ∧ (t.claim ps names fo = true → R .non M) ∧ (t.claim ps names fo = false → W C_BadClaim [("index", i)] M)
  | _ => False
theorem ok_Book_need_claim {dvs : List V} {f : Addr} {fd : FuncData} (F : FunD K "need_claim" "Book.need_claim" (defArgs s_Book_need_claim) (defBody s_Book_need_claim) (defScope s_Book_need_claim) dvs [] f fd) (T : Fx K mg C_BadClaim C_BadFact C_BadKind C_BadName C_Book C_Form C_NoScale C_OtherScales C_Row C_ScaleError C_Scales C_TwiceNamed a_KINDS a_RELATIONS) (M_BadClaim : Exk P w K mg base "BadClaim" C_BadClaim ["index"]) (M_is_claim : CalK P w K mg base (L2.CX P w) 5 "is_claim" ["value", "scales", "values", "formulas"] 3 ["formulas"] [] (upSp K (sp_is_claim C_Form C_Row C_Scales))) :
    FnOk P w K mg base (L2.CX P w) 6 f fd ["self", "claim", "index", "formulas"] (upSp K (sp_Book_need_claim C_BadClaim C_Book C_Form C_Row C_Scales)) := by
  refine okD (k := 5) F sc_Book_need_claim (fun ds M R W h => ?_) (fun cdv A outer s H E hr hx tk => ⟨_, (dss_one (ds_if (dt_not (dt_tru (de_fnK M_is_claim Dfl.nil (hr.mono (by decide)) hx (da_cons (de_v 1) (da_cons (de_fld (K := K) rfl "scales" 0 (de_v 0)) (da_cons (de_fld (K := K) rfl "names" 1 (de_v 0)) da_nil))) (dk_cons (de_v 3) dk_nil)))) (dss_one (ds_raise rfl tk M_BadClaim (hr.mono (by decide)) (da_cons (de_v 2) da_nil))) dss_nil)), fun ds M R W h => ?_⟩)
  · match ds, h with | [_, _, _, _], _ => rfl
  · match ds, h with
    | [s, v, i, f1], h =>
      obtain ⟨t, ps, names, ts, fo, rfl, rfl, rfl, ok, k1, k2⟩ := h
      have a1 := T.at_Book_scales
      have a2 := T.at_Book_names
      walk_at "s"
      refine ⟨t, ps, names, fo, rfl, rfl, rfl, rfl, ok, ?_⟩
      cases hc : t.claim ps names fo with
      | true =>
        walk_at "s"
        exact Rt.of (k1 hc)
      | false =>
        walk_at "s"
        exact Wt.of (k2 hc)
abbrev s_Book_follows : Stmt := inClass (top 70) 4
theorem sc_Book_follows : FnScope ["self", "claim", "claims"] ["self", "claim"] (defScope s_Book_follows) := ⟨rfl, rfl, rfl, by decide +kernel, rfl, by decide +kernel, by decide +kernel⟩
def sp_Book_follows (C_BadClaim C_Book C_Form C_Row C_Scales : Addr) : SpD := fun ds M R W => match ds with
  | [s, v] => ∃ (t : Thing) (ps : PL) (names : List Str) (ts : List Thing), s = (bkM C_Book C_Form C_Row C_Scales ps (names.map .str) ts).d ∧ v = t.d C_Form C_Row C_Scales ∧ t.ok ∧ t.claim ps names true = false ∧ W C_BadClaim [("index", .int 0)] M
  | _ => False
theorem ok_Book_follows {f : Addr} {fd : FuncData} (F : FnP K "follows" "Book.follows" s_Book_follows f fd) (T : Fx K mg C_BadClaim C_BadFact C_BadKind C_BadName C_Book C_Form C_NoScale C_OtherScales C_Row C_ScaleError C_Scales C_TwiceNamed a_KINDS a_RELATIONS) (M_Book_need_claim : MtdK P w K mg base (L2.CX P w) 6 C_Book "need_claim" ["self", "claim", "index", "formulas"] 2 ["formulas"] [.int 0] (upSp K (sp_Book_need_claim C_BadClaim C_Book C_Form C_Row C_Scales))) :
    FnOk P w K mg base (L2.CX P w) 7 f fd ["self", "claim"] (upSp K (sp_Book_follows C_BadClaim C_Book C_Form C_Row C_Scales)) := by
  refine okD (k := 6) F sc_Book_follows (fun ds M R W h => ?_) (fun cdv A outer s H E hr hx tk => ⟨_, (dss_cons (ds_expr (de_mtK T.c_Book M_Book_need_claim (fun _ => .cons (.int 0) (.nil)) (hr.mono (by decide)) hx (de_v 0) (da_cons (de_v 1) da_nil) (dk_cons de_bl dk_nil)))
      (dss_one ds_never)), fun ds M R W h => ?_⟩)
  · match ds, h with | [_, _], _ => rfl
  · match ds, h with
    | [s, v], h =>
      obtain ⟨t, ps, names, ts, rfl, rfl, ok, nc, k⟩ := h
      walk_at "s"
      exact ⟨t, ps, names, ts, true, rfl, rfl, rfl, ok, fun z => (by rw [nc] at z; cases z), fun _ => Wt.of k⟩
end
end RS

set_option maxRecDepth 100000
set_option maxHeartbeats 4000000
namespace RS
open PySem PySem.Spec PyProof.Rows L2 NdefX He PySem.W LamX
variable [Tbls]
section
variable {P : Program} {w : World} {K : PySem.W.Frag} {mg : Str → Option Value} {base : Heap} {C_BadClaim C_BadFact C_BadKind C_BadName C_Book C_Form C_NoScale C_OtherScales C_Row C_ScaleError C_Scales C_TwiceNamed a_KINDS a_RELATIONS : Addr}
abbrev s__law_ident : Stmt := top 81
theorem sc__law_ident : FnScope ["_law_bag_here", "_law_k", "_law_letters", "_law_text"] ["_law_bag_here", "_law_k"] (defScope s__law_ident) := ⟨rfl, rfl, rfl, by decide +kernel, rfl, by decide +kernel, by decide +kernel⟩
def sp__law_ident : SpD := fun ds M R W => match ds with
  | [g, k] => ∃ (p : Addr) (m : MO) (i b : Nat), g = .ref p ∧ k = .int i ∧ i < 10 ∧ M p = some m ∧ BagM m (b + 4) ∧ ∀ x m2, IdentP i x → BagM m2 b → R (.str x) (updM M p m2)
  | _ => False
theorem ok__law_ident {f : Addr} {fd : FuncData} (F : FnP K "_law_ident" "_law_ident" s__law_ident f fd) (T : Fx K mg C_BadClaim C_BadFact C_BadKind C_BadName C_Book C_Form C_NoScale C_OtherScales C_Row C_ScaleError C_Scales C_TwiceNamed a_KINDS a_RELATIONS) (M__law_draw : Cal P w K mg base (L2.CX P w) 1 "_law_draw" ["_law_bag_here", "_law_limit"] [] (upSp K spDrawD)) :
    FnOk P w K mg base (L2.CX P w) 2 f fd ["_law_bag_here", "_law_k"] (upSp K sp__law_ident) := by
  refine okD (k := 1) F sc__law_ident (fun ds M R W h => ?_) (fun cdv A outer s H E hr hx tk => ⟨_, (dss_cons (ds_set 2 sc__law_ident.nd de_str)
      (dss_cons (ds_set 3 sc__law_ident.nd (de_ix (de_v 2) (de_fn M__law_draw Dfl.nil (hr.mono (by decide)) hx (da_cons (de_v 0) (da_cons de_int da_nil))) (fun _ _ => rfl)))
      (dss_cut (ds_if (dt_cmp (op_eqA hr.units) ro_eqA (de_fn M__law_draw Dfl.nil (hr.mono (by decide)) hx (da_cons (de_v 0) (da_cons de_int da_nil))) de_int (nomark _)) (dss_one (ds_set 3 sc__law_ident.nd (de_op op_addD ro_add (de_v 3) (de_ix (de_v 2) (de_fn M__law_draw Dfl.nil (hr.mono (by decide)) hx (da_cons (de_v 0) (da_cons de_int da_nil))) (fun _ _ => rfl))))) dss_nil)
      (dss_one (ds_ret (de_op op_addD ro_add (de_v 3) (de_bt call_str_int rc_strI T.b_str (by decide +kernel) (da_cons (de_v 1) da_nil)))))))), fun ds M R W h => ?_⟩)
  · match ds, h with | [_, _], _ => rfl
  · match ds, h with
    | [g, k], h =>
      obtain ⟨p, m, i, b, rfl, rfl, hi, hp, hb, k⟩ := h
      walk_at "s"
      refine ⟨p, m, 26, b + 3, rfl, by decide, log_ok (by decide), hp, hb, fun z m1 z0 z1 b1 => ?_⟩
      obtain ⟨c, hc, lc⟩ := lt_at z0 z1
      walk_at "w"
      refine ⟨le_line2 (by decide +kernel), c, hc, ?_⟩
      walk_at "w"
      refine ⟨fun τ' M' => ∃ (l : List Nat) (m2 : MO), τ' = [some (.ref p), some (.int i), some (.str LT), some (.str ⟨l.toArray⟩)] ∧ M' = updM M p m2 ∧ BagM m2 b ∧ 1 ≤ l.length ∧ l.length ≤ 11 ∧ ∀ c ∈ l, c ∈ LT.cps.toList, ?_, ?_⟩
      · walk_at "s"
        refine ⟨p, m1, 3, b + 2, rfl, by decide, log_ok (by decide), updM_same, b1, fun z m2 _ _ b2 => ?_⟩
        rw [updM_updM]
        walk_at "s"
        refine dIte_d (c := z = 0) (fun h => ?_) (fun h => ?_)
        · walk_at "s"
          refine ⟨p, m2, 26, b + 1, rfl, by decide, log_ok (by decide), updM_same, b2, fun z3 m3 z30 z31 b3 => ?_⟩
          rw [updM_updM]
          obtain ⟨c3, hc3, lc3⟩ := lt_at z30 z31
          walk_at "w"
          refine ⟨le_line2 (by decide +kernel), c3, hc3, ?_⟩
          walk_at "w"
          have e1 : ((⟨#[c]⟩ : Str) ++ ⟨#[c3]⟩) = ⟨[c, c3].toArray⟩ := str_app [c] [c3]
          refine ⟨le_line2 (show 1 + 1 ≤ 16000 by decide), ?_⟩
          rw [e1]
          walk_at "s"
          refine ⟨[c, c3], m3, rfl, rfl, b3.mono (by omega), by simp, by simp, fun y hy => ?_⟩
          simp only [List.mem_cons, List.not_mem_nil, or_false] at hy
          rcases hy with rfl | rfl
          · exact lc
          · exact lc3
        · walk_at "s"
          exact ⟨[c], m2, rfl, rfl, b2.mono (by omega), by simp, by simp, fun y hy => by rw [List.mem_singleton.mp hy]; exact lc⟩
      · rintro _ _ ⟨l, m2, rfl, rfl, b2, l1, l2, l3⟩
        walk_at "s"
        refine ⟨Nat.lt_of_le_of_lt (Nat.log2_le_self _) (by omega), ?_⟩
        walk_at "w"
        rw [str_k i hi]
        have e1 : ((⟨l.toArray⟩ : Str) ++ ⟨#[48 + i]⟩) = ⟨(l ++ [48 + i]).toArray⟩ := str_app l [48 + i]
        refine ⟨le_line2 ?_, ?_⟩
        · show l.toArray.size + 1 ≤ _
          rw [List.size_toArray]
          omega
        · rw [e1]
          walk_at "s"
          exact ⟨_, SubM.refl _, k _ _ ⟨⟨l, rfl, l1, l2, l3⟩⟩ b2⟩
abbrev s__law_scales : Stmt := top 82
theorem sc__law_scales : FnScope ["_law_bag_here", "_law_many", "_law_kinds", "_law_k"] ["_law_bag_here", "_law_many"] (defScope s__law_scales) := ⟨rfl, rfl, rfl, by decide +kernel, rfl, by decide +kernel, by decide +kernel⟩
def sp__law_scales : SpD := fun ds M R W => match ds with
  | [g, k] => ∃ (p : Addr) (m : MO) (i b : Nat), g = .ref p ∧ k = .int i ∧ 1 ≤ i ∧ i < 9 ∧ M p = some m ∧ BagM m (b + 50) ∧ ∀ ps m2, KdP ps → ps.length = i → BagM m2 b → R (.lst (ps.map prD)) (updM M p m2)
  | _ => False
theorem ok__law_scales {f : Addr} {fd : FuncData} (F : FnP K "_law_scales" "_law_scales" s__law_scales f fd) (T : Fx K mg C_BadClaim C_BadFact C_BadKind C_BadName C_Book C_Form C_NoScale C_OtherScales C_Row C_ScaleError C_Scales C_TwiceNamed a_KINDS a_RELATIONS) (M__law_draw : Cal P w K mg base (L2.CX P w) 1 "_law_draw" ["_law_bag_here", "_law_limit"] [] (upSp K spDrawD)) (M__law_ident : Cal P w K mg base (L2.CX P w) 2 "_law_ident" ["_law_bag_here", "_law_k"] [] (upSp K sp__law_ident)) :
    FnOk P w K mg base (L2.CX P w) 3 f fd ["_law_bag_here", "_law_many"] (upSp K sp__law_scales) := by
  refine okD (k := 2) F sc__law_scales (fun ds M R W h => ?_) (fun cdv A outer s H E hr hx tk => ⟨_, (dss_cons (ds_set 2 sc__law_scales.nd (de_lst (da_cons de_str (da_cons de_str (da_cons de_str (da_cons de_str da_nil))))))
      (dss_one (ds_ret (de_lc (own := [("_law_k", 3)]) (by rfl) sc__law_scales.nd (di_rng1 T.b_range (da_cons (de_v 1) da_nil)) (blkOk_by (own := [("_law_k", 3)]) (N := ["_law_bag_here", "_law_many", "_law_kinds", "_law_k"]) (sc := defScope s__law_scales) (by decide +kernel)) (fun _ _ _ _ _ => (dgw_name 3 sc__law_scales.nd)) (fun _ _ _ _ _ => dts_nil) (fun _ _ _ _ _ => (de_tup (da_cons (de_fn M__law_ident Dfl.nil (hr.mono (by decide)) passLS (da_cons (de_v 0) (da_cons (de_v 3) da_nil))) (da_cons (de_ix (de_v 2) (de_fn M__law_draw Dfl.nil (hr.mono (by decide)) passLS (da_cons (de_v 0) (da_cons de_int da_nil))) (fun _ _ => rfl)) da_nil)))))))), fun ds M R W h => ?_⟩)
  · match ds, h with | [_, _], _ => rfl
  · match ds, h with
    | [g, k], h =>
      obtain ⟨p, m, i, b, rfl, rfl, hi, hi2, hp, hb, k⟩ := h
      walk_at "s"
      refine ⟨by omega, by omega, ?_⟩
      have e0 : ((i : Int)).toNat = i := by omega
      rw [e0, rangeD_up]
      walk_at "s"
      refine dLcL_ind (fun r acc M' => ∃ (j n2 : Nat) (done : PL) (m2 : MO), r = upD j n2 ∧ j + n2 = i ∧ done.length = j ∧ acc = done.map prD ∧ M' = updM M p m2 ∧ BagM m2 (b + 5 * n2) ∧ (∀ (i : Nat) (q : Str × Str), done[i]? = some q → IdentP i q.1 ∧ kdS q.2 = true)) ⟨0, i, [], m, rfl, by omega, rfl, rfl, (updM_self hp).symm, hb.mono (by omega), fun _ _ z => by simp at z⟩ ?_ ?_
      · rintro _ r _ _ ⟨j, n2, done, m2, e1, e2, e3, rfl, rfl, b2, gd⟩ ih
        cases n2 with
        | zero => cases e1
        | succ n2 =>
        cases e1
        walk_at "s"
        refine ⟨p, m2, j, b + 5 * n2 + 1, rfl, rfl, by omega, updM_same, b2.mono (by omega), fun x m3 ix b3 => ?_⟩
        rw [updM_updM]
        walk_at "s"
        refine ⟨p, m3, 4, b + 5 * n2, rfl, by decide, log_ok (by decide), updM_same, b3, fun z m4 z0 z1 b4 => ?_⟩
        rw [updM_updM]
        have fin : ∀ s : Str, kdS s = true → dLcL _ _ _ _ _ _ (upD (j + 1) n2) (done.map prD ++ [.tup [.str x, .str s]]) (updM M p m4) := fun s hs =>
          ih _ _ ⟨j + 1, n2, done ++ [(x, s)], m4, rfl, by omega, by rw [List.length_append, e3]; rfl, by rw [List.map_append]; rfl, rfl, b4, fun i q' hq' => by
            by_cases hl : i < done.length
            · rw [List.getElem?_append_left hl] at hq'
              exact gd i q' hq'
            · have h1 := (List.getElem?_eq_some_iff.mp hq').1
              rw [List.length_append, List.length_singleton] at h1
              have h2 : i = done.length := by omega
              subst h2
              rw [List.getElem?_concat_length] at hq'
              cases hq'
              rw [e3]
              exact ⟨ix, hs⟩⟩
        have lt : (done.map prD).length < sizeLine := by rw [List.length_map]; exact lt_line (by omega)
        have cs : z = 0 ∨ z = 1 ∨ z = 2 ∨ z = 3 := by omega
        rcases cs with rfl | rfl | rfl | rfl
        all_goals
          walk_at "s"
          exact fin _ (by decide)
      · rintro _ _ ⟨j, n2, done, m2, e1, e2, e3, rfl, rfl, b2, gd⟩
        cases n2 with
        | succ n2 => cases e1
        | zero =>
        walk_at "s"
        exact ⟨_, SubM.refl _, k _ _ ⟨gd, by omega, by omega⟩ (by omega) (b2.mono (by omega))⟩
abbrev s__law_steps : Stmt := top 83
theorem sc__law_steps : FnScope ["_law_bag_here", "_law_scales_here", "_law_most", "_law_far", "_law_found", "_law_k", "_law_name"] ["_law_bag_here", "_law_scales_here", "_law_most", "_law_far"] (defScope s__law_steps) := ⟨rfl, rfl, rfl, by decide +kernel, rfl, by decide +kernel, by decide +kernel⟩
def sp__law_steps : SpD := fun ds M R W => match ds with
  | [g, d, e1, e2] => ∃ (p : Addr) (m : MO) (ps : PL) (b : Nat), g = .ref p ∧ d = .lst (ps.map prD) ∧ e1 = .int 3 ∧ e2 = .int 9 ∧ 1 ≤ ps.length ∧ ps.length ≤ 100 ∧ M p = some m ∧ BagM m (b + 20) ∧ ∀ (qs : SL) m2, qs.length ≤ 3 → (∀ q ∈ qs, q.1 ∈ ps.map (·.1)) → BagM m2 b → R (.lst (qs.map stD)) (updM M p m2)
  | _ => False
theorem ok__law_steps {f : Addr} {fd : FuncData} (F : FnP K "_law_steps" "_law_steps" s__law_steps f fd) (T : Fx K mg C_BadClaim C_BadFact C_BadKind C_BadName C_Book C_Form C_NoScale C_OtherScales C_Row C_ScaleError C_Scales C_TwiceNamed a_KINDS a_RELATIONS) (M__law_draw : Cal P w K mg base (L2.CX P w) 1 "_law_draw" ["_law_bag_here", "_law_limit"] [] (upSp K spDrawD)) :
    FnOk P w K mg base (L2.CX P w) 2 f fd ["_law_bag_here", "_law_scales_here", "_law_most", "_law_far"] (upSp K sp__law_steps) := by
  refine okD (k := 1) F sc__law_steps (fun ds M R W h => ?_) (fun cdv A outer s H E hr hx tk => ⟨_, (dss_cons (ds_set 4 sc__law_steps.nd (de_lstM da_nil))
      (dss_cons (ds_for (passes_of rfl) rfl (di_rng1 T.b_range (da_cons (de_fn M__law_draw Dfl.nil (hr.mono (by decide)) hx (da_cons (de_v 0) (da_cons (de_op op_addD ro_add (de_v 2) de_int) da_nil))) da_nil)) (dg_name 5 sc__law_steps.nd) (dss_cons (ds_set 6 sc__law_steps.nd (de_ix (de_ix (de_v 1) (de_fn M__law_draw Dfl.nil (hr.mono (by decide)) hx (da_cons (de_v 0) (da_cons (de_bi call_len rc_len T.b_len PySem.boot_len (da_cons (de_v 1) da_nil)) da_nil))) (fun _ _ => rfl)) de_int (fun _ _ => rfl)))
      (dss_one (ds_expr (de_bm PySem.F.slot_list_append PySem.F.type_list_append mt_append rm_append (de_v 4) (da_cons (de_tup (da_cons (de_v 6) (da_cons (de_op op_sub ro_i0 (de_fn M__law_draw Dfl.nil (hr.mono (by decide)) hx (da_cons (de_v 0) (da_cons (de_op op_addD ro_add (de_op op_mulD ro_mul de_int (de_v 3)) de_int) da_nil))) (de_v 3)) da_nil))) da_nil))))))
      (dss_one (ds_ret (de_f 4))))), fun ds M R W h => ?_⟩)
  · match ds, h with | [_, _, _, _], _ => rfl
  · match ds, h with
    | [g, d, e1, e2], h =>
      obtain ⟨p, m, ps, b, rfl, rfl, rfl, rfl, hps, hps2, hp, hb, k⟩ := h
      walk_at "s"
      refine fun q hq => ?_
      have pq : q ≠ p := by rintro rfl; rw [hp] at hq; cases hq
      walk_at "s"
      refine ⟨p, m, 4, b + 19, rfl, by decide, log_ok (by decide), by rw [updM_ne pq.symm]; exact hp, hb, fun z m1 z0 z1 b1 => ?_⟩
      rw [updM_comm pq]
      obtain ⟨n, rfl⟩ : ∃ n : Nat, z = (n : Int) := ⟨z.toNat, by omega⟩
      walk_at "s"
      refine ⟨by omega, by omega, ?_⟩
      have e0 : ((n : Int).toNat) = n := by omega
      rw [e0, rangeD_up]
      walk_at "s"
      refine dLoop_ind (fun r τ M' => ∃ (j n2 : Nat) (done : SL) (m2 : MO) (v5 v6 : Option D), r = upD j n2 ∧ j + n2 = n ∧ done.length = j ∧ τ = [some (.ref p), some (.lst (ps.map prD)), some (.int 3), some (.int 9), some (.ref q), v5, v6] ∧ M' = updM (updM M p m2) q (.lst (done.map stD)) ∧ BagM m2 (b + 4 * n2) ∧ (∀ q ∈ done, q.1 ∈ ps.map (·.1))) ⟨0, n, [], m1, _, _, rfl, by omega, rfl, rfl, rfl, b1.mono (by omega), fun _ z => (nomatch z)⟩ ?_ ?_
      · rintro _ r _ _ ⟨j, n2, done, m2, v5, v6, e1, e2, e3, rfl, rfl, b2, gd⟩ ih
        cases n2 with
        | zero => cases e1
        | succ n2 =>
        cases e1
        walk_at "s"
        refine ⟨p, m2, ((ps.map prD).length : Int), b + 4 * n2 + 3, rfl, by rw [List.length_map]; omega, log_ok (by rw [List.length_map]; omega), updM_at pq, b2.mono (by omega), fun z m3 z0 z1 b3 => ?_⟩
        rw [updM_swap pq]
        rw [List.length_map] at z1
        obtain ⟨r, hr, er⟩ := atD_mapZ (f := prD) z0 z1
        walk_at "w"
        rw [er]
        walk_at "s"
        refine ⟨CMul.ok (.inl (by decide)), ?_⟩
        walk_at "s"
        refine ⟨p, m3, 19, b + 4 * n2, rfl, by decide, log_ok (by decide), updM_at pq, b3.mono (by omega), fun x m4 x0 x1 b4 => ?_⟩
        rw [updM_swap pq]
        have lt : (done.map stD).length < sizeLine := by rw [List.length_map]; exact lt_line (by omega)
        walk_at "s"
        rw [updM_updM]
        refine ih _ _ ⟨j + 1, n2, done ++ [(r.1, x - 9)], m4, _, _, rfl, by omega, by rw [List.length_append, e3]; rfl, rfl, by rw [List.map_append]; rfl, b4, fun q hq => ?_⟩
        rcases List.mem_append.mp hq with hq | hq
        · exact gd q hq
        · rw [List.mem_singleton.mp hq]
          exact List.mem_map.mpr ⟨r, hr, rfl⟩
      · rintro _ _ ⟨j, n2, done, m2, v5, v6, e1, e2, e3, rfl, rfl, b2, gd⟩
        cases n2 with
        | succ n2 => cases e1
        | zero =>
        walk_at "s"
        rw [delM_updM (by rw [updM_ne pq]; exact hq)]
        exact ⟨_, SubM.refl _, k _ _ (by omega) gd (b2.mono (by omega))⟩
abbrev s__law_relation : Stmt := top 84
theorem sc__law_relation : FnScope ["_law_bag_here"] ["_law_bag_here"] (defScope s__law_relation) := ⟨rfl, rfl, rfl, by decide +kernel, rfl, by decide +kernel, by decide +kernel⟩
def sp__law_relation : SpD := fun ds M R W => match ds with
  | [g] => ∃ (p : Addr) (m : MO) (b : Nat), g = .ref p ∧ M p = some m ∧ BagM m (b + 1) ∧ ∀ (r : Str) m2, r ∈ RELS → BagM m2 b → R (.str r) (updM M p m2)
  | _ => False
theorem ok__law_relation {f : Addr} {fd : FuncData} (F : FnP K "_law_relation" "_law_relation" s__law_relation f fd) (T : Fx K mg C_BadClaim C_BadFact C_BadKind C_BadName C_Book C_Form C_NoScale C_OtherScales C_Row C_ScaleError C_Scales C_TwiceNamed a_KINDS a_RELATIONS) (M__law_draw : Cal P w K mg base (L2.CX P w) 1 "_law_draw" ["_law_bag_here", "_law_limit"] [] (upSp K spDrawD)) :
    FnOk P w K mg base (L2.CX P w) 2 f fd ["_law_bag_here"] (upSp K sp__law_relation) := by
  refine okD (k := 1) F sc__law_relation (fun ds M R W h => ?_) (fun cdv A outer s H E hr hx tk => ⟨_, (dss_one (ds_ret (de_ix (de_lst (da_cons de_str (da_cons de_str (da_cons de_str (da_cons de_str (da_cons de_str da_nil)))))) (de_fn M__law_draw Dfl.nil (hr.mono (by decide)) hx (da_cons (de_v 0) (da_cons de_int da_nil))) (fun _ _ => rfl)))), fun ds M R W h => ?_⟩)
  · match ds, h with | [_], _ => rfl
  · match ds, h with
    | [g], h =>
      obtain ⟨p, m, b, rfl, hp, hb, k⟩ := h
      walk_at "s"
      refine ⟨p, m, 5, b, rfl, by decide, log_ok (by decide), hp, hb, fun z m1 z0 z1 b1 => ?_⟩
      have cs : z = 0 ∨ z = 1 ∨ z = 2 ∨ z = 3 ∨ z = 4 := by omega
      rcases cs with rfl | rfl | rfl | rfl | rfl
      all_goals
        walk_at "s"
        exact ⟨_, SubM.refl _, k _ _ (by decide) b1⟩
end
end RS

set_option maxRecDepth 100000
set_option maxHeartbeats 4000000
namespace RS
open PySem PySem.Spec PyProof.Rows L2 NdefX He PySem.W LamX
variable [Tbls]
section
variable {P : Program} {w : World} {K : PySem.W.Frag} {mg : Str → Option Value} {base : Heap} {C_BadClaim C_BadFact C_BadKind C_BadName C_Book C_Form C_NoScale C_OtherScales C_Row C_ScaleError C_Scales C_TwiceNamed a_KINDS a_RELATIONS : Addr}
/-- a fact -/
structure Fct where
  one : Str
  row : SL
  rel : Str
  other : Str
def Fct.th (ps : PL) (f : Fct) : Thing := .cl (.str f.one) (.row ps f.row) (.str f.rel) (.str f.other)
def Fct.told (f : Fct) : D := .tup [.str f.one, .tup (f.row.map stD), .str f.rel, .str f.other]
abbrev s__law_tried : Stmt := top 85
theorem sc__law_tried : FnScope ["_law_scales_here", "_law_values", "_law_facts", "e", "_law_told", "_law_made", "_law_one", "_law_row", "_law_relation_here", "_law_other"] ["_law_scales_here", "_law_values", "_law_facts"] (defScope s__law_tried) := ⟨rfl, rfl, rfl, by decide +kernel, rfl, by decide +kernel, by decide +kernel⟩
def sp__law_tried (C_BadFact C_BadName C_Book C_Form C_Row C_Scales C_TwiceNamed : Addr) : SpD := fun ds M R W => match ds with
  | [s, n, f1] => ∃ (ps : PL) (xs : List D) (ts : List Thing), s = scD C_Scales ps ∧ (n = .lst xs ∨ n = .tup xs) ∧ (f1 = .lst (ts.map (Thing.d C_Form C_Row C_Scales)) ∨ f1 = .tup (ts.map (Thing.d C_Form C_Row C_Scales))) ∧ (∀ x ∈ xs, Pln x) ∧ (∀ t ∈ ts, t.ok) ∧ xs.length ≤ 1000 ∧ ts.length ≤ 1000 ∧
    (match bookS ps xs ts with
    | .ok names => ∃ fs : List Fct, ts = fs.map (Fct.th ps) ∧ R (.tup [.str "made", .bl true, .tup xs, .lst (fs.map Fct.told)]) M
    | .error (.name x) => R (.tup [.str "name", x, .bl true, .bl false]) M
    | .error (.twice x) => R (.tup [.str "twice", x, .bl true, .bl false]) M
    | .error (.fact k) => R (.tup [.str "fact", .int k, .bl true, .bl false]) M)
  | _ => False
theorem ok__law_tried {f : Addr} {fd : FuncData} (F : FnP K "_law_tried" "_law_tried" s__law_tried f fd) (T : Fx K mg C_BadClaim C_BadFact C_BadKind C_BadName C_Book C_Form C_NoScale C_OtherScales C_Row C_ScaleError C_Scales C_TwiceNamed a_KINDS a_RELATIONS) (M_BadFact : Exk P w K mg base "BadFact" C_BadFact ["index"]) (M_BadName : Exk P w K mg base "BadName" C_BadName ["name"]) (M_TwiceNamed : Exk P w K mg base "TwiceNamed" C_TwiceNamed ["name"]) (M_Scales___eq__ : Mtd P w K mg base (L2.CX P w) 1 C_Scales "__eq__" ["self", "other"] [] (upSp K (sp_Scales___eq__ C_Scales))) (M_Book___init__ : Mkr P w K mg base (L2.CX P w) 6 "Book" C_Book ["self", "scales", "values", "facts"] [] (upSp K (sp_Book___init__ C_BadFact C_BadName C_Book C_Form C_Row C_Scales C_TwiceNamed))) :
    FnOk P w K mg base (L2.CX P w) 10 f fd ["_law_scales_here", "_law_values", "_law_facts"] (upSp K (sp__law_tried C_BadFact C_BadName C_Book C_Form C_Row C_Scales C_TwiceNamed)) := by
  refine okD (k := 9) F sc__law_tried (fun ds M R W h => ?_) (fun cdv A outer s H E hr hx tk => ⟨_, (dss_cut (ds_tryN (K := K) rfl rfl rfl sc__law_tried.nd tk (fun W pn xe tk' po' => (dss_one (ds_set 5 sc__law_tried.nd (de_mk M_Book___init__ Dfl.nil (hr.mono (by decide)) (fun σ => passAt tk' σ) (da_cons (de_v 0) (da_cons (de_v 1) (da_cons (de_v 2) da_nil))))))) (DHd.cons (i := some 3) ⟨rfl, by decide, Or.inl M_BadName.g⟩ ⟨rfl, rfl⟩ (fun a oe cls d pn hz hf => (dss_one (ds_ret (de_tup (da_cons de_str (da_cons (de_orE (de_xf "name" 0 M_BadName.T.xf T.n_BadName_name hz hf (de_v 3)) (de_xf "name" 0 M_TwiceNamed.T.xf T.n_TwiceNamed_name hz hf (de_v 3))) (da_cons (de_orE (de_orE (de_bi (call_isX M_BadName.T.is hz hf) (rc_isX (K := K)) T.b_isinstance (by decide +kernel) (da_cons (de_v 3) (da_cons (de_cls T.g_ScaleError) da_nil))) (de_bi (call_isX M_TwiceNamed.T.is hz hf) (rc_isX (K := K)) T.b_isinstance (by decide +kernel) (da_cons (de_v 3) (da_cons (de_cls T.g_ScaleError) da_nil)))) (de_bi (call_isX M_BadFact.T.is hz hf) (rc_isX (K := K)) T.b_isinstance (by decide +kernel) (da_cons (de_v 3) (da_cons (de_cls T.g_ScaleError) da_nil)))) (da_cons (de_orE (de_orE (de_bi (call_isX M_BadName.T.is hz hf) (rc_isX (K := K)) T.b_isinstance (by decide +kernel) (da_cons (de_v 3) (da_cons (de_cls T.g_BadFact) da_nil))) (de_bi (call_isX M_TwiceNamed.T.is hz hf) (rc_isX (K := K)) T.b_isinstance (by decide +kernel) (da_cons (de_v 3) (da_cons (de_cls T.g_BadFact) da_nil)))) (de_bi (call_isX M_BadFact.T.is hz hf) (rc_isX (K := K)) T.b_isinstance (by decide +kernel) (da_cons (de_v 3) (da_cons (de_cls T.g_BadFact) da_nil)))) da_nil)))))))) (DHd.cons (i := some 3) ⟨rfl, by decide, Or.inl M_TwiceNamed.g⟩ ⟨rfl, rfl⟩ (fun a oe cls d pn hz hf => (dss_one (ds_ret (de_tup (da_cons de_str (da_cons (de_orE (de_xf "name" 0 M_BadName.T.xf T.n_BadName_name hz hf (de_v 3)) (de_xf "name" 0 M_TwiceNamed.T.xf T.n_TwiceNamed_name hz hf (de_v 3))) (da_cons (de_orE (de_orE (de_bi (call_isX M_BadName.T.is hz hf) (rc_isX (K := K)) T.b_isinstance (by decide +kernel) (da_cons (de_v 3) (da_cons (de_cls T.g_ScaleError) da_nil))) (de_bi (call_isX M_TwiceNamed.T.is hz hf) (rc_isX (K := K)) T.b_isinstance (by decide +kernel) (da_cons (de_v 3) (da_cons (de_cls T.g_ScaleError) da_nil)))) (de_bi (call_isX M_BadFact.T.is hz hf) (rc_isX (K := K)) T.b_isinstance (by decide +kernel) (da_cons (de_v 3) (da_cons (de_cls T.g_ScaleError) da_nil)))) (da_cons (de_orE (de_orE (de_bi (call_isX M_BadName.T.is hz hf) (rc_isX (K := K)) T.b_isinstance (by decide +kernel) (da_cons (de_v 3) (da_cons (de_cls T.g_BadName) da_nil))) (de_bi (call_isX M_TwiceNamed.T.is hz hf) (rc_isX (K := K)) T.b_isinstance (by decide +kernel) (da_cons (de_v 3) (da_cons (de_cls T.g_BadName) da_nil)))) (de_bi (call_isX M_BadFact.T.is hz hf) (rc_isX (K := K)) T.b_isinstance (by decide +kernel) (da_cons (de_v 3) (da_cons (de_cls T.g_BadName) da_nil)))) da_nil)))))))) (DHd.cons (i := some 3) ⟨rfl, by decide, Or.inl M_BadFact.g⟩ ⟨rfl, rfl⟩ (fun a oe cls d pn hz hf => (dss_one (ds_ret (de_tup (da_cons de_str (da_cons (de_xf "index" 0 M_BadFact.T.xf T.n_BadFact_index hz hf (de_v 3)) (da_cons (de_orE (de_orE (de_bi (call_isX M_BadName.T.is hz hf) (rc_isX (K := K)) T.b_isinstance (by decide +kernel) (da_cons (de_v 3) (da_cons (de_cls T.g_ScaleError) da_nil))) (de_bi (call_isX M_TwiceNamed.T.is hz hf) (rc_isX (K := K)) T.b_isinstance (by decide +kernel) (da_cons (de_v 3) (da_cons (de_cls T.g_ScaleError) da_nil)))) (de_bi (call_isX M_BadFact.T.is hz hf) (rc_isX (K := K)) T.b_isinstance (by decide +kernel) (da_cons (de_v 3) (da_cons (de_cls T.g_ScaleError) da_nil)))) (da_cons (de_orE (de_orE (de_bi (call_isX M_BadName.T.is hz hf) (rc_isX (K := K)) T.b_isinstance (by decide +kernel) (da_cons (de_v 3) (da_cons (de_cls T.g_BadClaim) da_nil))) (de_bi (call_isX M_TwiceNamed.T.is hz hf) (rc_isX (K := K)) T.b_isinstance (by decide +kernel) (da_cons (de_v 3) (da_cons (de_cls T.g_BadClaim) da_nil)))) (de_bi (call_isX M_BadFact.T.is hz hf) (rc_isX (K := K)) T.b_isinstance (by decide +kernel) (da_cons (de_v 3) (da_cons (de_cls T.g_BadClaim) da_nil)))) da_nil)))))))) DHd.nil))))
      (dss_cons (ds_setLc 4 (own := [("_law_one", 6), ("_law_row", 7), ("_law_relation_here", 8), ("_law_other", 9)]) (by rfl) sc__law_tried.nd rfl rfl (sw_true rfl rfl rfl (by decide +kernel)) (di_sq (de_fld (K := K) rfl "facts" 2 (de_v 5))) (blkOk_by (own := [("_law_one", 6), ("_law_row", 7), ("_law_relation_here", 8), ("_law_other", 9)]) (N := ["_law_scales_here", "_law_values", "_law_facts", "e", "_law_told", "_law_made", "_law_one", "_law_row", "_law_relation_here", "_law_other"]) (sc := defScope s__law_tried) (by decide +kernel)) (fun _ _ _ _ _ => (dgw_tup (K := K) (n := 4) rfl (by rfl) (dgsw_cons (dgw_name 6 sc__law_tried.nd) (dgsw_cons (dgw_name 7 sc__law_tried.nd) (dgsw_cons (dgw_name 8 sc__law_tried.nd) (dgsw_cons (dgw_name 9 sc__law_tried.nd) dgsw_nil)))))) (fun _ _ _ _ _ => dts_nil) (fun _ _ _ _ _ => (de_tup (da_cons (de_v 6) (da_cons (de_fld (K := K) rfl "steps" 1 (de_v 7)) (da_cons (de_v 8) (da_cons (de_v 9) da_nil)))))))
      (dss_one (ds_ret (de_tup (da_cons de_str (da_cons (de_cmpX EL.none (op_eqOwn M_Scales___eq__ (hr.mono (by decide)) passL) rox_eq (de_fld (K := K) rfl "scales" 0 (de_v 5)) (de_v 0) (nomark _)) (da_cons (de_fld (K := K) rfl "names" 1 (de_v 5)) (da_cons (de_v 4) da_nil))))))))), fun ds M R W h => ?_⟩)
  · match ds, h with | [_, _, _], _ => rfl
  · match ds, h with
    | [s, n, f1], h =>
      obtain ⟨ps, xs, ts, rfl, hn, hf, pl, ok, l1, l2, k⟩ := h
      have a1 := T.at_Book_scales
      have a2 := T.at_Book_names
      have a3 := T.at_Book_facts
      have a4 := T.at_Row_steps
      walk_at "s"
      refine ⟨fun τ' M' => ∃ (names : List Str) (fs : List Fct) (v3 v4 v6 v7 v8 v9 : Option D), ts = fs.map (Fct.th ps) ∧ τ' = [some (scD C_Scales ps), some n, some f1, v3, v4, some (bkM C_Book C_Form C_Row C_Scales ps xs ts).d, v6, v7, v8, v9] ∧ M' = M ∧ R (.tup [.str "made", .bl true, .tup xs, .lst (fs.map Fct.told)]) M, ?_, ?_⟩
      · walk_at "s"
        refine fun p hp => ?_
        refine ⟨p, ps, xs, ts, rfl, rfl, updM_same, hn.imp (fun z => by rw [z]; rfl) (fun z => by rw [z]; rfl), hf.imp (fun z => by rw [z]; rfl) (fun z => by rw [z]; rfl), pl, ok, l1, l2, ?_⟩
        have ed : ∀ m, delM (updM (updM M p (.ins C_Book [])) p m) p = M := fun m => by rw [updM_updM, delM_updM hp]
        cases hb : bookS ps xs ts with
        | ok names =>
          rw [hb] at k
          obtain ⟨fs, e1, k⟩ := k
          walk_at "s"
          rw [ed]
          exact ⟨names, fs, _, _, _, _, _, _, e1, rfl, rfl, k⟩
        | error e =>
          rw [hb] at k
          cases e with
          | name x =>
            have k : R (.tup [.str "name", x, .bl true, .bl false]) M := k
            refine ⟨true, T.ex_BadName_BadName, fun _ aa dd hdd => ?_, fun z => (nomatch z)⟩
            have hdd2 := hdd (by simp)
            rw [ed]
            walk_at "s"
            refine .inl ?_
            walk_at "s"
            refine ⟨by simp, ?_⟩
            walk_at "s"
            refine .inl (.inl ?_)
            walk_at "s"
            refine ⟨true, T.kk_BadName_ScaleError, ?_⟩
            walk_at "s"
            refine .inl (.inl ?_)
            walk_at "s"
            refine ⟨false, T.kk_BadName_BadFact, ?_⟩
            walk_at "s"
            exact Rt.of k
          | twice x =>
            have k : R (.tup [.str "twice", x, .bl true, .bl false]) M := k
            refine ⟨false, T.ex_TwiceNamed_BadName, fun z => (nomatch z), fun _ => ⟨true, T.ex_TwiceNamed_TwiceNamed, fun _ aa dd hdd => ?_, fun z => (nomatch z)⟩⟩
            have hdd2 := hdd (by simp)
            rw [ed]
            walk_at "s"
            refine .inr ?_
            walk_at "s"
            refine ⟨by simp, ?_⟩
            walk_at "s"
            refine .inl (.inr ?_)
            walk_at "s"
            refine ⟨true, T.kk_TwiceNamed_ScaleError, ?_⟩
            walk_at "s"
            refine .inl (.inr ?_)
            walk_at "s"
            refine ⟨false, T.kk_TwiceNamed_BadName, ?_⟩
            walk_at "s"
            exact Rt.of k
          | fact x =>
            have k : R (.tup [.str "fact", .int x, .bl true, .bl false]) M := k
            refine ⟨false, T.ex_BadFact_BadName, fun z => (nomatch z), fun _ => ⟨false, T.ex_BadFact_TwiceNamed, fun z => (nomatch z), fun _ => ⟨true, T.ex_BadFact_BadFact, fun _ aa dd hdd => ?_, fun z => (nomatch z)⟩⟩⟩
            have hdd2 := hdd (by simp)
            rw [ed]
            walk_at "s"
            refine ⟨by simp, ?_⟩
            walk_at "s"
            refine .inr ?_
            walk_at "s"
            refine ⟨true, T.kk_BadFact_ScaleError, ?_⟩
            walk_at "s"
            refine .inr ?_
            walk_at "s"
            refine ⟨false, T.kk_BadFact_BadClaim, ?_⟩
            walk_at "s"
            exact Rt.of k
      · rintro _ _ ⟨names, fs, v3, v4, v6, v7, v8, v9, rfl, rfl, rfl, k⟩
        have lf : fs.length ≤ 1000 := by rw [List.length_map] at l2; exact l2
        walk_at "s"
        refine dLcL_indC (fun r acc => ∃ f1 f2, f1 ++ f2 = fs ∧ r = f2.map (fun f => Thing.d C_Form C_Row C_Scales (f.th ps)) ∧ acc = f1.map Fct.told) ⟨[], fs, rfl, by rw [List.map_map]; rfl, rfl⟩ ?_ ?_
        · rintro _ r _ ⟨f1, f2, ef, e2, rfl⟩ ih
          cases f2 with
          | nil => cases e2
          | cons x f2 =>
          cases e2
          have lt : f1.length < 1000 := by have := congrArg List.length ef; simp at this; omega
          walk_at "s"
          refine ⟨lt_line (by rw [List.length_map]; omega), ?_⟩
          exact ih _ ⟨f1 ++ [x], f2, by rw [← ef]; simp, rfl, by rw [List.map_append]; rfl⟩
        · rintro _ ⟨f1, f2, ef, e2, rfl⟩
          cases f2 with
          | cons x f2 => cases e2
          | nil =>
          rw [List.append_nil] at ef
          subst ef
          walk_at "s"
          refine ⟨T.isi_Scales, T.nf_Scales, ps, ps, rfl, rfl, ?_⟩
          walk_at "s"
          rw [decide_eq_true (rfl : ps = ps)]
          exact Rt.of k
abbrev s__law_refused : Stmt := top 86
theorem sc__law_refused : FnScope ["_law_book", "_law_thing", "e"] ["_law_book", "_law_thing"] (defScope s__law_refused) := ⟨rfl, rfl, rfl, by decide +kernel, rfl, by decide +kernel, by decide +kernel⟩
def sp__law_refused (C_BadClaim C_Book C_Form C_Row C_Scales : Addr) : SpD := fun ds M R W => match ds with
  | [s, v] => ∃ (t : Thing) (ps : PL) (names : List Str) (ts : List Thing), s = (bkM C_Book C_Form C_Row C_Scales ps (names.map .str) ts).d ∧ v = t.d C_Form C_Row C_Scales ∧ t.ok ∧ t.claim ps names true = false ∧ R (.bl true) M
  | _ => False
theorem ok__law_refused {f : Addr} {fd : FuncData} (F : FnP K "_law_refused" "_law_refused" s__law_refused f fd) (T : Fx K mg C_BadClaim C_BadFact C_BadKind C_BadName C_Book C_Form C_NoScale C_OtherScales C_Row C_ScaleError C_Scales C_TwiceNamed a_KINDS a_RELATIONS) (M_BadClaim : Exk P w K mg base "BadClaim" C_BadClaim ["index"]) (M_Book_follows : Mtd P w K mg base (L2.CX P w) 7 C_Book "follows" ["self", "claim"] [] (upSp K (sp_Book_follows C_BadClaim C_Book C_Form C_Row C_Scales))) :
    FnOk P w K mg base (L2.CX P w) 8 f fd ["_law_book", "_law_thing"] (upSp K (sp__law_refused C_BadClaim C_Book C_Form C_Row C_Scales)) := by
  refine okD (k := 7) F sc__law_refused (fun ds M R W h => ?_) (fun cdv A outer s H E hr hx tk => ⟨_, (dss_cut (ds_try (K := K) rfl 2 rfl rfl sc__law_refused.nd rfl rfl ⟨rfl, by decide, Or.inl M_BadClaim.g⟩ tk (fun W pn xe tk' po' => (dss_one (ds_expr (de_mt T.c_Book M_Book_follows Dfl.nil (hr.mono (by decide)) (fun σ => passAt tk' σ) (de_v 0) (da_cons (de_v 1) da_nil))))) (fun a oe cls d pn hz hf => (dss_one (ds_ret (de_cmp (op_eqA hr.units) ro_eqA (de_xf "index" 0 M_BadClaim.T.xf T.n_BadClaim_index hz hf (de_v 2)) de_int (nomark _))))))
      (dss_one (ds_ret de_bl))), fun ds M R W h => ?_⟩)
  · match ds, h with | [_, _], _ => rfl
  · match ds, h with
    | [s, v], h =>
      obtain ⟨t, ps, names, ts, rfl, rfl, ok, nc, k⟩ := h
      walk_at "s"
      refine ⟨fun _ _ => False, ?_, fun _ _ z => z.elim⟩
      walk_at "s"
      refine ⟨t, ps, names, ts, rfl, rfl, ok, nc, ?_⟩
      refine ⟨true, T.ex_BadClaim_BadClaim, fun _ aa dd hdd => ?_, fun z => (nomatch z)⟩
      have hdd2 := hdd (by simp)
      walk_at "s"
      refine ⟨by simp, ?_⟩
      walk_at "s"
      exact Rt.of k
/-- with one more scale -/
def alienP (ps : PL) : PL := ps ++ [(("zz" : Str), ("free" : Str))]
abbrev s__law_strange : Stmt := top 87
theorem sc__law_strange : FnScope ["_law_bag_here", "_law_scales_here", "_law_alien", "_law_value", "_law_row", "_law_things"] ["_law_bag_here", "_law_scales_here", "_law_alien", "_law_value"] (defScope s__law_strange) := ⟨rfl, rfl, rfl, by decide +kernel, rfl, by decide +kernel, by decide +kernel⟩
def sp__law_strange (C_Form C_Row C_Scales : Addr) : SpD := fun ds M R W => match ds with
  | [g, s, a, d] => ∃ (p : Addr) (m : MO) (ps : PL) (b : Nat) (x : Str), g = .ref p ∧ s = scD C_Scales ps ∧ a = scD C_Scales (alienP ps) ∧ d = .str x ∧ x.length ≤ 100 ∧ GoodP ps ∧ M p = some m ∧ BagM m (b + 1) ∧ ∀ (t : Thing) m2, t.ok → (∀ names fo, ("zz" : Str) ∉ names → t.claim ps names fo = false) → BagM m2 b → R (t.d C_Form C_Row C_Scales) (updM M p m2)
  | _ => False
theorem ok__law_strange {f : Addr} {fd : FuncData} (F : FnP K "_law_strange" "_law_strange" s__law_strange f fd) (T : Fx K mg C_BadClaim C_BadFact C_BadKind C_BadName C_Book C_Form C_NoScale C_OtherScales C_Row C_ScaleError C_Scales C_TwiceNamed a_KINDS a_RELATIONS) (M_Scales___getitem__ : Mtd P w K mg base (L2.CX P w) 9 C_Scales "__getitem__" ["self", "name"] [] (upSp K (sp_Scales___getitem__ C_NoScale C_Row C_Scales))) (M_Scales_still : Prp P w K mg base (L2.CX P w) 9 C_Scales "still" ["self"] [] (upSp K (sp_Scales_still C_Row C_Scales))) (M_Row___or__ : Mtd P w K mg base (L2.CX P w) 11 C_Row "__or__" ["self", "other"] [] (upSp K (sp_Row___or__ C_Form C_Row C_Scales))) (M__law_draw : Cal P w K mg base (L2.CX P w) 1 "_law_draw" ["_law_bag_here", "_law_limit"] [] (upSp K spDrawD)) :
    FnOk P w K mg base (L2.CX P w) 15 f fd ["_law_bag_here", "_law_scales_here", "_law_alien", "_law_value"] (upSp K (sp__law_strange C_Form C_Row C_Scales)) := by
  refine okD (k := 14) F sc__law_strange (fun ds M R W h => ?_) (fun cdv A outer s H E hr hx tk => ⟨_, (dss_cons (ds_set 4 sc__law_strange.nd (de_ixOwn EL.none T.gi_Scales M_Scales___getitem__ (hr.mono (by decide)) passL (de_v 1) (de_ix (de_fld (K := K) rfl "names" 1 (de_v 1)) de_int (fun _ _ => rfl))))
      (dss_cons (ds_set 5 sc__law_strange.nd (de_lst (da_cons (de_lst (da_cons (de_v 3) (da_cons (de_v 4) (da_cons de_str (da_cons (de_v 3) da_nil))))) (da_cons (de_tup (da_cons (de_v 3) (da_cons (de_v 4) (da_cons de_str da_nil)))) (da_cons (de_tup (da_cons (de_v 3) (da_cons (de_v 4) (da_cons de_str (da_cons de_str da_nil))))) (da_cons (de_tup (da_cons de_str (da_cons (de_v 4) (da_cons de_str (da_cons (de_v 3) da_nil))))) (da_cons (de_tup (da_cons (de_v 3) (da_cons (de_v 4) (da_cons de_str (da_cons (de_v 3) da_nil))))) (da_cons (de_tup (da_cons (de_v 3) (da_cons (de_v 4) (da_cons de_int (da_cons (de_v 3) da_nil))))) (da_cons (de_tup (da_cons (de_v 3) (da_cons (de_pr T.c_Scales M_Scales_still (hr.mono (by decide)) passL (de_v 2)) (da_cons de_str (da_cons (de_v 3) da_nil))))) (da_cons de_non (da_cons (de_tup (da_cons (de_v 3) (da_cons de_str (da_cons de_str (da_cons (de_v 3) da_nil))))) (da_cons (de_tup (da_cons (de_v 3) (da_cons (de_v 4) (da_cons (de_lst (da_cons de_str da_nil)) (da_cons (de_v 3) da_nil))))) (da_cons (de_tup (da_cons (de_lst (da_cons (de_v 3) da_nil)) (da_cons (de_v 4) (da_cons de_str (da_cons (de_v 3) da_nil))))) (da_cons de_str (da_cons (de_tup (da_cons (de_v 3) (da_cons (de_opX EL.none (op_binOwn M_Row___or__ (hr.mono (by decide)) passL T.sf_Row) rox_bin (de_pr T.c_Scales M_Scales_still (hr.mono (by decide)) passL (de_v 2)) (de_ixOwn EL.none T.gi_Scales M_Scales___getitem__ (hr.mono (by decide)) passL (de_v 2) de_str)) (da_cons de_str (da_cons (de_v 3) da_nil))))) da_nil)))))))))))))))
      (dss_one (ds_ret (de_ix (de_v 5) (de_fn M__law_draw Dfl.nil (hr.mono (by decide)) hx (da_cons (de_v 0) (da_cons de_int da_nil))) (fun _ _ => rfl)))))), fun ds M R W h => ?_⟩)
  · match ds, h with | [_, _, _, _], _ => rfl
  · match ds, h with
    | [g, s, a, d], h =>
      obtain ⟨p, m, ps, b, x, rfl, rfl, rfl, rfl, lx, gp, hp, hb, k⟩ := h
      have a1 := T.at_Scales_names
      obtain ⟨q0, ps0, rfl⟩ : ∃ q0 ps0, ps = q0 :: ps0 := by
        cases ps with
        | nil => exact absurd rfl gp.ne
        | cons q ps => exact ⟨q, ps, rfl⟩
      walk_at "s"
      rw [List.map_cons, atD_0]
      walk_at "s"
      have lq : q0.1.length ≤ sizeLine := name_len (gp.nm q0 (List.mem_cons_self ..))
      refine ⟨q0 :: ps0, rfl, lq, .inl ⟨q0.1, rfl, List.mem_map.mpr ⟨q0, List.mem_cons_self .., rfl⟩, ?_⟩⟩
      obtain ⟨ps, eps⟩ : ∃ ps, ps = q0 :: ps0 := ⟨_, rfl⟩
      rw [← eps] at k gp ⊢
      walk_at "s"
      refine ⟨alienP ps, rfl, ?_⟩
      walk_at "s"
      refine ⟨alienP ps, rfl, ?_⟩
      walk_at "s"
      refine ⟨alienP ps, rfl, le_line2 (by decide +kernel), .inl ⟨"zz", rfl, by simp [alienP], ?_⟩⟩
      walk_at "s"
      refine ⟨alienP ps, [], [("zz", 1)], rfl, rfl, ?_⟩
      walk_at "s"
      refine ⟨p, m, 13, b, rfl, by decide, log_ok (by decide), hp, hb, fun z m1 z0 z1 b1 => ?_⟩
      have fin : ∀ t : Thing, t.ok → (∀ names fo, ("zz" : Str) ∉ names → t.claim ps names fo = false) → Rt R (t.d C_Form C_Row C_Scales) (updM M p m1) := fun t o c => Rt.of (k t m1 o c b1)
      have al : alienP ps ≠ ps := fun z => by have := congrArg List.length z; simp [alienP] at this
      have px : Pln (.str x) := le_line2 (by omega)
      have pl : ∀ y : Str, y.length ≤ 100 → Pln (.str y) := fun y h => le_line2 (by omega)
      have p1 : Pln (.str "<") := pl _ (by decide +kernel)
      have cs : z = 0 ∨ z = 1 ∨ z = 2 ∨ z = 3 ∨ z = 4 ∨ z = 5 ∨ z = 6 ∨ z = 7 ∨ z = 8 ∨ z = 9 ∨ z = 10 ∨ z = 11 ∨ z = 12 := by omega
      rcases cs with rfl | rfl | rfl | rfl | rfl | rfl | rfl | rfl | rfl | rfl | rfl | rfl | rfl
      all_goals walk_at "s"
      · exact fin (.no (.lst [.str x, rowD C_Row C_Scales ps [(q0.1, 1)], .str "<", .str x])) ⟨trivial, trivial⟩ fun _ _ _ => rfl
      · exact fin (.no (.tup [.str x, rowD C_Row C_Scales ps [(q0.1, 1)], .str "<"])) ⟨trivial, by simp⟩ fun _ _ _ => rfl
      · exact fin (.cl (.str x) (.row ps [(q0.1, 1)]) (.str "<") (.str "zz")) ⟨px, trivial, p1, pl _ (by decide +kernel)⟩ fun names fo h => by simp [Thing.claim, inNm, h]
      · exact fin (.cl (.str "zz") (.row ps [(q0.1, 1)]) (.str "=") (.str x)) ⟨pl _ (by decide +kernel), trivial, pl _ (by decide +kernel), px⟩ fun names fo h => by simp [Thing.claim, inNm, h]
      · exact fin (.cl (.str x) (.row ps [(q0.1, 1)]) (.str "==") (.str x)) ⟨px, trivial, pl _ (by decide +kernel), px⟩ fun names fo h => by
          have e : relB (.str "==") = false := by decide +kernel
          simp [Thing.claim, e]
      · exact fin (.cl (.str x) (.row ps [(q0.1, 1)]) (.int 0) (.str x)) ⟨px, trivial, trivial, px⟩ fun names fo h => by simp [Thing.claim, relB]
      · exact fin (.cl (.str x) (.row (alienP ps) []) (.str "<") (.str x)) ⟨px, trivial, p1, px⟩ fun names fo h => by simp [Thing.claim, RT.good, al]
      · exact fin (.no .non) ⟨trivial, trivial⟩ fun _ _ _ => rfl
      · exact fin (.cl (.str x) (.pln (.str "x")) (.str "<") (.str x)) ⟨px, pl _ (by decide +kernel), p1, px⟩ fun names fo h => by simp [Thing.claim, RT.good]
      · exact fin (.cl (.str x) (.row ps [(q0.1, 1)]) (.lst [.str "<"]) (.str x)) ⟨px, trivial, trivial, px⟩ fun names fo h => by simp [Thing.claim, relB]
      · exact fin (.cl (.lst [.str x]) (.row ps [(q0.1, 1)]) (.str "<") (.str x)) ⟨trivial, trivial, p1, px⟩ fun names fo h => by simp [Thing.claim, inNm]
      · exact fin (.no (.str "claim")) ⟨pl _ (by decide +kernel), trivial⟩ fun _ _ _ => rfl
      · exact fin (.cl (.str x) (.form (alienP ps) (kpt [] ([[([] : SL)], [[("zz", 1)]]].map ddp)) (kpt [] ([[([] : SL), [("zz", 1)]]].map ddp))) (.str "<") (.str x)) ⟨px, trivial, p1, px⟩ fun names fo h => by simp [Thing.claim, RT.good, al]
end
end RS

set_option maxRecDepth 100000
set_option maxHeartbeats 4000000
namespace RS
open PySem PySem.Spec PyProof.Rows L2 NdefX He PySem.W LamX
variable [Tbls]
theorem items_of : ∀ qs : SL, Items (qs.map stD) (qs.map qD)
  | [] => .nil
  | q :: qs => .cons (.inl rfl) (items_of qs)
theorem zz_id {k : Nat} (hk : k < 40) : ¬ IdentP k "zz" := fun ⟨l, e, _⟩ => by
  have e2 : (("zz" : Str).cps.toList).getLast? = some (48 + k) := by rw [e]; simp
  have e3 : (("zz" : Str).cps.toList).getLast? = some 122 := by decide +kernel
  rw [e3] at e2
  have := Option.some.inj e2
  omega
theorem zz_not {ps : PL} (kd : KdP ps) : ("zz" : Str) ∉ ps.map (·.1) := fun hx => by
  obtain ⟨q, hq, e⟩ := List.mem_map.mp hx
  obtain ⟨i, hi⟩ := List.mem_iff_getElem?.mp hq
  have hl := (List.getElem?_eq_some_iff.mp hi).1
  have h1 := (kd.at_ i q hi).1
  have e : q.1 = "zz" := e
  rw [e] at h1
  exact zz_id (by have := kd.few; omega) h1
theorem alien_good {ps : PL} (kd : KdP ps) : GoodP (alienP ps) := by
  have g := kd.good
  refine ⟨by simp [alienP], by have := kd.few; simp [alienP]; omega, fun q hq => ?_, fun q hq => ?_, ?_⟩
  · rcases List.mem_append.mp hq with hq | hq
    · exact g.nm q hq
    · rw [List.mem_singleton.mp hq]
      decide +kernel
  · rcases List.mem_append.mp hq with hq | hq
    · exact g.kd q hq
    · rw [List.mem_singleton.mp hq]
      decide +kernel
  · unfold alienP
    rw [List.map_append, List.nodup_append]
    refine ⟨g.nd, by simp, fun a ha b hb e => ?_⟩
    have hb' : b = "zz" := by simpa using hb
    subst hb'
    subst e
    exact zz_not kd ha
/-- the values -/
structure NmsP (xs : List Str) : Prop where
  at_ : ∀ (i : Nat) (x : Str), xs[i]? = some x → IdentP (5 + i) x
  pos : 1 ≤ xs.length
  few : xs.length ≤ 4
theorem NmsP.nm {xs : List Str} (h : NmsP xs) : ∀ x ∈ xs, nameB x = true := fun x hx => by
  obtain ⟨i, hi⟩ := List.mem_iff_getElem?.mp hx
  have hl := (List.getElem?_eq_some_iff.mp hi).1
  exact (h.at_ i x hi).good (by have := h.few; omega)
theorem NmsP.zz {xs : List Str} (h : NmsP xs) : ("zz" : Str) ∉ xs := fun hx => by
  obtain ⟨i, hi⟩ := List.mem_iff_getElem?.mp hx
  have hl := (List.getElem?_eq_some_iff.mp hi).1
  exact zz_id (by have := h.few; omega) (h.at_ i _ hi)
theorem NmsP.nd {xs : List Str} (h : NmsP xs) : xs.Nodup := by
  refine List.pairwise_iff_getElem.mpr fun i j hi hj hij => ?_
  intro e2
  have h1 := h.at_ i _ (List.getElem?_eq_getElem hi)
  have h2 := h.at_ j _ (List.getElem?_eq_getElem hj)
  rw [e2] at h1
  have := h1.inj h2
  omega
theorem nameScan_app : ∀ {a done : List Str} {xs : List D}, (∀ x ∈ a, nameB x = true) → (done ++ a).Nodup → nameScan done (a.map D.str ++ xs) = nameScan (done ++ a) xs
  | [], done, xs, _, _ => by rw [List.append_nil]; rfl
  | y :: a, done, xs, h1, h2 => by
    have n : y ∉ done := fun z => by
      rw [List.nodup_append] at h2
      exact h2.2.2 y z y (List.mem_cons_self ..) rfl
    have e : done ++ y :: a = (done ++ [y]) ++ a := by simp
    rw [List.map_cons, List.cons_append, nameScan.eq_2, if_pos (h1 y (List.mem_cons_self ..)), if_neg n, nameScan_app (fun x hx => h1 x (List.mem_cons_of_mem _ hx)) (by rw [← e]; exact h2), e]
theorem nameScan_bad {done : List Str} {x : D} {xs : List D} (h : nameD x = false) : nameScan done (x :: xs) = .error (.name x) := by
  cases x <;> try rfl
  have h1 : nameB _ = false := h
  unfold nameScan
  rw [if_neg (by rw [h1]; exact nofun)]
theorem nameScan_twice {done : List Str} {y : Str} {xs : List D} (h : nameB y = true) (h2 : y ∈ done) : nameScan done (.str y :: xs) = .error (.twice (.str y)) := by
  unfold nameScan
  rw [if_pos h, if_pos h2]
structure FctOk (names : List Str) (f : Fct) : Prop where
  one : f.one ∈ names
  other : f.other ∈ names
  rel : f.rel ∈ RELS
theorem FctOk.claim {names : List Str} {f : Fct} (h : FctOk names f) (ps : PL) (fo : Bool) : (f.th ps).claim ps names fo = true := by
  simp [Fct.th, Thing.claim, inNm, relB, RT.good, h.one, h.other, h.rel]
theorem FctOk.ok {names : List Str} (nm : ∀ x ∈ names, nameB x = true) {f : Fct} (h : FctOk names f) (ps : PL) : (f.th ps).ok := by
  refine ⟨name_len (nm _ h.one), trivial, ?_, name_len (nm _ h.other)⟩
  have h1 := h.rel
  show f.rel.length ≤ sizeLine
  revert h1
  have all : ∀ r ∈ RELS, r.length ≤ 2 := by decide +kernel
  exact fun h1 => le_line2 (Nat.le_trans (all _ h1) (by decide))
theorem factScan_app {ps : PL} {names : List Str} : ∀ {fs : List Fct} {k : Nat} {ts : List Thing}, (∀ f ∈ fs, FctOk names f) → factScan ps names k (fs.map (Fct.th ps) ++ ts) = factScan ps names (k + fs.length) ts
  | [], k, ts, _ => rfl
  | f :: fs, k, ts, h => by
    rw [List.map_cons, List.cons_append, factScan.eq_2, if_pos ((h f (List.mem_cons_self ..)).claim ps false), factScan_app fun x hx => h x (List.mem_cons_of_mem _ hx), List.length_cons]
    congr 1
    omega
theorem factScan_bad {ps : PL} {names : List Str} {k : Nat} {t : Thing} {ts : List Thing} (h : t.claim ps names false = false) : factScan ps names k (t :: ts) = .error (.fact k) := by
  unfold factScan
  rw [if_neg (by rw [h]; exact nofun)]
theorem names_scan {names : List Str} (h : NmsP names) : nameScan [] (names.map D.str) = .ok names := by
  have := nameScan_app (done := []) (xs := []) h.nm h.nd
  rw [List.append_nil] at this
  rw [this]
  rfl
theorem bookS_ok {ps : PL} {names : List Str} {fs : List Fct} (h : NmsP names) (hf : ∀ f ∈ fs, FctOk names f) : bookS ps (names.map D.str) (fs.map (Fct.th ps)) = .ok names := by
  unfold bookS
  rw [names_scan h]
  have := factScan_app (ps := ps) (k := 0) (ts := []) hf
  rw [List.append_nil] at this
  show (match factScan ps names 0 (fs.map (Fct.th ps)) with
    | .error e => Except.error e
    | .ok _ => .ok names) = _
  rw [this]
  rfl
theorem bookS_fact {ps : PL} {names : List Str} {fs : List Fct} {t : Thing} {ts : List Thing} (h : NmsP names) (hf : ∀ f ∈ fs, FctOk names f) (ht : t.claim ps names false = false) : bookS ps (names.map D.str) (fs.map (Fct.th ps) ++ t :: ts) = .error (.fact fs.length) := by
  unfold bookS
  rw [names_scan h]
  show (match factScan ps names 0 (fs.map (Fct.th ps) ++ t :: ts) with
    | .error e => Except.error e
    | .ok _ => .ok names) = _
  rw [factScan_app hf, factScan_bad ht, Nat.zero_add]
theorem bookS_names {ps : PL} {xs : List D} {ts : List Thing} {e : BkE} (h : nameScan [] xs = .error e) : bookS ps xs ts = .error e := by
  unfold bookS
  rw [h]
theorem wrong_ok {x0 : Str} (h0 : nameB x0 = true) {z : Int} (z0 : 0 ≤ z) (z1 : z < 10) : ∃ wd : D, atD [.str "", .str "A", .str "1a", .str "aB", .str "abcdefghijklm", .int 5, .non, .str "a_", .lst [.str x0], .str x0] z = some wd ∧ Pln wd ∧ (∀ n, PD (n + 1) wd) ∧ (wd = .str x0 ∨ (nameD wd = false ∧ dEqB wd (.str x0) = false)) := by
  have st : ∀ s : Str, nameB s = false → (nameD (.str s) = false ∧ dEqB (.str s) (.str x0) = false) := fun s hs => ⟨hs, by
    rw [dEqB_str]
    exact decide_eq_false fun e => by rw [e, h0] at hs; cases hs⟩
  have cs : z = 0 ∨ z = 1 ∨ z = 2 ∨ z = 3 ∨ z = 4 ∨ z = 5 ∨ z = 6 ∨ z = 7 ∨ z = 8 ∨ z = 9 := by omega
  rcases cs with rfl | rfl | rfl | rfl | rfl | rfl | rfl | rfl | rfl | rfl
  · exact ⟨_, rfl, le_line2 (by decide +kernel), fun _ => trivial, .inr (st _ (by decide +kernel))⟩
  · exact ⟨_, rfl, le_line2 (by decide +kernel), fun _ => trivial, .inr (st _ (by decide +kernel))⟩
  · exact ⟨_, rfl, le_line2 (by decide +kernel), fun _ => trivial, .inr (st _ (by decide +kernel))⟩
  · exact ⟨_, rfl, le_line2 (by decide +kernel), fun _ => trivial, .inr (st _ (by decide +kernel))⟩
  · exact ⟨_, rfl, le_line2 (by decide +kernel), fun _ => trivial, .inr (st _ (by decide +kernel))⟩
  · exact ⟨_, rfl, trivial, fun _ => trivial, .inr ⟨rfl, rfl⟩⟩
  · exact ⟨_, rfl, trivial, fun _ => trivial, .inr ⟨rfl, rfl⟩⟩
  · exact ⟨_, rfl, le_line2 (by decide +kernel), fun _ => trivial, .inr (st _ (by decide +kernel))⟩
  · refine ⟨_, rfl, trivial, fun n x hx => ?_, .inr ⟨rfl, rfl⟩⟩
    rw [List.mem_singleton.mp hx]
    cases n <;> trivial
  · exact ⟨_, rfl, name_len h0, fun _ => trivial, .inl rfl⟩
theorem nd_take {names : List Str} (nm : NmsP names) (j : Nat) : (([] : List Str) ++ names.take j).Nodup := nm.nd.sublist (List.take_sublist j names)
theorem name_scan {names : List Str} (nm : NmsP names) (j : Nat) {wd : D} {r : List D} (h : nameD wd = false) : nameScan [] ((names.take j).map D.str ++ wd :: r) = .error (.name wd) := by
  rw [nameScan_app (fun x hx => nm.nm x (List.mem_of_mem_take hx)) (nd_take nm j)]
  exact nameScan_bad h
theorem twice_scan {names : List Str} (nm : NmsP names) {x0 : Str} (e0 : names[0]? = some x0) (j : Nat) {r : List D} : nameScan [] ((names.take j).map D.str ++ .str x0 :: ((names.drop j).map D.str ++ r)) = .error (.twice (.str x0)) := by
  have hx := nm.nm x0 (List.mem_of_getElem? e0)
  cases names with
  | nil => cases e0
  | cons a names =>
  cases e0
  cases j with
  | zero =>
    show nameScan [] (.str x0 :: .str x0 :: (names.map D.str ++ r)) = _
    rw [nameScan.eq_2, if_pos hx, if_neg (by simp)]
    exact nameScan_twice hx (by simp)
  | succ j =>
    rw [nameScan_app (fun x hx => nm.nm x (List.mem_of_mem_take hx)) (nd_take nm (j + 1))]
    exact nameScan_twice hx (by simp)
section
variable {P : Program} {w : World} {K : PySem.W.Frag} {mg : Str → Option Value} {base : Heap} {C_BadClaim C_BadFact C_BadKind C_BadName C_Book C_Form C_NoScale C_OtherScales C_Row C_ScaleError C_Scales C_TwiceNamed a_KINDS a_RELATIONS : Addr}
abbrev s_law : Stmt := top 88
theorem sc_law : FnScope ["_law_script", "_law_bag_here", "_law_kinds", "_law_scales_here", "_law_alien", "_law_values", "_law_facts", "_law_k", "_law_told", "_law_handed", "_law_book", "_law_strange_here", "_law_at", "_law_bad", "_law_high", "_law_spot", "_law_wrong", "_law_due", "_law_one", "_law_other", "_law_row", "_law_relation_here"] ["_law_script"] (defScope s_law) := ⟨rfl, rfl, rfl, by decide +kernel, rfl, by decide +kernel, by decide +kernel⟩
theorem ok_law {f : Addr} {fd : FuncData} (F : FnP K "law" "law" s_law f fd) (T : Fx K mg C_BadClaim C_BadFact C_BadKind C_BadName C_Book C_Form C_NoScale C_OtherScales C_Row C_ScaleError C_Scales C_TwiceNamed a_KINDS a_RELATIONS) (M_Row___init__ : Mkr P w K mg base (L2.CX P w) 5 "Row" C_Row ["self", "scales", "steps"] [] (upSp K (sp_Row___init__ C_Scales C_NoScale C_Row))) (M_Scales___init__ : Mkr P w K mg base (L2.CX P w) 3 "Scales" C_Scales ["self", "pairs"] [] (upSp K (sp_Scales___init__ C_BadKind C_BadName C_Scales C_TwiceNamed))) (M_Scales___getitem__ : Mtd P w K mg base (L2.CX P w) 9 C_Scales "__getitem__" ["self", "name"] [] (upSp K (sp_Scales___getitem__ C_NoScale C_Row C_Scales))) (M_Scales_still : Prp P w K mg base (L2.CX P w) 9 C_Scales "still" ["self"] [] (upSp K (sp_Scales_still C_Row C_Scales))) (M_Row___or__ : Mtd P w K mg base (L2.CX P w) 11 C_Row "__or__" ["self", "other"] [] (upSp K (sp_Row___or__ C_Form C_Row C_Scales))) (M_Book___init__ : Mkr P w K mg base (L2.CX P w) 6 "Book" C_Book ["self", "scales", "values", "facts"] [] (upSp K (sp_Book___init__ C_BadFact C_BadName C_Book C_Form C_Row C_Scales C_TwiceNamed))) (M__law_bag : Cal P w K mg base (L2.CX P w) 1 "_law_bag" ["_law_script"] [] (upSp K spPenD)) (M__law_draw : Cal P w K mg base (L2.CX P w) 1 "_law_draw" ["_law_bag_here", "_law_limit"] [] (upSp K spDrawD)) (M__law_ident : Cal P w K mg base (L2.CX P w) 2 "_law_ident" ["_law_bag_here", "_law_k"] [] (upSp K sp__law_ident)) (M__law_scales : Cal P w K mg base (L2.CX P w) 3 "_law_scales" ["_law_bag_here", "_law_many"] [] (upSp K sp__law_scales)) (M__law_steps : Cal P w K mg base (L2.CX P w) 2 "_law_steps" ["_law_bag_here", "_law_scales_here", "_law_most", "_law_far"] [] (upSp K sp__law_steps)) (M__law_relation : Cal P w K mg base (L2.CX P w) 2 "_law_relation" ["_law_bag_here"] [] (upSp K sp__law_relation)) (M__law_tried : Cal P w K mg base (L2.CX P w) 10 "_law_tried" ["_law_scales_here", "_law_values", "_law_facts"] [] (upSp K (sp__law_tried C_BadFact C_BadName C_Book C_Form C_Row C_Scales C_TwiceNamed))) (M__law_refused : Cal P w K mg base (L2.CX P w) 8 "_law_refused" ["_law_book", "_law_thing"] [] (upSp K (sp__law_refused C_BadClaim C_Book C_Form C_Row C_Scales))) (M__law_strange : Cal P w K mg base (L2.CX P w) 15 "_law_strange" ["_law_bag_here", "_law_scales_here", "_law_alien", "_law_value"] [] (upSp K (sp__law_strange C_Form C_Row C_Scales))) :
    FnOk P w K mg base (L2.CX P w) 16 f fd ["_law_script"] (upSp K spLawD) := by
  refine okD (k := 15) F sc_law (fun ds M R W h => ?_) (fun cdv A outer s H E hr hx tk => ⟨_, (dss_cons (ds_set 1 sc_law.nd (de_fn M__law_bag Dfl.nil (hr.mono (by decide)) hx (da_cons (de_v 0) da_nil)))
      (dss_cons (ds_set 2 sc_law.nd (de_fn M__law_scales Dfl.nil (hr.mono (by decide)) hx (da_cons (de_v 1) (da_cons (de_op op_addD ro_add de_int (de_fn M__law_draw Dfl.nil (hr.mono (by decide)) hx (da_cons (de_v 1) (da_cons de_int da_nil)))) da_nil))))
      (dss_cons (ds_set 3 sc_law.nd (de_mk M_Scales___init__ Dfl.nil (hr.mono (by decide)) hx (da_cons (de_v 2) da_nil)))
      (dss_cons (ds_set 4 sc_law.nd (de_mk M_Scales___init__ Dfl.nil (hr.mono (by decide)) hx (da_cons (de_op op_addD ro_add (de_v 2) (de_lst (da_cons (de_tup (da_cons de_str (da_cons de_str da_nil))) da_nil))) da_nil)))
      (dss_cons (ds_setLc 5 (own := [("_law_k", 7)]) (by rfl) sc_law.nd rfl rfl (sw_true rfl rfl rfl (by decide +kernel)) (di_rng1 T.b_range (da_cons (de_op op_addD ro_add de_int (de_fn M__law_draw Dfl.nil (hr.mono (by decide)) hx (da_cons (de_v 1) (da_cons de_int da_nil)))) da_nil)) (blkOk_by (own := [("_law_k", 7)]) (N := ["_law_script", "_law_bag_here", "_law_kinds", "_law_scales_here", "_law_alien", "_law_values", "_law_facts", "_law_k", "_law_told", "_law_handed", "_law_book", "_law_strange_here", "_law_at", "_law_bad", "_law_high", "_law_spot", "_law_wrong", "_law_due", "_law_one", "_law_other", "_law_row", "_law_relation_here"]) (sc := defScope s_law) (by decide +kernel)) (fun _ _ _ _ _ => (dgw_name 7 sc_law.nd)) (fun _ _ _ _ _ => dts_nil) (fun _ _ _ _ _ => (de_fn M__law_ident Dfl.nil (hr.mono (by decide)) passLS (da_cons (de_v 1) (da_cons (de_op op_addD ro_add de_int (de_v 7)) da_nil)))))
      (dss_cons (ds_set 6 sc_law.nd (de_lstM da_nil))
      (dss_cons (ds_for (passes_of rfl) rfl (di_rng1 T.b_range (da_cons (de_fn M__law_draw Dfl.nil (hr.mono (by decide)) hx (da_cons (de_v 1) (da_cons de_int da_nil))) da_nil)) (dg_name 7 sc_law.nd) (dss_cons (ds_par sc_law.nd (da_cons (de_ix (de_v 5) (de_fn M__law_draw Dfl.nil (hr.mono (by decide)) hx (da_cons (de_v 1) (da_cons (de_bi call_len rc_len T.b_len PySem.boot_len (da_cons (de_v 5) da_nil)) da_nil))) (fun _ _ => rfl)) (da_cons (de_ix (de_v 5) (de_fn M__law_draw Dfl.nil (hr.mono (by decide)) hx (da_cons (de_v 1) (da_cons (de_bi call_len rc_len T.b_len PySem.boot_len (da_cons (de_v 5) da_nil)) da_nil))) (fun _ _ => rfl)) da_nil)) (fun ha => ps_par (i := 18) (j := 19) (by rfl) sc_law.nd rfl rfl (by decide) rfl rfl ha (by rfl)))
      (dss_one (ds_expr (de_bm PySem.F.slot_list_append PySem.F.type_list_append mt_append rm_append (de_v 6) (da_cons (de_tup (da_cons (de_v 18) (da_cons (de_mk M_Row___init__ Dfl.nil (hr.mono (by decide)) hx (da_cons (de_v 3) (da_cons (de_fn M__law_steps Dfl.nil (hr.mono (by decide)) hx (da_cons (de_v 1) (da_cons (de_v 2) (da_cons de_int (da_cons de_int da_nil))))) da_nil))) (da_cons (de_fn M__law_relation Dfl.nil (hr.mono (by decide)) hx (da_cons (de_v 1) da_nil)) (da_cons (de_v 19) da_nil))))) da_nil))))))
      (dss_frz 6 (dss_cons (ds_setLc 8 (own := [("_law_one", 18), ("_law_row", 20), ("_law_relation_here", 21), ("_law_other", 19)]) (by rfl) sc_law.nd rfl rfl (sw_true rfl rfl rfl (by decide +kernel)) (di_sq (de_f 6)) (blkOk_by (own := [("_law_one", 18), ("_law_row", 20), ("_law_relation_here", 21), ("_law_other", 19)]) (N := ["_law_script", "_law_bag_here", "_law_kinds", "_law_scales_here", "_law_alien", "_law_values", "_law_facts", "_law_k", "_law_told", "_law_handed", "_law_book", "_law_strange_here", "_law_at", "_law_bad", "_law_high", "_law_spot", "_law_wrong", "_law_due", "_law_one", "_law_other", "_law_row", "_law_relation_here"]) (sc := defScope s_law) (by decide +kernel)) (fun _ _ _ _ _ => (dgw_tup (K := K) (n := 4) rfl (by rfl) (dgsw_cons (dgw_name 18 sc_law.nd) (dgsw_cons (dgw_name 20 sc_law.nd) (dgsw_cons (dgw_name 21 sc_law.nd) (dgsw_cons (dgw_name 19 sc_law.nd) dgsw_nil)))))) (fun _ _ _ _ _ => dts_nil) (fun _ _ _ _ _ => (de_tup (da_cons (de_v 18) (da_cons (de_fld (K := K) rfl "steps" 1 (de_v 20)) (da_cons (de_v 21) (da_cons (de_v 19) da_nil)))))))
      (dss_cons (ds_set 9 sc_law.nd (de_lst (da_cons (de_bt call_list_of rc_listM T.b_list (by decide +kernel) (da_cons (de_v 5) da_nil)) (da_cons (de_bt call_list_of rc_listM T.b_list (by decide +kernel) (da_cons (de_v 6) da_nil)) da_nil))))
      (dss_cons (ds_set 10 sc_law.nd (de_mk M_Book___init__ Dfl.nil (hr.mono (by decide)) hx (da_cons (de_v 3) (da_cons (de_ix (de_v 9) de_int (fun _ _ => rfl)) (da_cons (de_ix (de_v 9) de_int (fun _ _ => rfl)) da_nil)))))
      (dss_cons (ds_expr (de_bm0 PySem.F.slot_list_clear PySem.F.type_list_clear mt_clear rm_clear (de_ix (de_v 9) de_int (fun _ _ => rfl))))
      (dss_cons (ds_expr (de_bm0 PySem.F.slot_list_clear PySem.F.type_list_clear mt_clear rm_clear (de_ix (de_v 9) de_int (fun _ _ => rfl))))
      (dss_cons (ds_if (dt_cmp (op_neA hr.units) ro_neA (de_fn M__law_tried Dfl.nil (hr.mono (by decide)) hx (da_cons (de_v 3) (da_cons (de_bt call_tuple_of rc_tuple T.b_tuple (by decide +kernel) (da_cons (de_v 5) da_nil)) (da_cons (de_bt call_tuple_of rc_tuple T.b_tuple (by decide +kernel) (da_cons (de_v 6) da_nil)) da_nil)))) (de_tup (da_cons de_str (da_cons de_bl (da_cons (de_bt call_tuple_of rc_tuple T.b_tuple (by decide +kernel) (da_cons (de_v 5) da_nil)) (da_cons (de_v 8) da_nil))))) (nomark _)) (dss_one (ds_ret de_bl)) dss_nil)
      (dss_cons (ds_if (DW.t (dw_or (dt_cmp (op_neA hr.units) ro_neA (de_fld (K := K) rfl "names" 1 (de_v 10)) (de_bt call_tuple_of rc_tuple T.b_tuple (by decide +kernel) (da_cons (de_v 5) da_nil)) (nomark _)) (dw_or1 (dt_cmp (op_neA hr.units) ro_neA (de_bi call_len rc_len T.b_len PySem.boot_len (da_cons (de_fld (K := K) rfl "facts" 2 (de_v 10)) da_nil)) (de_bi call_len rc_len T.b_len PySem.boot_len (da_cons (de_v 8) da_nil)) (nomark _))))) (dss_one (ds_ret de_bl)) dss_nil)
      (dss_cons (ds_set 11 sc_law.nd (de_fn M__law_strange Dfl.nil (hr.mono (by decide)) hx (da_cons (de_v 1) (da_cons (de_v 3) (da_cons (de_v 4) (da_cons (de_ix (de_v 5) de_int (fun _ _ => rfl)) da_nil))))))
      (dss_cons (ds_if (dt_not (dt_tru (de_fn M__law_refused Dfl.nil (hr.mono (by decide)) hx (da_cons (de_v 10) (da_cons (de_v 11) da_nil))))) (dss_one (ds_ret de_bl)) dss_nil)
      (dss_cons (ds_set 12 sc_law.nd (de_fn M__law_draw Dfl.nil (hr.mono (by decide)) hx (da_cons (de_v 1) (da_cons (de_op op_addD ro_add (de_bi call_len rc_len T.b_len PySem.boot_len (da_cons (de_v 6) da_nil)) de_int) da_nil))))
      (dss_cons (ds_set 13 sc_law.nd (de_op op_addD ro_add (de_op op_addD ro_add (de_op op_addD ro_add (de_sl (de_v 6) do_none (do_some (de_v 12))) (de_lst (da_cons (de_v 11) da_nil))) (de_sl (de_v 6) (do_some (de_v 12)) do_none)) (de_sl (de_lst (da_cons de_non (da_cons de_non da_nil))) do_none (do_some (de_fn M__law_draw Dfl.nil (hr.mono (by decide)) hx (da_cons (de_v 1) (da_cons de_int da_nil)))))))
      (dss_cons (ds_if (dt_cmp (op_neA hr.units) ro_neA (de_fn M__law_tried Dfl.nil (hr.mono (by decide)) hx (da_cons (de_v 3) (da_cons (de_v 5) (da_cons (de_v 13) da_nil)))) (de_tup (da_cons de_str (da_cons (de_v 12) (da_cons de_bl (da_cons de_bl da_nil))))) (nomark _)) (dss_one (ds_ret de_bl)) dss_nil)
      (dss_cons (ds_set 14 sc_law.nd (de_tup (da_cons (de_ix (de_v 5) de_int (fun _ _ => rfl)) (da_cons (de_opX EL.none (op_binOwn M_Row___or__ (hr.mono (by decide)) passL T.sf_Row) rox_bin (de_pr T.c_Scales M_Scales_still (hr.mono (by decide)) passL (de_v 3)) (de_ixOwn EL.none T.gi_Scales M_Scales___getitem__ (hr.mono (by decide)) passL (de_v 3) (de_ix (de_ix (de_v 2) de_int (fun _ _ => rfl)) de_int (fun _ _ => rfl)))) (da_cons de_str (da_cons (de_ix (de_v 5) de_int (fun _ _ => rfl)) da_nil))))))
      (dss_cons (ds_if (dt_cmp (op_neA hr.units) ro_neA (de_fn M__law_tried Dfl.nil (hr.mono (by decide)) hx (da_cons (de_v 3) (da_cons (de_v 5) (da_cons (de_op op_addD ro_add (de_v 6) (de_lst (da_cons (de_v 14) da_nil))) da_nil)))) (de_tup (da_cons de_str (da_cons (de_bi call_len rc_len T.b_len PySem.boot_len (da_cons (de_v 6) da_nil)) (da_cons de_bl (da_cons de_bl da_nil))))) (nomark _)) (dss_one (ds_ret de_bl)) dss_nil)
      (dss_cons (ds_set 15 sc_law.nd (de_fn M__law_draw Dfl.nil (hr.mono (by decide)) hx (da_cons (de_v 1) (da_cons (de_op op_addD ro_add (de_bi call_len rc_len T.b_len PySem.boot_len (da_cons (de_v 5) da_nil)) de_int) da_nil))))
      (dss_cons (ds_set 16 sc_law.nd (de_ix (de_lst (da_cons de_str (da_cons de_str (da_cons de_str (da_cons de_str (da_cons de_str (da_cons de_int (da_cons de_non (da_cons de_str (da_cons (de_lst (da_cons (de_ix (de_v 5) de_int (fun _ _ => rfl)) da_nil)) (da_cons (de_ix (de_v 5) de_int (fun _ _ => rfl)) da_nil))))))))))) (de_fn M__law_draw Dfl.nil (hr.mono (by decide)) hx (da_cons (de_v 1) (da_cons de_int da_nil))) (fun _ _ => rfl)))
      (dss_cons (ds_set 17 sc_law.nd (de_tup (da_cons (de_ifExp (dt_cmp (op_eqA hr.units) ro_eqA (de_v 16) (de_ix (de_v 5) de_int (fun _ _ => rfl)) (nomark _)) de_str de_str) (da_cons (de_v 16) (da_cons de_bl (da_cons de_bl da_nil))))))
      (dss_one (ds_ret (de_cmp (op_eqA hr.units) ro_eqA (de_fn M__law_tried Dfl.nil (hr.mono (by decide)) hx (da_cons (de_v 3) (da_cons (de_op op_addD ro_add (de_op op_addD ro_add (de_op op_addD ro_add (de_sl (de_v 5) do_none (do_some (de_v 15))) (de_lst (da_cons (de_v 16) da_nil))) (de_sl (de_v 5) (do_some (de_v 15)) do_none)) (de_lst (da_cons de_str da_nil))) (da_cons (de_v 13) da_nil)))) (de_v 17) (nomark _))))))))))))))))))))))))))))), fun ds M R W h => ?_⟩)
  · match ds, h with | [_], _ => rfl
  · match ds, h with
    | [x], h =>
      obtain ⟨ns, e, hl, k⟩ := h
      have a1 := T.at_Row_steps
      have a2 := T.at_Book_names
      have a3 := T.at_Book_facts
      cases e
      walk_at "s"
      refine ⟨ns, rfl, hl, fun p m hp hb => ?_⟩
      have hb2 : BagM m 2000 := hb.mono (by decide)
      walk_at "s"
      refine ⟨p, m, 3, 1990, rfl, by decide, log_ok (by decide), updM_same, hb2.mono (by decide), fun z m1 z0 z1 b1 => ?_⟩
      rw [updM_updM]
      obtain ⟨n, rfl⟩ : ∃ n : Nat, z = (n : Int) := ⟨z.toNat, by omega⟩
      walk_at "s"
      refine ⟨p, m1, 1 + n, 1940, rfl, (by show D.int _ = D.int _; congr 1), by omega, by omega, updM_same, b1, fun ps m2 kd lp b2 => ?_⟩
      rw [updM_updM]
      walk_at "s"
      have g := kd.good
      have nps : ps.map qP ≠ [] := fun z => g.ne (List.map_eq_nil_iff.mp z)
      have sg : scan [] (ps.map qP) = .ok ps := scan_good (done := []) g.nm g.kd g.nd
      have plp : ∀ {ps : PL}, GoodP ps → ∀ x ∈ ps.map qP, Pln x.1 ∧ Pln x.2 := fun g x hx => by
        obtain ⟨q, hq, rfl⟩ := List.mem_map.mp hx
        refine ⟨name_len (g.nm q hq), ?_⟩
        have h1 := g.kd q hq
        unfold kdS at h1
        simp only [Bool.or_eq_true, decide_eq_true_eq] at h1
        show q.2.length ≤ sizeLine
        rcases h1 with h1 | h1 | h1 <;> (rw [h1]; exact le_line2 (by decide +kernel))
      refine fun q hq => ⟨q, ps.map prD, ps.map qP, rfl, .inl rfl, updM_same, ItemsP.of ps, nps, by rw [List.length_map]; omega, plp g, ?_⟩
      rw [sg]
      walk_at "s"
      rw [updM_updM, delM_updM hq]
      walk_at "s"
      refine ⟨le_line2 (by rw [List.length_map]; show _ + 1 ≤ _; omega), ?_⟩
      have ga := alien_good kd
      have npa : (alienP ps).map qP ≠ [] := fun z => ga.ne (List.map_eq_nil_iff.mp z)
      have sa : scan [] ((alienP ps).map qP) = .ok (alienP ps) := scan_good (done := []) ga.nm ga.kd ga.nd
      have ea : ps.map prD ++ [D.tup [.str "zz", .str "free"]] = (alienP ps).map prD := by unfold alienP; rw [List.map_append]; rfl
      rw [ea]
      walk_at "s"
      refine fun q hq => ⟨q, (alienP ps).map prD, (alienP ps).map qP, rfl, .inl rfl, updM_same, ItemsP.of _, npa, by rw [List.length_map]; unfold alienP; rw [List.length_append]; show _ + 1 ≤ _; omega, plp ga, ?_⟩
      rw [sa]
      walk_at "s"
      rw [updM_updM, delM_updM hq]
      walk_at "s"
      refine ⟨p, m2, 4, 1939, rfl, by decide, log_ok (by decide), updM_same, b2, fun z m3 z0 z1 b3 => ?_⟩
      rw [updM_updM]
      obtain ⟨n2, rfl⟩ : ∃ n : Nat, z = (n : Int) := ⟨z.toNat, by omega⟩
      walk_at "s"
      refine ⟨by omega, by omega, ?_⟩
      have e0 : ((1 + (n2 : Int)).toNat) = 1 + n2 := by omega
      rw [e0, rangeD_up]
      walk_at "s"
      refine dLcL_ind (fun r acc M' => ∃ (j n3 : Nat) (done : List Str) (mm : MO), r = upD j n3 ∧ j + n3 = 1 + n2 ∧ done.length = j ∧ acc = done.map D.str ∧ M' = updM M p mm ∧ BagM mm (1900 + 4 * n3) ∧ (∀ (i : Nat) (x : Str), done[i]? = some x → IdentP (5 + i) x)) ⟨0, 1 + n2, [], m3, rfl, by omega, rfl, rfl, rfl, b3.mono (by omega), fun _ _ z => by simp at z⟩ ?_ ?_
      · rintro _ r _ _ ⟨j, n3, done, mm, e1, e2, e3, rfl, rfl, bm, gd⟩ ih
        cases n3 with
        | zero => cases e1
        | succ n3 =>
        cases e1
        walk_at "s"
        refine ⟨p, mm, 5 + j, 1900 + 4 * n3, rfl, (by show D.int _ = D.int _; congr 1), by omega, updM_same, bm.mono (by omega), fun x m4 ix b4 => ?_⟩
        rw [updM_updM]
        refine ⟨lt_line (by rw [List.length_map]; omega), ?_⟩
        refine ih _ _ ⟨j + 1, n3, done ++ [x], m4, rfl, by omega, by rw [List.length_append, e3]; rfl, by rw [List.map_append]; rfl, rfl, b4, fun i q' hq' => ?_⟩
        by_cases hl : i < done.length
        · rw [List.getElem?_append_left hl] at hq'
          exact gd i q' hq'
        · have h1 := (List.getElem?_eq_some_iff.mp hq').1
          rw [List.length_append, List.length_singleton] at h1
          have h2 : i = done.length := by omega
          subst h2
          rw [List.getElem?_concat_length] at hq'
          cases hq'
          rw [e3]
          exact ix
      rintro _ _ ⟨j, n3, names, m4, e1, e2, e3, rfl, rfl, b4, gd⟩
      cases n3 with
      | succ n3 => cases e1
      | zero =>
      have nm : NmsP names := ⟨gd, by omega, by omega⟩
      have ln : (names.map D.str).length = names.length := List.length_map ..
      walk_at "s"
      refine fun q hq => ?_
      have qp : q ≠ p := by rintro rfl; rw [updM_same] at hq; cases hq
      have hq0 : M q = none := by rw [updM_ne qp] at hq; exact hq
      walk_at "s"
      refine ⟨p, m4, 5, 1890, rfl, by decide, log_ok (by decide), updM_at qp, b4.mono (by decide), fun z m5 z0 z1 b5 => ?_⟩
      rw [updM_swap qp]
      obtain ⟨n4, rfl⟩ : ∃ n : Nat, z = (n : Int) := ⟨z.toNat, by omega⟩
      walk_at "s"
      refine ⟨by omega, by omega, ?_⟩
      have e0 : ((n4 : Int).toNat) = n4 := by omega
      rw [e0, rangeD_up]
      walk_at "s"
      refine dLoop_ind (fun r τ M' => ∃ (j n5 : Nat) (fs : List Fct) (mm : MO) (v7 v8 v9 v10 v11 v12 v13 v14 v15 v16 v17 v18 v19 v20 v21 : Option D), r = upD j n5 ∧ j + n5 = n4 ∧ fs.length = j ∧ (∀ f ∈ fs, FctOk names f) ∧ τ = [some (.scr ns), some (.ref p), some (.lst (ps.map prD)), some (scD C_Scales ps), some (scD C_Scales (alienP ps)), some (.lst (names.map .str)), some (.ref q), v7, v8, v9, v10, v11, v12, v13, v14, v15, v16, v17, v18, v19, v20, v21] ∧ M' = updM (updM M p mm) q (.lst ((fs.map (Fct.th ps)).map (Thing.d C_Form C_Row C_Scales))) ∧ BagM mm (1700 + 30 * n5)) ⟨0, n4, [], m5, _, _, _, _, _, _, _, _, _, _, _, _, _, _, _, rfl, by omega, rfl, (by simp), rfl, rfl, b5.mono (by omega)⟩ ?_ ?_
      · rintro _ r _ _ ⟨j, n5, fs, mm, v7, v8, v9, v10, v11, v12, v13, v14, v15, v16, v17, v18, v19, v20, v21, e5, e6, e7, of, rfl, rfl, bm⟩ ih
        cases n5 with
        | zero => cases e5
        | succ n5 =>
        cases e5
        walk_at "s"
        refine ⟨p, mm, ((names.map D.str).length : Int), 1700 + 30 * n5 + 28, rfl, by have := nm.pos; omega, log_ok (by have := nm.few; omega), updM_at qp, bm.mono (by omega), fun z m6 z0 z1 b6 => ?_⟩
        rw [updM_swap qp]
        rw [ln] at z1
        obtain ⟨one, h1, e8⟩ := atD_mapZ (f := D.str) z0 z1
        walk_at "w"
        rw [e8]
        walk_at "s"
        refine ⟨p, m6, ((names.map D.str).length : Int), 1700 + 30 * n5 + 27, rfl, by have := nm.pos; omega, log_ok (by have := nm.few; omega), updM_at qp, b6.mono (by omega), fun z m7 z0 z1 b7 => ?_⟩
        rw [updM_swap qp]
        rw [ln] at z1
        obtain ⟨other, h2, e9⟩ := atD_mapZ (f := D.str) z0 z1
        walk_at "w"
        rw [e9]
        walk_at "s"
        refine ⟨p, m7, ps, 1700 + 30 * n5 + 1, rfl, rfl, rfl, rfl, kd.pos, by have := kd.few; omega, updM_at qp, b7.mono (by omega), fun qs m8 lqs hqs b8 => ?_⟩
        rw [updM_swap qp]
        walk_at "s"
        refine fun rr hrr => ?_
        refine ⟨rr, ps, qs.map qD, rfl, rfl, updM_same, ⟨qs.map stD, none, rfl, items_of qs⟩, by rw [List.length_map]; omega, fun y hy => ?_, .inl ⟨qs, rfl, hqs, ?_⟩⟩
        · obtain ⟨r, hr, rfl⟩ := List.mem_map.mp hy
          obtain ⟨z, hz, ez⟩ := List.mem_map.mp (hqs r hr)
          show r.1.length ≤ sizeLine
          rw [← ez]
          exact name_len (g.nm z hz)
        walk_at "s"
        rw [updM_updM, delM_updM hrr]
        walk_at "s"
        refine ⟨p, m8, 1700 + 30 * n5, rfl, updM_at qp, b8.mono (by omega), fun rel m9 hrel b9 => ?_⟩
        rw [updM_swap qp]
        walk_at "s"
        refine ⟨lt_line (by rw [List.length_map, List.length_map]; omega), ?_⟩
        walk_at "s"
        rw [updM_updM]
        refine ih _ _ ⟨j + 1, n5, fs ++ [⟨one, nrm qs, rel, other⟩], m9, _, _, _, _, _, _, _, _, _, _, _, _, _, _, _, rfl, by omega, by rw [List.length_append, e7]; rfl, fun f hf => ?_, rfl, ?_, b9⟩
        · rcases List.mem_append.mp hf with hf | hf
          · exact of f hf
          · rw [List.mem_singleton.mp hf]
            exact ⟨h1, h2, hrel⟩
        · rw [List.map_append, List.map_append]
          rfl
      · rintro _ _ ⟨j, n5, fs, mm, v7, v8, v9, v10, v11, v12, v13, v14, v15, v16, v17, v18, v19, v20, v21, e5, e6, e7, of, rfl, rfl, bm⟩
        cases n5 with
        | succ n5 => cases e5
        | zero =>
        walk_at "s"
        rw [delM_updM (by rw [updM_ne qp]; exact hq0)]
        walk_at "s"
        have lfs : fs.length ≤ 4 := by omega
        refine dLcL_indC (fun r acc => ∃ f1 f2, f1 ++ f2 = fs ∧ r = f2.map (fun f => Thing.d C_Form C_Row C_Scales (f.th ps)) ∧ acc = f1.map Fct.told) ⟨[], fs, rfl, by rw [List.map_map]; rfl, rfl⟩ ?_ ?_
        · rintro _ r _ ⟨f1, f2, ef, e2, rfl⟩ ih
          cases f2 with
          | nil => cases e2
          | cons x f2 =>
          cases e2
          have lt : f1.length < 1000 := by have := congrArg List.length ef; simp at this; omega
          walk_at "s"
          refine ⟨lt_line (by rw [List.length_map]; omega), ?_⟩
          exact ih _ ⟨f1 ++ [x], f2, by rw [← ef]; simp, rfl, by rw [List.map_append]; rfl⟩
        rintro _ ⟨f1, f2, ef, e2, rfl⟩
        cases f2 with
        | cons x f2 => cases e2
        | nil =>
        rw [List.append_nil] at ef
        subst ef
        walk_at "s"
        refine fun l1 hl1 => ?_
        walk_at "s"
        refine fun l2 hl2 => ?_
        have l12 : l2 ≠ l1 := by rintro rfl; rw [updM_same] at hl2; cases hl2
        have l1p : l1 ≠ p := by rintro rfl; rw [updM_same] at hl1; cases hl1
        have l2p : l2 ≠ p := by rintro rfl; rw [updM_ne l1p.symm, updM_same] at hl2; cases hl2
        obtain ⟨M1, hM1⟩ : ∃ M1, M1 = updM (updM (updM M p mm) l1 (.lst (names.map D.str))) l2 (MO.lst (List.map (Thing.d C_Form C_Row C_Scales) (List.map (Fct.th ps) f1))) := ⟨_, rfl⟩
        rw [← hM1]
        have hMp : M1 p = some mm := by rw [hM1, updM_ne l2p.symm, updM_ne l1p.symm, updM_same]
        have hM1a : M1 l1 = some (.lst (names.map D.str)) := by rw [hM1, updM_ne l12.symm, updM_same]
        have hM1b : M1 l2 = some (MO.lst (List.map (Thing.d C_Form C_Row C_Scales) (List.map (Fct.th ps) f1))) := by rw [hM1, updM_same]
        walk_at "s"
        refine fun bk hbk => ?_
        have b1 : l1 ≠ bk := by rintro rfl; rw [hM1a] at hbk; cases hbk
        have b2' : l2 ≠ bk := by rintro rfl; rw [hM1b] at hbk; cases hbk
        have plN : ∀ x ∈ names.map D.str, Pln x := fun x hx => by
          obtain ⟨y, hy, rfl⟩ := List.mem_map.mp hx
          exact name_len (nm.nm y hy)
        have okF : ∀ t ∈ f1.map (Fct.th ps), t.ok := fun t ht => by
          obtain ⟨y, hy, rfl⟩ := List.mem_map.mp ht
          exact (of y hy).ok nm.nm ps
        refine ⟨bk, ps, names.map D.str, f1.map (Fct.th ps), rfl, rfl, updM_same, .inl (by rw [vw_ne b1, vw_at hM1a]; rfl), .inl (by rw [vw_ne b2', vw_at hM1b]; rfl), plN, okF, by rw [ln]; omega, by rw [List.length_map]; omega, ?_⟩
        rw [bookS_ok nm of]
        walk_at "s"
        rw [updM_updM, delM_updM hbk]
        walk_at "s"
        refine ⟨by unfold isLst; rw [vw_at hM1a]; trivial, ?_⟩
        walk_at "s"
        rw [hM1a]
        walk_at "s"
        refine ⟨by unfold isLst; rw [vw_ne l12, vw_at hM1b]; trivial, ?_⟩
        walk_at "s"
        rw [updM_ne l12, hM1b]
        walk_at "s"
        obtain ⟨M2, hM2⟩ : ∃ M2, M2 = updM (updM M1 l1 (.lst [])) l2 (.lst []) := ⟨_, rfl⟩
        rw [← hM2]
        have hMp2 : M2 p = some mm := by rw [hM2, updM_ne l2p.symm, updM_ne l1p.symm, hMp]
        have pdN : PD 64 (.tup (names.map D.str)) := fun x hx => by
          obtain ⟨y, _, rfl⟩ := List.mem_map.mp hx
          trivial
        have vM : ∀ (X : MS) (d : List D), PD 64 (.tup d) → dEqB (vw X (.tup d)) (vw X (.tup d)) = true := fun X d h => dEqB_refl (n := 64) h
        have pdM : PD 64 (.tup [.str "made", .bl true, .tup (names.map D.str), .lst (f1.map Fct.told)]) := fun x hx => by
          simp only [List.mem_cons, List.not_mem_nil, or_false] at hx
          rcases hx with rfl | rfl | rfl | rfl
          · trivial
          · trivial
          · intro x hx
            obtain ⟨y, _, rfl⟩ := List.mem_map.mp hx
            trivial
          · intro x hx
            obtain ⟨y, _, rfl⟩ := List.mem_map.mp hx
            intro x hx
            simp only [List.mem_cons, List.not_mem_nil, or_false] at hx
            rcases hx with rfl | rfl | rfl | rfl
            · trivial
            · intro x hx
              obtain ⟨y, _, rfl⟩ := List.mem_map.mp hx
              intro x hx
              simp only [List.mem_cons, List.not_mem_nil, or_false] at hx
              rcases hx with rfl | rfl <;> trivial
            · trivial
            · trivial
        refine ⟨ps, names.map D.str, f1.map (Fct.th ps), rfl, .inr rfl, .inr rfl, plN, okF, by rw [ln]; omega, by rw [List.length_map]; omega, ?_⟩
        rw [bookS_ok nm of]
        refine ⟨f1, rfl, ?_⟩
        walk_at "s"
        show dIte (!dEqB _ _) _ _
        rw [vM _ _ pdM]
        walk_at "s"
        show dIte (!dEqB _ _) _ _
        rw [vM _ _ pdN]
        walk_at "s"
        show dIte (!decide ((((f1.map (Fct.th ps)).map (Thing.d C_Form C_Row C_Scales)).length : Int) = ((f1.map Fct.told).length : Int))) _ _
        refine dIte_nd (fun h => absurd (by simp) h) (fun _ => ?_)
        obtain ⟨x0, e0⟩ : ∃ x0, names[0]? = some x0 := ⟨_, List.getElem?_eq_getElem (by have := nm.pos; omega)⟩
        have mx0 : x0 ∈ names := List.mem_of_getElem? e0
        have lx0 : x0.length ≤ 100 := by
          have h1 := nm.nm x0 mx0
          unfold nameB at h1
          obtain ⟨h1, _⟩ := ba h1
          obtain ⟨_, h2⟩ := ba h1
          have := of_decide_eq_true h2
          omega
        have at0 : atD (names.map D.str) 0 = some (.str x0) := atD_some (f := D.str) (z := 0) e0 rfl
        walk_at "s"
        rw [at0]
        walk_at "s"
        refine ⟨p, mm, ps, 1690, x0, rfl, rfl, rfl, rfl, lx0, g, hMp2, bm.mono (by decide), fun t m10 tok tno b10 => ?_⟩
        walk_at "s"
        refine ⟨t, ps, names, f1.map (Fct.th ps), rfl, rfl, tok, tno names true nm.zz, ?_⟩
        walk_at "s"
        have lF : ((f1.map (Fct.th ps)).map (Thing.d C_Form C_Row C_Scales)).length = f1.length := by rw [List.length_map, List.length_map]
        refine ⟨p, m10, (((f1.map (Fct.th ps)).map (Thing.d C_Form C_Row C_Scales)).length : Int) + 1, 1689, rfl, by omega, log_ok (by omega), updM_same, b10, fun a m11 a0 a1 b11 => ?_⟩
        rw [updM_updM]
        obtain ⟨i, rfl⟩ : ∃ i : Nat, a = (i : Int) := ⟨a.toNat, by omega⟩
        walk_at "s"
        rw [cut_to (i := i) rfl]
        refine ⟨le_line2 (by rw [List.length_take]; show min _ _ + 1 ≤ _; omega), ?_⟩
        walk_at "s"
        rw [cut_from (i := i) rfl]
        refine ⟨le_line2 (by rw [List.length_append, List.length_take, List.length_drop]; show min _ _ + 1 + _ ≤ _; omega), ?_⟩
        walk_at "s"
        refine ⟨p, m11, 2, 1688, rfl, by decide, log_ok (by decide), updM_same, b11, fun z m12 z0 z1 b12 => ?_⟩
        rw [updM_updM]
        obtain ⟨kk, hkk, ek⟩ : ∃ k : Nat, k ≤ 1 ∧ cutD [.non, .non] none (some z) = (List.replicate k (Thing.no .non)).map (Thing.d C_Form C_Row C_Scales) := by
          have cs : z = 0 ∨ z = 1 := by omega
          rcases cs with rfl | rfl
          · exact ⟨0, by decide, (cut_to (i := 0) (z := 0) rfl).trans rfl⟩
          · exact ⟨1, by decide, (cut_to (i := 1) (z := 1) rfl).trans rfl⟩
        walk_at "s"
        rw [ek]
        refine ⟨le_line2 (by simp; omega), ?_⟩
        obtain ⟨tb, etb⟩ : ∃ tb : List Thing, tb = (f1.take i).map (Fct.th ps) ++ t :: ((f1.drop i).map (Fct.th ps) ++ List.replicate kk (Thing.no .non)) := ⟨_, rfl⟩
        have eb : ((((f1.map (Fct.th ps)).map (Thing.d C_Form C_Row C_Scales)).take i ++ [Thing.d C_Form C_Row C_Scales t] ++ ((f1.map (Fct.th ps)).map (Thing.d C_Form C_Row C_Scales)).drop i) ++ (List.replicate kk (Thing.no .non)).map (Thing.d C_Form C_Row C_Scales)) = tb.map (Thing.d C_Form C_Row C_Scales) := by
          rw [etb]
          simp [List.map_take, List.map_drop]
        rw [eb]
        have okB : ∀ t ∈ tb, t.ok := fun y hy => by
          rw [etb] at hy
          simp only [List.mem_append, List.mem_cons] at hy
          rcases hy with hy | rfl | hy | hy
          · obtain ⟨w, hw, rfl⟩ := List.mem_map.mp hy
            exact (of w (List.mem_of_mem_take hw)).ok nm.nm ps
          · exact tok
          · obtain ⟨w, hw, rfl⟩ := List.mem_map.mp hy
            exact (of w (List.mem_of_mem_drop hw)).ok nm.nm ps
          · rw [(List.mem_replicate.mp hy).2]
            exact ⟨trivial, trivial⟩
        have lB : tb.length ≤ 1000 := by
          rw [etb]
          simp
          omega
        have bsB : bookS ps (names.map D.str) tb = .error (.fact i) := by
          rw [etb, bookS_fact nm (fun f hf => of f (List.mem_of_mem_take hf)) (tno names false nm.zz), List.length_take, Nat.min_eq_left (by omega)]
        walk_at "s"
        refine ⟨ps, names.map D.str, tb, rfl, .inl rfl, .inl rfl, plN, okB, by rw [ln]; omega, lB, ?_⟩
        rw [bsB]
        have pdF : ∀ (s : Str) (d : D), PD 63 d → PD 64 (.tup [.str s, d, .bl true, .bl false]) := fun s d pd x hx => by
          simp only [List.mem_cons, List.not_mem_nil, or_false] at hx
          rcases hx with rfl | rfl | rfl | rfl
          · trivial
          · exact pd
          · trivial
          · trivial
        have pdi := pdF "fact" (.int i) trivial
        walk_at "s"
        show dIte (!dEqB _ _) _ _
        rw [vM _ _ pdi]
        walk_at "s"
        rw [at0]
        walk_at "s"
        refine ⟨ps, rfl, ?_⟩
        obtain ⟨k0, hk0⟩ : ∃ k0, ps[0]? = some k0 := ⟨_, List.getElem?_eq_getElem (by have := kd.pos; omega)⟩
        have mk0 := List.mem_of_getElem? hk0
        walk_at "s"
        rw [atD_some (f := prD) (z := 0) hk0 rfl]
        walk_at "s"
        refine ⟨ps, rfl, name_len (g.nm k0 mk0), .inl ⟨k0.1, rfl, List.mem_map.mpr ⟨k0, mk0, rfl⟩, ?_⟩⟩
        walk_at "s"
        refine ⟨ps, [], [(k0.1, 1)], rfl, rfl, ?_⟩
        walk_at "s"
        rw [at0]
        walk_at "s"
        obtain ⟨hT, ehT⟩ : ∃ hT : Thing, hT = .cl (.str x0) (.form ps (kpt [] (List.map ddp [[([] : SL)], [[(k0.fst, 1)]]])) (kpt [] (List.map ddp [[([] : SL), [(k0.fst, 1)]]]))) (.str "<") (.str x0) := ⟨_, rfl⟩
        have eH : (f1.map (Fct.th ps)).map (Thing.d C_Form C_Row C_Scales) ++ [D.tup [.str x0, formD C_Form C_Row C_Scales ps (kpt [] (List.map ddp [[([] : SL)], [[(k0.fst, 1)]]])) (kpt [] (List.map ddp [[([] : SL), [(k0.fst, 1)]]])), .str "<", .str x0]] = (f1.map (Fct.th ps) ++ [hT]).map (Thing.d C_Form C_Row C_Scales) := by
          rw [List.map_append, ehT]
          rfl
        have okH : ∀ t ∈ f1.map (Fct.th ps) ++ [hT], t.ok := fun y hy => by
          rcases List.mem_append.mp hy with hy | hy
          · exact okF y hy
          · rw [List.mem_singleton.mp hy, ehT]
            exact ⟨name_len (nm.nm x0 mx0), trivial, le_line2 (by decide +kernel), name_len (nm.nm x0 mx0)⟩
        have ncH : hT.claim ps names false = false := by
          rw [ehT]
          simp [Thing.claim, RT.good]
        refine ⟨le_line2 (by rw [lF]; show _ + 1 ≤ _; omega), ?_⟩
        rw [eH]
        walk_at "s"
        refine ⟨ps, names.map D.str, f1.map (Fct.th ps) ++ [hT], rfl, .inl rfl, .inl rfl, plN, okH, by rw [ln]; omega, by simp; omega, ?_⟩
        rw [bookS_fact nm of ncH]
        have pdl := pdF "fact" (.int f1.length) trivial
        walk_at "w"
        rw [lF]
        walk_at "s"
        show dIte (!dEqB _ _) _ _
        rw [vM _ _ pdl]
        walk_at "s"
        refine ⟨p, m12, ((names.map D.str).length : Int) + 1, 1680, rfl, by omega, log_ok (by omega), updM_same, b12.mono (by decide), fun sp m13 s0 s1 b13 => ?_⟩
        rw [updM_updM]
        obtain ⟨j2, rfl⟩ : ∃ i : Nat, sp = (i : Int) := ⟨sp.toNat, by omega⟩
        rw [ln] at s1
        walk_at "s"
        rw [at0]
        walk_at "s"
        rw [at0]
        walk_at "s"
        refine ⟨p, m13, 10, 1670, rfl, by decide, log_ok (by decide), updM_same, b13.mono (by decide), fun z m14 z0 z1 b14 => ?_⟩
        rw [updM_updM]
        obtain ⟨wd, ewd, plw, pdw, cw⟩ := wrong_ok (nm.nm x0 mx0) z0 z1
        walk_at "w"
        rw [ewd]
        have plX : ∀ wd : D, Pln wd → ∀ x ∈ (names.take j2).map D.str ++ wd :: ((names.drop j2).map D.str ++ [.str "B"]), Pln x := fun wd pw x hx => by
          simp only [List.mem_append, List.mem_cons, List.not_mem_nil, or_false] at hx
          rcases hx with hx | rfl | hx | rfl
          · obtain ⟨y, hy, rfl⟩ := List.mem_map.mp hx
            exact name_len (nm.nm y (List.mem_of_mem_take hy))
          · exact pw
          · obtain ⟨y, hy, rfl⟩ := List.mem_map.mp hx
            exact name_len (nm.nm y (List.mem_of_mem_drop hy))
          · exact le_line2 (by decide +kernel)
        have eX : ∀ wd : D, (((names.map D.str).take j2 ++ [wd]) ++ (names.map D.str).drop j2) ++ [D.str "B"] = (names.take j2).map D.str ++ wd :: ((names.drop j2).map D.str ++ [.str "B"]) := fun wd => by simp [List.map_take, List.map_drop]
        have pd63 : PD 63 wd := pdw 62
        have pd64 : PD 64 wd := pdw 63
        rcases cw with rfl | ⟨nw, ne⟩
        · walk_at "s"
          rw [at0]
          walk_at "s"
          show dIte (dEqB (.str x0) (.str x0)) _ _
          rw [dEqB_str, decide_eq_true rfl]
          walk_at "s"
          rw [cut_to (i := j2) rfl]
          refine ⟨le_line2 (by rw [List.length_take]; show min _ _ + 1 ≤ _; omega), ?_⟩
          walk_at "s"
          rw [cut_from (i := j2) rfl]
          refine ⟨le_line2 (by rw [List.length_append, List.length_take, List.length_drop]; show min _ _ + 1 + _ ≤ _; omega), ?_⟩
          walk_at "s"
          refine ⟨le_line2 (by rw [List.length_append, List.length_append, List.length_take, List.length_drop]; show min _ _ + 1 + _ + 1 ≤ _; omega), ?_⟩
          rw [eX]
          walk_at "s"
          refine ⟨ps, _, tb, rfl, .inl rfl, .inl rfl, plX _ plw, okB, by simp; omega, lB, ?_⟩
          rw [bookS_names (twice_scan nm e0 j2)]
          have pdt := pdF "twice" (.str x0) trivial
          walk_at "s"
          show Rt R (.bl (dEqB (vw (updM M2 p m14) (.tup [.str "twice", .str x0, .bl true, .bl false])) (vw (updM M2 p m14) (.tup [.str "twice", .str x0, .bl true, .bl false])))) _
          rw [vM _ _ pdt]
          exact Rt.of (k _)
        · cases wd <;> try exact plw.elim
          case dct => exact pd63.elim
          all_goals
            walk_at "s"
            rw [at0]
            walk_at "s"
            first | (refine dIte_fe ne ?_; walk_at "s") | skip
            rw [cut_to (i := j2) rfl]
            refine ⟨le_line2 (by rw [List.length_take]; show min _ _ + 1 ≤ _; omega), ?_⟩
            walk_at "s"
            rw [cut_from (i := j2) rfl]
            refine ⟨le_line2 (by rw [List.length_append, List.length_take, List.length_drop]; show min _ _ + 1 + _ ≤ _; omega), ?_⟩
            walk_at "s"
            refine ⟨le_line2 (by rw [List.length_append, List.length_append, List.length_take, List.length_drop]; show min _ _ + 1 + _ + 1 ≤ _; omega), ?_⟩
            rw [eX]
            walk_at "s"
            refine ⟨ps, _, tb, rfl, .inl rfl, .inl rfl, plX _ plw, okB, by simp; omega, lB, ?_⟩
            rw [bookS_names (name_scan nm j2 nw)]
            have pdt := pdF "name" _ pd63
            walk_at "s"
            show Rt R (.bl (dEqB (vw (updM M2 p m14) (.tup [.str "name", _, .bl true, .bl false])) (vw (updM M2 p m14) (.tup [.str "name", _, .bl true, .bl false])))) _
            rw [vM _ _ pdt]
            exact Rt.of (k _)
end
end RS

set_option maxRecDepth 100000
set_option maxHeartbeats 4000000
namespace RS
open PySem PySem.Spec PyProof.Rows L2 NdefX He
section
variable {P : Program} {w : World} {K : PySem.W.Frag} {mg : Str → Option Value} {base : Heap}
structure TPen (mg : Str → Option Value) : Prop where
  b_int : mg "int" = none
  b_len : mg "len" = none
  b_list : mg "list" = none
abbrev s__law_bag : Stmt := top 79
theorem sc__law_bag : FnScope ["_law_script", "_law_fold", "_law_cell"] ["_law_script"] (defScope s__law_bag) := ⟨rfl, rfl, rfl, by decide +kernel, rfl, by decide +kernel, by decide +kernel⟩
theorem ok_pen {f : Addr} {fd : FuncData} (F : FnP K "_law_bag" "_law_bag" s__law_bag f fd) (T : TPen mg) : FnOk P w K mg base CX0 1 f fd ["_law_script"] (spPen K) := by
  refine F.ok sc__law_bag (fun vs H Q E h => ?_) (fun cdv A outer s H vs Q E hr h => ?_)
  · obtain ⟨a, ns, rfl, _⟩ := h
    rfl
  · obtain ⟨a, ns, rfl, hS, hl, k⟩ := h
    refine ⟨_, PSs.nox (pss_cons (ps_set (i := 1) sc__law_bag.nd rfl (by first | exact Or.inl rfl | exact Or.inr rfl) pe_int)
      (pss_cons (ps_for PassesOwn.never rfl (pi_list (pv 0)) (pg_name (i := 2) sc__law_bag.nd rfl (by first | exact Or.inl rfl | exact Or.inr rfl)) (pss_one (ps_set (i := 1) sc__law_bag.nd rfl (by first | exact Or.inl rfl | exact Or.inr rfl) (pe_op op_mod (pe_callTy call_int1 (by rfl) T.b_int (by decide +kernel) (pa_cons (pe_op op_add (pe_op op_mul (pv 1) pe_int) (pv 2)) pa_nil)) pe_int))))
      (pss_one (ps_ret (pe_disp (pps_cons pe_str (pe_callTy call_list_of (by rfl) T.b_list (by decide +kernel) (pa_cons (pv 0) pa_nil)) (pps_cons pe_str pe_int (pps_cons pe_str pe_int (pps_cons pe_str pe_int (pps_cons pe_str (pv 1) pps_nil))))) (by rfl) (by rfl) (fun z => by cases z) (by decide)))))), ?_⟩
    refine ⟨_, rfl, a, rfl, ⟨_, hS⟩, for_list (K := K) (a := a) (xs := ns.map V.int) (fun i σ H' => H' = H ∧ ∃ (f : Int) (z : Option V), σ = [some (.ref a), some (.int f), z] ∧ 0 ≤ f ∧ f < 2 ^ 32) ⟨rfl, 0, none, rfl, by decide, by decide⟩ (fun i σ H' _ z => z.1 ▸ hS) ?_ ?_⟩
    · rintro i x σ H' hi ⟨rfl, f, z, rfl, f0, f1⟩
      obtain ⟨m, _, rfl⟩ := ints_at hi
      have q := mod_in (x := f * 37 + m) (show (0 : Int) < 1000000009 by decide)
      exact ⟨_, rfl, _, _, rfl, rfl, .inr ⟨by decide, by decide⟩, _, rfl, _, _, rfl, rfl, .inl ⟨_, rfl, _, _, rfl, rfl, by show (0 : Int) < _; decide, rfl, _, _, rfl, q.1, by have := q.2; omega⟩⟩
    · rintro σ H' ⟨rfl, f, z, rfl, f0, f1⟩
      intro p hp
      have hS1 : SqL K (upd H' p (.dK [])) a (ns.map V.int) := (Same.new hp).seq hS
      refine ⟨_, rfl, a, _, rfl, .inl hS1, fun l hl => ?_⟩
      have hpp : (upd (upd H' p (.dK [])) l (.lst (ns.map V.int))) p = some (.dK []) := upd_old hl upd_same
      refine ⟨_, rfl, hpp, [(.inr "cells", .ref l), (.inr "at", .int 0), (.inr "digits", .int 0), (.inr "count", .int 0), (.inr "fold", .int f)], rfl, by show 5 ≤ 15; decide, ?_⟩
      have npl : p ≠ l := ne_of_none (upd_same (H := H') (a := p) (o := .dK [])) hl
      have hl0 : H' l = none := by rw [upd_ne npl.symm] at hl; exact hl
      refine k p l _ (fun b o e => ?_) hp hl0 ⟨ns, 0, 0, 0, f, ?_, by rw [upd_ne npl.symm]; exact upd_same, by decide, by decide, by decide, by decide, f0, f1⟩
      · rw [upd_ne (ne_of_none e hp)]
        exact upd_old hl (upd_old hp e)
      · rw [upd_same, merge_bag]
abbrev s__law_draw : Stmt := top 80
theorem sc__law_draw : FnScope ["_law_bag_here", "_law_limit", "_law_base", "_law_cell", "_law_digit"] ["_law_bag_here", "_law_limit"] (defScope s__law_draw) := ⟨rfl, rfl, rfl, by decide +kernel, rfl, by decide +kernel, by decide +kernel⟩
theorem ok_draw {f : Addr} {fd : FuncData} (F : FnP K "_law_draw" "_law_draw" s__law_draw f fd) (T : TPen mg) : FnOk P w K mg base CX0 1 f fd ["_law_bag_here", "_law_limit"] spDraw := by
  refine F.ok sc__law_draw (fun vs H Q E h => ?_) (fun cdv A outer s H vs Q E hr h => ?_)
  · obtain ⟨a, c, ns, b, rfl, _⟩ := h
    rfl
  · obtain ⟨p, c, m, b, rfl, hm, hm2, P, k⟩ := h
    obtain ⟨cs, a, d, n, f, hp, hc, h0, h1, h2, h3, h4, h5⟩ := P.ex
    have hu := hu_of hr
    have ncp : c ≠ p := ne_of hc hp (by intro z; cases z)
    refine ⟨_, PSs.nox (pss_cons (ps_dput hu (pv 0) pe_str (pe_op op_add (pe_dget hu (pv 0) pe_str (fun _ _ => rfl)) pe_int) rfl)
      (Evl.pss_cut (ps_if (PW.pt (pw_and (pt_cmpR op_eq (pe_dget hu (pv 0) pe_str (fun _ _ => rfl)) pe_int (nomark _)) (pw_and1 (pt_cmpR op_lt (pe_dget hu (pv 0) pe_str (fun _ _ => rfl)) (pe_callB call_len (by rfl) T.b_len PySem.boot_len (pa_cons (pe_dget hu (pv 0) pe_str (fun _ _ => rfl)) pa_nil)) (nomark _))))) (pss_cons (ps_set (i := 3) sc__law_draw.nd rfl (by first | exact Or.inl rfl | exact Or.inr rfl) (pe_ix ix_list (pe_dget hu (pv 0) pe_str (fun _ _ => rfl)) (pe_dget hu (pv 0) pe_str (fun _ _ => rfl)) (fun _ _ => rfl)))
      (pss_cons (ps_dput hu (pv 0) pe_str (pe_op op_add (pe_dget hu (pv 0) pe_str (fun _ _ => rfl)) pe_int) rfl)
      (pss_one (ps_if (pt_cmpR op_ge (pv 3) (pe_op op_pow pe_int pe_int) (nomark _)) (pss_one (ps_dput hu (pv 0) pe_str (pe_op op_sub (pv 3) (pe_op op_pow pe_int pe_int)) rfl)) (pss_one (ps_dput hu (pv 0) pe_str (pe_op op_mod (pe_callTy call_int1 (by rfl) T.b_int (by decide +kernel) (pa_cons (pe_op op_add (pe_op op_mul (pe_dget hu (pv 0) pe_str (fun _ _ => rfl)) pe_int) (pv 3)) pa_nil)) pe_int) rfl)))))) pss_nil)
      (pss_cons (ps_if (pt_cmpR op_gt (pe_dget hu (pv 0) pe_str (fun _ _ => rfl)) pe_int (nomark _)) (pss_cons (ps_set (i := 4) sc__law_draw.nd rfl (by first | exact Or.inl rfl | exact Or.inr rfl) (pe_op op_mod (pe_callTy call_int1 (by rfl) T.b_int (by decide +kernel) (pa_cons (pe_dget hu (pv 0) pe_str (fun _ _ => rfl)) pa_nil)) (pv 1)))
      (pss_cons (ps_dput hu (pv 0) pe_str (pe_op op_fdivW (pe_dget hu (pv 0) pe_str (fun _ _ => rfl)) (pv 1)) rfl)
      (pss_one (ps_ret (pv 4))))) pss_nil)
      (pss_cons (ps_set (i := 2) sc__law_draw.nd rfl (by first | exact Or.inl rfl | exact Or.inr rfl) (pe_op op_add (pe_op op_add (pe_dget hu (pv 0) pe_str (fun _ _ => rfl)) (pe_op op_mul (pe_dget hu (pv 0) pe_str (fun _ _ => rfl)) pe_int)) pe_int))
      (pss_one (ps_ret (pe_op op_mod (pe_op op_fdivW (pe_callTy call_int1 (by rfl) T.b_int (by decide +kernel) (pa_cons (pe_op op_mod (pe_op op_pow (pv 2) pe_int) pe_int) pa_nil)) pe_int) (pv 1)))))))), ?_⟩
    -- count
    refine ⟨_, rfl, p, _, rfl, dg_count hp, _, _, rfl, rfl, _, rfl, p, _, rfl, dp_count hp, ?_⟩
    have hp1 : (upd H p (.dK (bagD c a d (n + 1) f))) p = some (.dK (bagD c a d (n + 1) f)) := upd_same
    have hc1 : (upd H p (.dK (bagD c a d (n + 1) f))) c = some (.lst (cs.map V.int)) := by rw [upd_ne ncp]; exact hc
    have S1 : Sav p H (upd H p (.dK (bagD c a d (n + 1) f))) := Sav.own
    have G1 : ∃ H1 : Hp, H1 = upd H p (.dK (bagD c a d (n + 1) f)) := ⟨_, rfl⟩
    obtain ⟨H1, g1⟩ := G1
    rw [← g1] at hp1 hc1 S1 ⊢
    clear g1
    -- a cell is read
    refine ⟨fun σ' H' => ∃ (z : Option V) (a d f : Int), σ' = [some (.ref p), some (.int m), none, z, none] ∧ H' p = some (.dK (bagD c a d (n + 1) f)) ∧ H' c = some (.lst (cs.map V.int)) ∧ Sav p H H' ∧ 0 ≤ a ∧ 0 ≤ d ∧ 0 ≤ f ∧ f < 2 ^ 32, ?_, ?_⟩
    · refine ⟨_, rfl, p, _, rfl, dg_digits hp1, rfl, _, rfl, ?_⟩
      refine ite2 (fun hd => ?_) (fun _ => iteF ⟨_, a, d, f, rfl, hp1, hc1, S1, h0, h1, h4, h5⟩)
      refine ⟨_, rfl, p, _, rfl, dg_at hp1, _, rfl, p, _, rfl, dg_cells hp1, _, _, rfl, .inl ⟨_, SqL.of hc1, rfl⟩, _, _, rfl, rfl, _, rfl, ?_⟩
      refine ite2 (fun ha => ?_) (fun _ => ⟨_, a, d, f, rfl, hp1, hc1, S1, h0, h1, h4, h5⟩)
      have ha2 : a < cs.length := by have := of_decide_eq_true ha; rw [List.length_map] at this; exact this
      obtain ⟨j, rfl⟩ : ∃ j : Nat, a = (j : Int) := ⟨a.toNat, by omega⟩
      have hj : j < cs.length := by omega
      have hix : atI (cs.map V.int) (j : Int) = some (.int cs[j]) := atI_nat (by rw [List.getElem?_map, List.getElem?_eq_getElem hj]; rfl)
      refine ⟨_, rfl, p, _, rfl, dg_cells hp1, _, rfl, p, _, rfl, dg_at hp1, c, _, _, _, rfl, rfl, SqL.of hc1, hix, ?_⟩
      refine ⟨_, rfl, p, _, rfl, dg_at hp1, _, _, rfl, rfl, _, rfl, p, _, rfl, dp_at hp1, ?_⟩
      have hp2 : (upd H1 p (.dK (bagD c ((j : Int) + 1) d (n + 1) f))) p = some (.dK (bagD c ((j : Int) + 1) d (n + 1) f)) := upd_same
      have hc2 : (upd H1 p (.dK (bagD c ((j : Int) + 1) d (n + 1) f))) c = some (.lst (cs.map V.int)) := by rw [upd_ne ncp]; exact hc1
      refine ⟨_, rfl, _, _, rfl, rfl, ⟨by decide, by decide, by decide⟩, _, _, rfl, rfl, _, rfl, ?_⟩
      refine ite2 (fun hg => ?_) (fun _ => ?_)
      · have hg2 := of_decide_eq_true hg
        refine ⟨_, rfl, _, _, rfl, rfl, ⟨by decide, by decide, by decide⟩, _, _, rfl, rfl, _, rfl, p, _, rfl, dp_digits hp2, ?_⟩
        refine ⟨_, (j : Int) + 1, _, f, rfl, upd_same, by rw [upd_ne ncp]; exact hc2, S1.trans (Sav.own.trans Sav.own), by omega, ?_, h4, h5⟩
        have e : (10 : Int) ^ (18 : Int).toNat = 1000000000000000000 := by decide
        rw [e] at hg2 ⊢
        omega
      · have q := mod_in (x := f * 69069 + cs[j]) (show (0 : Int) < 2147483587 by decide)
        refine ⟨_, rfl, p, _, rfl, dg_fold hp2, _, _, rfl, rfl, .inr ⟨by decide, by decide⟩, _, rfl, _, _, rfl, rfl, .inl ⟨_, rfl, _, _, rfl, rfl, by show (0 : Int) < _; decide, _, rfl, p, _, rfl, dp_fold hp2, ?_⟩⟩
        exact ⟨_, (j : Int) + 1, d, _, rfl, upd_same, by rw [upd_ne ncp]; exact hc2, S1.trans (Sav.own.trans Sav.own), by omega, h1, q.1, by have := q.2; omega⟩
    · rintro σ' H2 ⟨z, a, d, f, rfl, hp2, hc2, S2, h0, h1, h4, h5⟩
      refine ⟨_, rfl, p, _, rfl, dg_digits hp2, _, _, rfl, rfl, _, rfl, ?_⟩
      refine ite2 (fun hd => ?_) (fun _ => ?_)
      · refine ⟨_, rfl, p, _, rfl, dg_digits hp2, .inl ⟨_, rfl, _, rfl, _, _, rfl, rfl, hm, ?_⟩⟩
        refine ⟨_, rfl, p, _, rfl, dg_digits hp2, _, rfl, _, _, rfl, rfl, ⟨hm, hm2⟩, _, rfl, p, _, rfl, dp_digits hp2, ?_⟩
        refine ⟨_, rfl, k _ _ (mod_in hm).1 (mod_in hm).2 ⟨cs, a, _, n + 1, f, upd_same, by rw [upd_ne ncp]; exact hc2, h0, Int.ediv_nonneg h1 (by omega), by omega, by omega, h4, h5⟩ (S2.trans Sav.own)⟩
      · refine ⟨_, rfl, p, _, rfl, dg_fold hp2, _, rfl, p, _, rfl, dg_count hp2, _, _, rfl, rfl, .inr ⟨by decide, by decide⟩, _, _, rfl, rfl, _, _, rfl, rfl, ?_⟩
        refine ⟨_, rfl, _, _, rfl, rfl, ⟨by decide, by decide, by omega⟩, _, _, rfl, rfl, by show (0 : Int) < _; decide, .inl ⟨_, rfl, _, _, rfl, rfl, ⟨by decide, by decide⟩, _, rfl, _, _, rfl, rfl, hm, ?_⟩⟩
        exact k _ _ (mod_in hm).1 (mod_in hm).2 ⟨cs, a, d, n + 1, f, hp2, hc2, h0, h1, by omega, by omega, h4, h5⟩ S2
end
end RS

set_option maxRecDepth 100000
set_option maxHeartbeats 4000000
namespace RS
open PySem PySem.Spec PyProof.Rows L2 NdefX He
abbrev s_BadClaim___init__ : Stmt := inClass (top 10) 0
theorem sc_BadClaim___init__ : NScope ["self", "index", "__class__"] ["self", "index"] ["__class__"] (defScope s_BadClaim___init__) := nscope_by (by decide +kernel)
theorem ok_BadClaim___init__ {P : Program} {w : World} {K : PySem.W.Frag} {mg : Str → Option Value} {base : Heap} {C f : Addr} {fd : FuncData} (F : FunX K P "__init__" "BadClaim.__init__" (defArgs s_BadClaim___init__) (defBody s_BadClaim___init__) (defScope s_BadClaim___init__) C f fd) (T : ExcT K C) (n0 : NoAttr K C "index") (hmg : mg "super" = none) (htop : (P.main.scope.names.lookup ("super" : Str)).isSome = false) :
    FnOk P w K mg base CX0 1 f fd ["self", "index"] (spEx C ["index"]) := by
  refine fnx_of (k := 0) F sc_BadClaim___init__ T.sup rfl rfl rfl hmg htop (fun _ _ _ => ⟨_, rfl⟩) (fun _ _ _ => rfl) (fun vs H Q E h => ?_) (fun cda cc A outer s H vs Q E hr h => ?_)
  · obtain ⟨a, ws, rfl, hl, _⟩ := h
    simpa using hl
  · obtain ⟨a, ws, rfl, hl, ha, k0, k⟩ := h
    match ws, hl with
    | [v0], _ =>
      refine ⟨a, [v0], _, rfl, ha, (pss_one (ps_ost (pv 0) (pv 1))), ?_⟩
      refine ⟨_, rfl, _, rfl, a, C, rfl, T.sup.ox, n0, .inl ⟨ha, fun dx hd hne => ?_⟩⟩
      exact k (by simp) dx _ hd hne upd_same (by rw [upd_ne hne, upd_same]; rfl) (fun b h1 h2 => by rw [upd_ne h1, upd_ne h2])
abbrev s_BadFact___init__ : Stmt := inClass (top 9) 0
theorem sc_BadFact___init__ : NScope ["self", "index", "__class__"] ["self", "index"] ["__class__"] (defScope s_BadFact___init__) := nscope_by (by decide +kernel)
theorem ok_BadFact___init__ {P : Program} {w : World} {K : PySem.W.Frag} {mg : Str → Option Value} {base : Heap} {C f : Addr} {fd : FuncData} (F : FunX K P "__init__" "BadFact.__init__" (defArgs s_BadFact___init__) (defBody s_BadFact___init__) (defScope s_BadFact___init__) C f fd) (T : ExcT K C) (n0 : NoAttr K C "index") (hmg : mg "super" = none) (htop : (P.main.scope.names.lookup ("super" : Str)).isSome = false) :
    FnOk P w K mg base CX0 1 f fd ["self", "index"] (spEx C ["index"]) := by
  refine fnx_of (k := 0) F sc_BadFact___init__ T.sup rfl rfl rfl hmg htop (fun _ _ _ => ⟨_, rfl⟩) (fun _ _ _ => rfl) (fun vs H Q E h => ?_) (fun cda cc A outer s H vs Q E hr h => ?_)
  · obtain ⟨a, ws, rfl, hl, _⟩ := h
    simpa using hl
  · obtain ⟨a, ws, rfl, hl, ha, k0, k⟩ := h
    match ws, hl with
    | [v0], _ =>
      refine ⟨a, [v0], _, rfl, ha, (pss_one (ps_ost (pv 0) (pv 1))), ?_⟩
      refine ⟨_, rfl, _, rfl, a, C, rfl, T.sup.ox, n0, .inl ⟨ha, fun dx hd hne => ?_⟩⟩
      exact k (by simp) dx _ hd hne upd_same (by rw [upd_ne hne, upd_same]; rfl) (fun b h1 h2 => by rw [upd_ne h1, upd_ne h2])
abbrev s_BadKind___init__ : Stmt := inClass (top 5) 0
theorem sc_BadKind___init__ : NScope ["self", "kind", "__class__"] ["self", "kind"] ["__class__"] (defScope s_BadKind___init__) := nscope_by (by decide +kernel)
theorem ok_BadKind___init__ {P : Program} {w : World} {K : PySem.W.Frag} {mg : Str → Option Value} {base : Heap} {C f : Addr} {fd : FuncData} (F : FunX K P "__init__" "BadKind.__init__" (defArgs s_BadKind___init__) (defBody s_BadKind___init__) (defScope s_BadKind___init__) C f fd) (T : ExcT K C) (n0 : NoAttr K C "kind") (hmg : mg "super" = none) (htop : (P.main.scope.names.lookup ("super" : Str)).isSome = false) :
    FnOk P w K mg base CX0 1 f fd ["self", "kind"] (spEx C ["kind"]) := by
  refine fnx_of (k := 0) F sc_BadKind___init__ T.sup rfl rfl rfl hmg htop (fun _ _ _ => ⟨_, rfl⟩) (fun _ _ _ => rfl) (fun vs H Q E h => ?_) (fun cda cc A outer s H vs Q E hr h => ?_)
  · obtain ⟨a, ws, rfl, hl, _⟩ := h
    simpa using hl
  · obtain ⟨a, ws, rfl, hl, ha, k0, k⟩ := h
    match ws, hl with
    | [v0], _ =>
      refine ⟨a, [v0], _, rfl, ha, (pss_one (ps_ost (pv 0) (pv 1))), ?_⟩
      refine ⟨_, rfl, _, rfl, a, C, rfl, T.sup.ox, n0, .inl ⟨ha, fun dx hd hne => ?_⟩⟩
      exact k (by simp) dx _ hd hne upd_same (by rw [upd_ne hne, upd_same]; rfl) (fun b h1 h2 => by rw [upd_ne h1, upd_ne h2])
abbrev s_BadName___init__ : Stmt := inClass (top 3) 0
theorem sc_BadName___init__ : NScope ["self", "name", "__class__"] ["self", "name"] ["__class__"] (defScope s_BadName___init__) := nscope_by (by decide +kernel)
theorem ok_BadName___init__ {P : Program} {w : World} {K : PySem.W.Frag} {mg : Str → Option Value} {base : Heap} {C f : Addr} {fd : FuncData} (F : FunX K P "__init__" "BadName.__init__" (defArgs s_BadName___init__) (defBody s_BadName___init__) (defScope s_BadName___init__) C f fd) (T : ExcT K C) (n0 : NoAttr K C "name") (hmg : mg "super" = none) (htop : (P.main.scope.names.lookup ("super" : Str)).isSome = false) :
    FnOk P w K mg base CX0 1 f fd ["self", "name"] (spEx C ["name"]) := by
  refine fnx_of (k := 0) F sc_BadName___init__ T.sup rfl rfl rfl hmg htop (fun _ _ _ => ⟨_, rfl⟩) (fun _ _ _ => rfl) (fun vs H Q E h => ?_) (fun cda cc A outer s H vs Q E hr h => ?_)
  · obtain ⟨a, ws, rfl, hl, _⟩ := h
    simpa using hl
  · obtain ⟨a, ws, rfl, hl, ha, k0, k⟩ := h
    match ws, hl with
    | [v0], _ =>
      refine ⟨a, [v0], _, rfl, ha, (pss_one (ps_ost (pv 0) (pv 1))), ?_⟩
      refine ⟨_, rfl, _, rfl, a, C, rfl, T.sup.ox, n0, .inl ⟨ha, fun dx hd hne => ?_⟩⟩
      exact k (by simp) dx _ hd hne upd_same (by rw [upd_ne hne, upd_same]; rfl) (fun b h1 h2 => by rw [upd_ne h1, upd_ne h2])
abbrev s_NoScale___init__ : Stmt := inClass (top 7) 0
theorem sc_NoScale___init__ : NScope ["self", "name", "__class__"] ["self", "name"] ["__class__"] (defScope s_NoScale___init__) := nscope_by (by decide +kernel)
theorem ok_NoScale___init__ {P : Program} {w : World} {K : PySem.W.Frag} {mg : Str → Option Value} {base : Heap} {C f : Addr} {fd : FuncData} (F : FunX K P "__init__" "NoScale.__init__" (defArgs s_NoScale___init__) (defBody s_NoScale___init__) (defScope s_NoScale___init__) C f fd) (T : ExcT K C) (n0 : NoAttr K C "name") (hmg : mg "super" = none) (htop : (P.main.scope.names.lookup ("super" : Str)).isSome = false) :
    FnOk P w K mg base CX0 1 f fd ["self", "name"] (spEx C ["name"]) := by
  refine fnx_of (k := 0) F sc_NoScale___init__ T.sup rfl rfl rfl hmg htop (fun _ _ _ => ⟨_, rfl⟩) (fun _ _ _ => rfl) (fun vs H Q E h => ?_) (fun cda cc A outer s H vs Q E hr h => ?_)
  · obtain ⟨a, ws, rfl, hl, _⟩ := h
    simpa using hl
  · obtain ⟨a, ws, rfl, hl, ha, k0, k⟩ := h
    match ws, hl with
    | [v0], _ =>
      refine ⟨a, [v0], _, rfl, ha, (pss_one (ps_ost (pv 0) (pv 1))), ?_⟩
      refine ⟨_, rfl, _, rfl, a, C, rfl, T.sup.ox, n0, .inl ⟨ha, fun dx hd hne => ?_⟩⟩
      exact k (by simp) dx _ hd hne upd_same (by rw [upd_ne hne, upd_same]; rfl) (fun b h1 h2 => by rw [upd_ne h1, upd_ne h2])
abbrev s_OtherScales___init__ : Stmt := inClass (top 8) 0
theorem sc_OtherScales___init__ : NScope ["self", "__class__"] ["self"] ["__class__"] (defScope s_OtherScales___init__) := nscope_by (by decide +kernel)
theorem ok_OtherScales___init__ {P : Program} {w : World} {K : PySem.W.Frag} {mg : Str → Option Value} {base : Heap} {C f : Addr} {fd : FuncData} (F : FunX K P "__init__" "OtherScales.__init__" (defArgs s_OtherScales___init__) (defBody s_OtherScales___init__) (defScope s_OtherScales___init__) C f fd) (T : ExcT K C)  (hmg : mg "super" = none) (htop : (P.main.scope.names.lookup ("super" : Str)).isSome = false) :
    FnOk P w K mg base CX0 1 f fd ["self"] (spEx C []) := by
  refine fnx_of (k := 0) F sc_OtherScales___init__ T.sup rfl rfl rfl hmg htop (fun _ _ _ => ⟨_, rfl⟩) (fun _ _ _ => rfl) (fun vs H Q E h => ?_) (fun cda cc A outer s H vs Q E hr h => ?_)
  · obtain ⟨a, ws, rfl, hl, _⟩ := h
    simpa using hl
  · obtain ⟨a, ws, rfl, hl, ha, k0, k⟩ := h
    match ws, hl with
    | [], _ => exact ⟨a, [], _, rfl, ha, pss_nil, k0 rfl⟩
abbrev s_TwiceNamed___init__ : Stmt := inClass (top 4) 0
theorem sc_TwiceNamed___init__ : NScope ["self", "name", "__class__"] ["self", "name"] ["__class__"] (defScope s_TwiceNamed___init__) := nscope_by (by decide +kernel)
theorem ok_TwiceNamed___init__ {P : Program} {w : World} {K : PySem.W.Frag} {mg : Str → Option Value} {base : Heap} {C f : Addr} {fd : FuncData} (F : FunX K P "__init__" "TwiceNamed.__init__" (defArgs s_TwiceNamed___init__) (defBody s_TwiceNamed___init__) (defScope s_TwiceNamed___init__) C f fd) (T : ExcT K C) (n0 : NoAttr K C "name") (hmg : mg "super" = none) (htop : (P.main.scope.names.lookup ("super" : Str)).isSome = false) :
    FnOk P w K mg base CX0 1 f fd ["self", "name"] (spEx C ["name"]) := by
  refine fnx_of (k := 0) F sc_TwiceNamed___init__ T.sup rfl rfl rfl hmg htop (fun _ _ _ => ⟨_, rfl⟩) (fun _ _ _ => rfl) (fun vs H Q E h => ?_) (fun cda cc A outer s H vs Q E hr h => ?_)
  · obtain ⟨a, ws, rfl, hl, _⟩ := h
    simpa using hl
  · obtain ⟨a, ws, rfl, hl, ha, k0, k⟩ := h
    match ws, hl with
    | [v0], _ =>
      refine ⟨a, [v0], _, rfl, ha, (pss_one (ps_ost (pv 0) (pv 1))), ?_⟩
      refine ⟨_, rfl, _, rfl, a, C, rfl, T.sup.ox, n0, .inl ⟨ha, fun dx hd hne => ?_⟩⟩
      exact k (by simp) dx _ hd hne upd_same (by rw [upd_ne hne, upd_same]; rfl) (fun b h1 h2 => by rw [upd_ne h1, upd_ne h2])
end RS

set_option maxRecDepth 100000
set_option maxHeartbeats 4000000
namespace RS
open PySem PySem.Spec PyProof.Rows L2 He LamX
theorem facts {P : Program} {w : World} {K : Frg} {h : Heap} {mg : Str → Option Value} {f : Addr} (X : K.In h) (G : h.Ns mainGlobals mg) (hfa : mg ("law" : Str) = some (.ref f)) (c : SaysR Hd.ex Hd.fn K) (hfile : P.main.file = "/claim/cut.py") (htop : (P.main.scope.names.lookup ("super" : Str)).isSome = false) :
    ∃ fd : FuncData, (∀ (s : Shared) (v : Value), BindsTo s fd ⟨[v], []⟩ [("_law_script", v)]) ∧ ∀ base : Heap, K.In base → base.Ns mainGlobals mg → FnOk P w K mg base CX0 16 f fd ["_law_script"] (spLawP K) := by
  letI : Tbls := ⟨[]⟩
  obtain ⟨fd7, F7⟩ := c.def_ 7
  obtain ⟨fd8, F8⟩ := c.def_ 8
  obtain ⟨fd9, F9⟩ := c.def_ 9
  obtain ⟨fd10, F10⟩ := c.def_ 10
  obtain ⟨fd11, F11⟩ := c.def_ 11
  obtain ⟨fd12, F12⟩ := c.def_ 12
  obtain ⟨fd13, F13⟩ := c.def_ 13
  obtain ⟨fd14, F14⟩ := c.def_ 14
  obtain ⟨fd15, F15⟩ := c.def_ 15
  obtain ⟨fd16, F16⟩ := c.def_ 16
  obtain ⟨fd17, F17⟩ := c.def_ 17
  obtain ⟨fd18, F18⟩ := c.def_ 18
  obtain ⟨fd19, F19⟩ := c.def_ 19
  obtain ⟨fd20, F20⟩ := c.def_ 20
  obtain ⟨fd21, F21⟩ := c.def_ 21
  obtain ⟨fd22, F22⟩ := c.def_ 22
  obtain ⟨fd23, F23⟩ := c.def_ 23
  obtain ⟨fd24, F24⟩ := c.def_ 24
  obtain ⟨fd25, F25⟩ := c.def_ 25
  obtain ⟨fd26, F26⟩ := c.def_ 26
  obtain ⟨fd27, F27⟩ := c.def_ 27
  obtain ⟨fd28, F28⟩ := c.def_ 28
  obtain ⟨fd29, F29⟩ := c.def_ 29
  obtain ⟨fd30, F30⟩ := c.def_ 30
  obtain ⟨fd31, F31⟩ := c.def_ 31
  obtain ⟨fd32, F32⟩ := c.def_ 32
  obtain ⟨fd33, F33⟩ := c.def_ 33
  obtain ⟨fd34, F34⟩ := c.def_ 34
  obtain ⟨fd35, F35⟩ := c.def_ 35
  obtain ⟨fd36, F36⟩ := c.def_ 36
  obtain ⟨fd37, F37⟩ := c.def_ 37
  obtain ⟨fd38, F38⟩ := c.def_ 38
  have e := hfa.symm.trans (glo_ok X G (c.fact 125))
  cases e
  have hsup : mg "super" = none := free_ok X G (c.fact 124)
  have T : Fx K mg (ga K "BadClaim") (ga K "BadFact") (ga K "BadKind") (ga K "BadName") (ga K "Book") (ga K "Form") (ga K "NoScale") (ga K "OtherScales") (ga K "Row") (ga K "ScaleError") (ga K "Scales") (ga K "TwiceNamed") (ga K "KINDS") (ga K "RELATIONS") := ⟨⟨(cls_ok (c.fact 0)), (noat_ok (c.fact 1))⟩, ⟨(cls_ok (c.fact 0)), (noat_ok (c.fact 2))⟩, ⟨(cls_ok (c.fact 0)), (noat_ok (c.fact 3))⟩, ⟨(cls_ok (c.fact 4)), (noat_ok (c.fact 5))⟩, ⟨(cls_ok (c.fact 4)), (noat_ok (c.fact 6))⟩, ⟨(cls_ok (c.fact 4)), (noat_ok (c.fact 7))⟩, ⟨(cls_ok (c.fact 8)), (noat_ok (c.fact 9))⟩, ⟨(cls_ok (c.fact 8)), (noat_ok (c.fact 10))⟩, ⟨(cls_ok (c.fact 11)), (noat_ok (c.fact 12))⟩, ⟨(cls_ok (c.fact 11)), (noat_ok (c.fact 13))⟩, ⟨(cls_ok (c.fact 11)), (noat_ok (c.fact 14))⟩, (free_ok X G (c.fact 15)), (free_ok X G (c.fact 16)), (free_ok X G (c.fact 17)), (free_ok X G (c.fact 18)), (free_ok X G (c.fact 19)), (free_ok X G (c.fact 20)), (free_ok X G (c.fact 21)), (free_ok X G (c.fact 22)), (free_ok X G (c.fact 23)), (cls_ok (c.fact 0)), (cls_ok (c.fact 11)), (show PySem.W.exmOne K (.ref (ga K "BadClaim")) (.ref (ga K "BadClaim")) = some true from (of_decide_eq_true (c.fact 24))), (show PySem.W.exmOne K (.ref (ga K "BadFact")) (.ref (ga K "BadFact")) = some true from (of_decide_eq_true (c.fact 25))), (show PySem.W.exmOne K (.ref (ga K "BadFact")) (.ref (ga K "BadName")) = some false from (of_decide_eq_true (c.fact 26))), (show PySem.W.exmOne K (.ref (ga K "BadFact")) (.ref (ga K "TwiceNamed")) = some false from (of_decide_eq_true (c.fact 27))), (show PySem.W.exmOne K (.ref (ga K "BadName")) (.ref (ga K "BadName")) = some true from (of_decide_eq_true (c.fact 28))), (show PySem.W.exmOne K (.ref (ga K "TwiceNamed")) (.ref (ga K "BadName")) = some false from (of_decide_eq_true (c.fact 29))), (show PySem.W.exmOne K (.ref (ga K "TwiceNamed")) (.ref (ga K "TwiceNamed")) = some true from (of_decide_eq_true (c.fact 30))), (glo_ok X G (c.fact 31)), (glo_ok X G (c.fact 32)), (glo_ok X G (c.fact 33)), (glo_ok X G (c.fact 34)), (glo_ok X G (c.fact 35)), (glo_ok X G (c.fact 36)), (glo_ok X G (c.fact 37)), (glo_ok X G (c.fact 38)), (glo_ok X G (c.fact 39)), (c.fact 40), (int_ok X G (c.fact 41)), (isiB_ok (c.fact 42)), (isiB_ok (c.fact 43)), (isiB_ok (c.fact 44)), (kaB_ok (c.fact 45)), (kaB_ok (c.fact 46)), (show PySem.W.kitOne K (.ref (ga K "BadFact")) (.ref (ga K "BadClaim")) = some false from (of_decide_eq_true (c.fact 47))), (show PySem.W.kitOne K (.ref (ga K "BadFact")) (.ref (ga K "ScaleError")) = some true from (of_decide_eq_true (c.fact 48))), (show PySem.W.kitOne K (.ref (ga K "BadName")) (.ref (ga K "BadFact")) = some false from (of_decide_eq_true (c.fact 49))), (show PySem.W.kitOne K (.ref (ga K "BadName")) (.ref (ga K "ScaleError")) = some true from (of_decide_eq_true (c.fact 50))), (show PySem.W.kitOne K (.ref (ga K "Form")) (.ref (ga K "Form")) = some true from (of_decide_eq_true (c.fact 51))), (show PySem.W.kitOne K (.ref (ga K "Form")) (.ref (ga K "Row")) = some false from (of_decide_eq_true (c.fact 52))), (show PySem.W.kitOne K (.ref (ga K "Row")) (.ref (ga K "Form")) = some false from (of_decide_eq_true (c.fact 53))), (show PySem.W.kitOne K (.ref (ga K "Row")) (.ref (ga K "Row")) = some true from (of_decide_eq_true (c.fact 54))), (show PySem.W.kitOne K (.ref (ga K "Scales")) (.ref (ga K "Scales")) = some true from (of_decide_eq_true (c.fact 55))), (show PySem.W.kitOne K (.ref (ga K "TwiceNamed")) (.ref (ga K "BadName")) = some false from (of_decide_eq_true (c.fact 56))), (show PySem.W.kitOne K (.ref (ga K "TwiceNamed")) (.ref (ga K "ScaleError")) = some true from (of_decide_eq_true (c.fact 57))), (noat_ok (c.fact 58)), (noat_ok (c.fact 59)), (noat_ok (c.fact 60)), (noat_ok (c.fact 61)), (neB_ok (c.fact 62)), (show PySem.W.notFirst K (ga K "Row") (.ref (ga K "Row")) = true from (c.fact 63)), (show PySem.W.notFirst K (ga K "Scales") (.ref (ga K "Scales")) = true from (c.fact 64)), (str_ok X G (c.fact 65)), (str_ok X G (c.fact 66)), (c.fact 67), (tupd_ok (c.fact 68) rfl), (tupd_ok (c.fact 69) rfl)⟩
  have TPn : TPen mg := ⟨(free_ok X G (c.fact 70)), (free_ok X G (c.fact 19)), (free_ok X G (c.fact 20))⟩
  have D_Row___init__2 : Dfl K [.ref (dflAt ("Row", some "__init__") 0 K)] [.tup []] := Dfl.one (tupad_ok (vs := []) (c.fact 71) rfl)
  obtain ⟨fd0, F0, i0, t0⟩ := clxB_ok (P := P) (c.fact 73) rfl (c.val_ 0) rfl hfile
  obtain ⟨fd1, F1, i1, t1⟩ := clxB_ok (P := P) (c.fact 75) rfl (c.val_ 1) rfl hfile
  obtain ⟨fd2, F2, i2, t2⟩ := clxB_ok (P := P) (c.fact 78) rfl (c.val_ 2) rfl hfile
  obtain ⟨fd3, F3, i3, t3⟩ := clxB_ok (P := P) (c.fact 81) rfl (c.val_ 3) rfl hfile
  obtain ⟨fd4, F4, i4, t4⟩ := clxB_ok (P := P) (c.fact 84) rfl (c.val_ 4) rfl hfile
  obtain ⟨fd5, F5, i5, t5⟩ := clxB_ok (P := P) (c.fact 87) rfl (c.val_ 5) rfl hfile
  obtain ⟨fd6, F6, i6, t6⟩ := clxB_ok (P := P) (c.fact 90) rfl (c.val_ 6) rfl hfile
  have b := FunD.bindsA (ps := ["_law_script"]) F38 fun _ _ _ _ _ _ us hl => match us, hl with | [_], _ => rfl
  refine ⟨fd38, fun s v => b s [v] rfl, fun base _ _ => ?_⟩
  have M_BadClaim : Exk P w K mg base "BadClaim" (ga K "BadClaim") ["index"] := ⟨⟨inA K "BadClaim", fd0, ["self", "index"], ok_BadClaim___init__ F0 (excB_ok (c.fact 72)) (noat_ok (c.fact 58)) hsup htop, FunX.bindsN F0 (fun _ _ _ _ _ _ us hl => match us, hl with | [_, _], _ => rfl), i0, t0⟩, glo_ok X G (c.fact 31), excB_ok (c.fact 72)⟩
  have M_BadFact : Exk P w K mg base "BadFact" (ga K "BadFact") ["index"] := ⟨⟨inA K "BadFact", fd1, ["self", "index"], ok_BadFact___init__ F1 (excB_ok (c.fact 74)) (noat_ok (c.fact 59)) hsup htop, FunX.bindsN F1 (fun _ _ _ _ _ _ us hl => match us, hl with | [_, _], _ => rfl), i1, t1⟩, glo_ok X G (c.fact 32), excB_ok (c.fact 74)⟩
  have M_BadKind : Exk P w K mg base "BadKind" (ga K "BadKind") ["kind"] := ⟨⟨inA K "BadKind", fd2, ["self", "kind"], ok_BadKind___init__ F2 (excB_ok (c.fact 76)) (noat_ok (c.fact 77)) hsup htop, FunX.bindsN F2 (fun _ _ _ _ _ _ us hl => match us, hl with | [_, _], _ => rfl), i2, t2⟩, glo_ok X G (c.fact 79), excB_ok (c.fact 76)⟩
  have M_BadName : Exk P w K mg base "BadName" (ga K "BadName") ["name"] := ⟨⟨inA K "BadName", fd3, ["self", "name"], ok_BadName___init__ F3 (excB_ok (c.fact 80)) (noat_ok (c.fact 60)) hsup htop, FunX.bindsN F3 (fun _ _ _ _ _ _ us hl => match us, hl with | [_, _], _ => rfl), i3, t3⟩, glo_ok X G (c.fact 33), excB_ok (c.fact 80)⟩
  have M_NoScale : Exk P w K mg base "NoScale" (ga K "NoScale") ["name"] := ⟨⟨inA K "NoScale", fd4, ["self", "name"], ok_NoScale___init__ F4 (excB_ok (c.fact 82)) (noat_ok (c.fact 83)) hsup htop, FunX.bindsN F4 (fun _ _ _ _ _ _ us hl => match us, hl with | [_, _], _ => rfl), i4, t4⟩, glo_ok X G (c.fact 85), excB_ok (c.fact 82)⟩
  have M_OtherScales : Exk P w K mg base "OtherScales" (ga K "OtherScales") [] := ⟨⟨inA K "OtherScales", fd5, ["self"], ok_OtherScales___init__ F5 (excB_ok (c.fact 86))  hsup htop, FunX.bindsN F5 (fun _ _ _ _ _ _ us hl => match us, hl with | [_], _ => rfl), i5, t5⟩, glo_ok X G (c.fact 88), excB_ok (c.fact 86)⟩
  have M_TwiceNamed : Exk P w K mg base "TwiceNamed" (ga K "TwiceNamed") ["name"] := ⟨⟨inA K "TwiceNamed", fd6, ["self", "name"], ok_TwiceNamed___init__ F6 (excB_ok (c.fact 89)) (noat_ok (c.fact 61)) hsup htop, FunX.bindsN F6 (fun _ _ _ _ _ _ us hl => match us, hl with | [_, _], _ => rfl), i6, t6⟩, glo_ok X G (c.fact 91), excB_ok (c.fact 89)⟩
  have M_normal_steps : Cal P w K mg base (L2.CX P w) 1 "normal_steps" ["steps"] [] (upSp K sp_normal_steps) := ⟨_, _, _, ok_normal_steps F7 T , glo_ok X G (c.fact 92), F7.kp, .nil, (FunD.bindsN (ps := ["steps"]) F7 fun _ _ _ _ _ _ us hl => match us, hl with | [_], _ => rfl)⟩
  have M_is_name : Cal P w K mg base (L2.CX P w) 1 "is_name" ["value"] [] (upSp K sp_is_name) := ⟨_, _, _, ok_is_name F8 T , glo_ok X G (c.fact 93), F8.kp, .nil, (FunD.bindsN (ps := ["value"]) F8 fun _ _ _ _ _ _ us hl => match us, hl with | [_], _ => rfl)⟩
  have M_Scales___contains__ : Mtd P w K mg base (L2.CX P w) 1 (ga K "Scales") "__contains__" ["self", "name"] [] (upSp K (sp_Scales___contains__ (ga K "Scales"))) := ⟨_, _, _, ok_Scales___contains__ F9 T , meth_ok (c.fact 94), .nil, (FunD.bindsN (ps := ["self", "name"]) F9 fun _ _ _ _ _ _ us hl => match us, hl with | [_, _], _ => rfl)⟩
  have M_Scales___eq__ : Mtd P w K mg base (L2.CX P w) 1 (ga K "Scales") "__eq__" ["self", "other"] [] (upSp K (sp_Scales___eq__ (ga K "Scales"))) := ⟨_, _, _, ok_Scales___eq__ F10 T , meth_ok (c.fact 95), .nil, (FunD.bindsN (ps := ["self", "other"]) F10 fun _ _ _ _ _ _ us hl => match us, hl with | [_, _], _ => rfl)⟩
  have M_Row___init__ : Mkr P w K mg base (L2.CX P w) 5 "Row" (ga K "Row") ["self", "scales", "steps"] [] (upSp K (sp_Row___init__ (ga K "Scales") (ga K "NoScale") (ga K "Row"))) := by
    obtain ⟨ds, vd, b⟩ := FunD.binds1 (ps := ["self", "scales", "steps"]) F11 3 1 (fun z => by cases z) rfl fun _ _ _ _ _ _ _ us its h1 h2 => match us, its, h1, h2 with | [_, _, _], [_], _, _ => ⟨_, rfl, rfl⟩
    exact ⟨_, _, ds, ok_Row___init__ F11 T M_NoScale M_normal_steps M_Scales___contains__, mkr_ok (c.fact 96), glo_ok X G (c.fact 37), vd, b⟩
  have M_Row___init__2 : Mkr P w K mg base (L2.CX P w) 5 "Row" (ga K "Row") ["self", "scales", "steps"] [.ref (dflAt ("Row", some "__init__") 0 K)] (upSp K (sp_Row___init__ (ga K "Scales") (ga K "NoScale") (ga K "Row"))) := by
    obtain ⟨ds, vd, b⟩ := FunD.binds1 (ps := ["self", "scales", "steps"]) F11 2 0 (fun z => by cases z) rfl fun _ _ _ _ _ _ _ us its h1 h2 => match us, its, h1, h2 with | [_, _], [_], _, _ => ⟨_, rfl, rfl⟩
    exact ⟨_, _, ds, ok_Row___init__ F11 T M_NoScale M_normal_steps M_Scales___contains__, mkr_ok (c.fact 96), glo_ok X G (c.fact 37), vd, b⟩
  have M_Scales___init__ : Mkr P w K mg base (L2.CX P w) 3 "Scales" (ga K "Scales") ["self", "pairs"] [] (upSp K (sp_Scales___init__ (ga K "BadKind") (ga K "BadName") (ga K "Scales") (ga K "TwiceNamed"))) := ⟨_, _, _, ok_Scales___init__ F12 T M_BadKind M_BadName M_TwiceNamed M_is_name, mkr_ok (c.fact 97), glo_ok X G (c.fact 39), .nil, (FunD.bindsN (ps := ["self", "pairs"]) F12 fun _ _ _ _ _ _ us hl => match us, hl with | [_, _], _ => rfl)⟩
  have M_Scales___getitem__ : Mtd P w K mg base (L2.CX P w) 9 (ga K "Scales") "__getitem__" ["self", "name"] [] (upSp K (sp_Scales___getitem__ (ga K "NoScale") (ga K "Row") (ga K "Scales"))) := ⟨_, _, _, ok_Scales___getitem__ F13 T M_NoScale M_Scales___contains__ M_Row___init__, meth_ok (c.fact 98), .nil, (FunD.bindsN (ps := ["self", "name"]) F13 fun _ _ _ _ _ _ us hl => match us, hl with | [_, _], _ => rfl)⟩
  have M_Scales_still : Prp P w K mg base (L2.CX P w) 9 (ga K "Scales") "still" ["self"] [] (upSp K (sp_Scales_still (ga K "Row") (ga K "Scales"))) := ⟨_, _, _, _, ok_Scales_still F14 T M_Row___init__2 D_Row___init__2, prpB_ok (c.fact 99), .nil, (FunD.bindsN (ps := ["self"]) F14 fun _ _ _ _ _ _ us hl => match us, hl with | [_], _ => rfl)⟩
  have M_Row___eq__ : Mtd P w K mg base (L2.CX P w) 5 (ga K "Row") "__eq__" ["self", "other"] [] (upSp K (sp_Row___eq__ (ga K "Row") (ga K "Scales"))) := ⟨_, _, _, ok_Row___eq__ F15 T M_Scales___eq__, meth_ok (c.fact 100), .nil, (FunD.bindsN (ps := ["self", "other"]) F15 fun _ _ _ _ _ _ us hl => match us, hl with | [_, _], _ => rfl)⟩
  have M_need_like : Cal P w K mg base (L2.CX P w) 5 "need_like" ["one", "other"] [] (upSp K (sp_need_like (ga K "OtherScales") (ga K "Row") (ga K "Scales"))) := ⟨_, _, _, ok_need_like F16 T M_OtherScales M_Scales___eq__, glo_ok X G (c.fact 101), F16.kp, .nil, (FunD.bindsN (ps := ["one", "other"]) F16 fun _ _ _ _ _ _ us hl => match us, hl with | [_, _], _ => rfl)⟩
  have M_highs_of : Cal P w K mg base (L2.CX P w) 1 "highs_of" ["value"] [] (upSp K (sp_highs_of (ga K "Row") (ga K "Scales"))) := ⟨_, _, _, ok_highs_of F17 T , glo_ok X G (c.fact 102), F17.kp, .nil, (FunD.bindsN (ps := ["value"]) F17 fun _ _ _ _ _ _ us hl => match us, hl with | [_], _ => rfl)⟩
  have M_lows_of : Cal P w K mg base (L2.CX P w) 1 "lows_of" ["value"] [] (upSp K (sp_lows_of (ga K "Row") (ga K "Scales"))) := ⟨_, _, _, ok_lows_of F18 T , glo_ok X G (c.fact 103), F18.kp, .nil, (FunD.bindsN (ps := ["value"]) F18 fun _ _ _ _ _ _ us hl => match us, hl with | [_], _ => rfl)⟩
  have M_choices : Cal P w K mg base (L2.CX P w) 1 "choices" ["parts"] [] (upSp K sp_choices) := ⟨_, _, _, ok_choices F19 T , glo_ok X G (c.fact 104), F19.kp, .nil, (FunD.bindsN (ps := ["parts"]) F19 fun _ _ _ _ _ _ us hl => match us, hl with | [_], _ => rfl)⟩
  have M_kept_lists : Cal P w K mg base (L2.CX P w) 9 "kept_lists" ["told"] [] (upSp K (sp_kept_lists (ga K "Row") (ga K "Scales"))) := ⟨_, _, _, ok_kept_lists F20 T M_Row___eq__, glo_ok X G (c.fact 105), F20.kp, .nil, (FunD.bindsN (ps := ["told"]) F20 fun _ _ _ _ _ _ us hl => match us, hl with | [_], _ => rfl)⟩
  have M_Form___init__ : Mkr P w K mg base (L2.CX P w) 1 "Form" (ga K "Form") ["self", "scales", "highs", "lows"] [] (upSp K (sp_Form___init__ (ga K "Form"))) := ⟨_, _, _, ok_Form___init__ F21 T , mkr_ok (c.fact 106), glo_ok X G (c.fact 34), .nil, (FunD.bindsN (ps := ["self", "scales", "highs", "lows"]) F21 fun _ _ _ _ _ _ us hl => match us, hl with | [_, _, _, _], _ => rfl)⟩
  have M_higher : Cal P w K mg base (L2.CX P w) 10 "higher" ["one", "other"] [] (upSp K (sp_higher (ga K "Form") (ga K "Row") (ga K "Scales"))) := ⟨_, _, _, ok_higher F22 T M_need_like M_highs_of M_lows_of M_choices M_kept_lists M_Form___init__, glo_ok X G (c.fact 107), F22.kp, .nil, (FunD.bindsN (ps := ["one", "other"]) F22 fun _ _ _ _ _ _ us hl => match us, hl with | [_, _], _ => rfl)⟩
  have M_Row___or__ : Mtd P w K mg base (L2.CX P w) 11 (ga K "Row") "__or__" ["self", "other"] [] (upSp K (sp_Row___or__ (ga K "Form") (ga K "Row") (ga K "Scales"))) := ⟨_, _, _, ok_Row___or__ F23 T M_higher, meth_ok (c.fact 108), .nil, (FunD.bindsN (ps := ["self", "other"]) F23 fun _ _ _ _ _ _ us hl => match us, hl with | [_, _], _ => rfl)⟩
  have M_is_relation : Cal P w K mg base (L2.CX P w) 1 "is_relation" ["value"] [] (upSp K sp_is_relation) := ⟨_, _, _, ok_is_relation F24 T , glo_ok X G (c.fact 109), F24.kp, .nil, (FunD.bindsN (ps := ["value"]) F24 fun _ _ _ _ _ _ us hl => match us, hl with | [_], _ => rfl)⟩
  have M_is_claim : CalK P w K mg base (L2.CX P w) 5 "is_claim" ["value", "scales", "values", "formulas"] 3 ["formulas"] [] (upSp K (sp_is_claim (ga K "Form") (ga K "Row") (ga K "Scales"))) := by
    obtain ⟨g, b⟩ := kbN (ps := ["value", "scales", "values", "formulas"]) F25 3 ["formulas"] (fun _ _ _ _ _ _ us ws h1 h2 => match us, ws, h1, h2 with | [_, _, _], [_], _, _ => rfl)
    exact ⟨_, _, g, ok_is_claim F25 T M_Scales___eq__ M_is_relation, glo_ok X G (c.fact 110), F25.kp, b⟩
  have M_Book___init__ : Mkr P w K mg base (L2.CX P w) 6 "Book" (ga K "Book") ["self", "scales", "values", "facts"] [] (upSp K (sp_Book___init__ (ga K "BadFact") (ga K "BadName") (ga K "Book") (ga K "Form") (ga K "Row") (ga K "Scales") (ga K "TwiceNamed"))) := by
    obtain ⟨ds, vd, b⟩ := FunD.binds1 (ps := ["self", "scales", "values", "facts"]) F26 4 1 (fun z => by cases z) rfl fun _ _ _ _ _ _ _ us its h1 h2 => match us, its, h1, h2 with | [_, _, _, _], [_], _, _ => ⟨_, rfl, rfl⟩
    exact ⟨_, _, ds, ok_Book___init__ F26 T M_BadFact M_BadName M_TwiceNamed M_is_name M_is_claim, mkr_ok (c.fact 111), glo_ok X G (c.fact 112), vd, b⟩
  have M_Book_need_claim : MtdK P w K mg base (L2.CX P w) 6 (ga K "Book") "need_claim" ["self", "claim", "index", "formulas"] 2 ["formulas"] [.int 0] (upSp K (sp_Book_need_claim (ga K "BadClaim") (ga K "Book") (ga K "Form") (ga K "Row") (ga K "Scales"))) := by
    obtain ⟨g, b⟩ := kbD (ps := ["self", "claim", "index", "formulas"]) F27 2 ["formulas"] (fun z => by cases z) (fun _ _ _ _ _ _ _ us its ws h1 h2 h3 => match us, its, ws, h1, h2, h3 with | [_, _], [_], [_], _, _, _ => ⟨_, rfl, rfl⟩)
    exact ⟨_, _, g, ok_Book_need_claim F27 T M_BadClaim M_is_claim, meth_ok (c.fact 113), b⟩
  have M_Book_follows : Mtd P w K mg base (L2.CX P w) 7 (ga K "Book") "follows" ["self", "claim"] [] (upSp K (sp_Book_follows (ga K "BadClaim") (ga K "Book") (ga K "Form") (ga K "Row") (ga K "Scales"))) := ⟨_, _, _, ok_Book_follows F28 T M_Book_need_claim, meth_ok (c.fact 114), .nil, (FunD.bindsN (ps := ["self", "claim"]) F28 fun _ _ _ _ _ _ us hl => match us, hl with | [_, _], _ => rfl)⟩
  have M__law_bag : Cal P w K mg base (L2.CX P w) 1 "_law_bag" ["_law_script"] [] (upSp K spPenD) := ⟨_, _, _, (FnOk.ofCX0 ((ok_pen F29 TPn).imp pen_up)), glo_ok X G (c.fact 115), F29.kp, .nil, (FunD.bindsN (ps := ["_law_script"]) F29 fun _ _ _ _ _ _ us hl => match us, hl with | [_], _ => rfl)⟩
  have M__law_draw : Cal P w K mg base (L2.CX P w) 1 "_law_draw" ["_law_bag_here", "_law_limit"] [] (upSp K spDrawD) := ⟨_, _, _, (FnOk.ofCX0 ((ok_draw F30 TPn).imp draw_up)), glo_ok X G (c.fact 116), F30.kp, .nil, (FunD.bindsN (ps := ["_law_bag_here", "_law_limit"]) F30 fun _ _ _ _ _ _ us hl => match us, hl with | [_, _], _ => rfl)⟩
  have M__law_ident : Cal P w K mg base (L2.CX P w) 2 "_law_ident" ["_law_bag_here", "_law_k"] [] (upSp K sp__law_ident) := ⟨_, _, _, ok__law_ident F31 T M__law_draw, glo_ok X G (c.fact 117), F31.kp, .nil, (FunD.bindsN (ps := ["_law_bag_here", "_law_k"]) F31 fun _ _ _ _ _ _ us hl => match us, hl with | [_, _], _ => rfl)⟩
  have M__law_scales : Cal P w K mg base (L2.CX P w) 3 "_law_scales" ["_law_bag_here", "_law_many"] [] (upSp K sp__law_scales) := ⟨_, _, _, ok__law_scales F32 T M__law_draw M__law_ident, glo_ok X G (c.fact 118), F32.kp, .nil, (FunD.bindsN (ps := ["_law_bag_here", "_law_many"]) F32 fun _ _ _ _ _ _ us hl => match us, hl with | [_, _], _ => rfl)⟩
  have M__law_steps : Cal P w K mg base (L2.CX P w) 2 "_law_steps" ["_law_bag_here", "_law_scales_here", "_law_most", "_law_far"] [] (upSp K sp__law_steps) := ⟨_, _, _, ok__law_steps F33 T M__law_draw, glo_ok X G (c.fact 119), F33.kp, .nil, (FunD.bindsN (ps := ["_law_bag_here", "_law_scales_here", "_law_most", "_law_far"]) F33 fun _ _ _ _ _ _ us hl => match us, hl with | [_, _, _, _], _ => rfl)⟩
  have M__law_relation : Cal P w K mg base (L2.CX P w) 2 "_law_relation" ["_law_bag_here"] [] (upSp K sp__law_relation) := ⟨_, _, _, ok__law_relation F34 T M__law_draw, glo_ok X G (c.fact 120), F34.kp, .nil, (FunD.bindsN (ps := ["_law_bag_here"]) F34 fun _ _ _ _ _ _ us hl => match us, hl with | [_], _ => rfl)⟩
  have M__law_tried : Cal P w K mg base (L2.CX P w) 10 "_law_tried" ["_law_scales_here", "_law_values", "_law_facts"] [] (upSp K (sp__law_tried (ga K "BadFact") (ga K "BadName") (ga K "Book") (ga K "Form") (ga K "Row") (ga K "Scales") (ga K "TwiceNamed"))) := ⟨_, _, _, ok__law_tried F35 T M_BadFact M_BadName M_TwiceNamed M_Scales___eq__ M_Book___init__, glo_ok X G (c.fact 121), F35.kp, .nil, (FunD.bindsN (ps := ["_law_scales_here", "_law_values", "_law_facts"]) F35 fun _ _ _ _ _ _ us hl => match us, hl with | [_, _, _], _ => rfl)⟩
  have M__law_refused : Cal P w K mg base (L2.CX P w) 8 "_law_refused" ["_law_book", "_law_thing"] [] (upSp K (sp__law_refused (ga K "BadClaim") (ga K "Book") (ga K "Form") (ga K "Row") (ga K "Scales"))) := ⟨_, _, _, ok__law_refused F36 T M_BadClaim M_Book_follows, glo_ok X G (c.fact 122), F36.kp, .nil, (FunD.bindsN (ps := ["_law_book", "_law_thing"]) F36 fun _ _ _ _ _ _ us hl => match us, hl with | [_, _], _ => rfl)⟩
  have M__law_strange : Cal P w K mg base (L2.CX P w) 15 "_law_strange" ["_law_bag_here", "_law_scales_here", "_law_alien", "_law_value"] [] (upSp K (sp__law_strange (ga K "Form") (ga K "Row") (ga K "Scales"))) := ⟨_, _, _, ok__law_strange F37 T M_Scales___getitem__ M_Scales_still M_Row___or__ M__law_draw, glo_ok X G (c.fact 123), F37.kp, .nil, (FunD.bindsN (ps := ["_law_bag_here", "_law_scales_here", "_law_alien", "_law_value"]) F37 fun _ _ _ _ _ _ us hl => match us, hl with | [_, _, _, _], _ => rfl)⟩
  exact (FnOk.imp (FnOk.toCX0 (ok_law F38 T M_Row___init__ M_Scales___init__ M_Scales___getitem__ M_Scales_still M_Row___or__ M_Book___init__ M__law_bag M__law_draw M__law_ident M__law_scales M__law_steps M__law_relation M__law_tried M__law_refused M__law_strange)) fun vs H Q E h => law_up vs H Q E0 h)
end RS
open PySem PySem.W PySem.Calls PyProof.Rows
theorem PySem.Challenge.cw_risingscales_k51_books_made_and_refused_holds : PySem.Challenge.rw_risingscales_k51_books_made_and_refused.Holds := by
  w_on; o_law
  refine HandSHeadRun.head_any (r := OpenLaw.row PySem.Challenge.rw_risingscales_k51_books_made_and_refused) (q := view (OpenLaw.row PySem.Challenge.rw_risingscales_k51_books_made_and_refused).prog [88]) (H := RS.Hd.hk) (ob := RS.Hd.ob) (M := 100000) (loose := RS.Hd.loose) (d := HandSHeadRun.topDef (OpenLaw.row PySem.Challenge.rw_risingscales_k51_books_made_and_refused).prog 88) (kwd := []) RS.Hd.ob_eq
    (by kernel_rfl) (fun s => by kernel_rfl) RS.Hd.run (by kernel_rfl) (by kernel_rfl) (by kernel_rfl) (by rfl) (by first | assumption | decide +kernel) (by decide +kernel) ⟨rfl, rfl, rfl, rfl, rfl, by decide +kernel⟩ ?hw ?hc
  case hw => w_witness2
  case hc =>
    refine L2.walk_ofE (l := PySem.Challenge.rw_risingscales_k51_books_made_and_refused) (n := 63) (k := 16) (x := "_law_script") (CX := L2.CX0) rfl (by decide) (by kernel_rfl) ⟨rfl, by decide, by decide⟩ ?F (fun _ _ _ _ z => z)
    intro w mg fa h Y G hmg0
    obtain ⟨K, KX, c⟩ := Y
    have hmg : mg ("law" : PySem.Str) = some (.ref fa) := by
      have e : (HandSHeadRun.topDef (OpenLaw.row PySem.Challenge.rw_risingscales_k51_books_made_and_refused).prog 88).name = ("law" : PySem.Str) := by kernel_rfl
      rw [← e]
      exact hmg0
    obtain ⟨fd, hb, hF⟩ := RS.facts (P := (PySem.Challenge.rw_risingscales_k51_books_made_and_refused).prog) (w := w) KX G hmg c (by kernel_rfl) (by kernel_rfl)
    exact ⟨K, fd, RS.spLawP K, KX, hb, fun H a ns hl _ hS => ⟨a, ns, rfl, hS, hl, fun _ => rfl⟩, hF⟩
