import PyProof.Rows.All
import Wide.All
import OpenK.AllK
import Wide.FinOn
import PyProof.EqAt
import PyProof.EqKinds
import PyProof.TupleCall
import HandS.ForMost
import HandS.ForExc
import HandS.CallSlots
import HandS.Property
import HandS.ExcInit
import HandS.ExcField
import HandS.IsInst
import HandS.Defaults
import HandS.Deep
import HandS.TupAny
import HandS.TupMul
import HandS.TupLen
import HandS.Strs
import HandS.SlotsOwn
import KE.KOpsOwn
import HandS.TryMany
import HandS.Steps
import HandS.HeadHook1
import HandS.HeadHook2
import HandS.HeadEnd
import HandS.Head0
import HandS.Head1
import HandS.Head2
import HandS.RaiseMore
import HandS.Style
import KE.GoesEnum
import KE.GoesMore
import KE.KRevSl
import HandS.Walk
import KE.KStateDown
import HandS.Ends
import PySem.Challenge.RW_lookrows_k30_before_and_weaker_rows
set_option Elab.async false
set_option linter.all false
set_option maxRecDepth 100000
set_option maxHeartbeats 4000000
namespace L2.Uq
open PySem PySem.Spec PyProof.Rows
/-! ## U1 -/
section

/-! ### a def of the text with its promise: what a caller needs -/
structure Df (P : Program) (w : World) (K : PySem.W.Frag) (mg : Str → Option Value) (base : Heap) (k : Nat) (f : Addr) (ps : List Str) (sp : Sp) (dvs : List V) : Prop where
  ex : ∃ (fd : FuncData) (ds : List Value), FnOk P w K mg base (L2.CX P w) k f fd ps sp ∧ Binds K fd ps ds ∧ Vals dvs ds
  kp : PySem.W.keepIn K (.ref f) = true
abbrev DfX (X : Cx) (k : Nat) (f : Addr) (ps : List Str) (sp : Sp) (dvs : List V) : Prop := Df X.prog X.w X.K X.mg X.base k f ps sp dvs
/-- nothing is let out -/
abbrev W0 : WX := fun _ _ _ _ => False
/-- what leaves a def -/
abbrev WD (E : XK) : WX := fun cls d _ H => E cls d H

section
variable {X : Cx} {pins : List (Addr × Obj)} {σ : St} {H : Hp} {s : Shared} {Q : VK} {us : List Value} {vs dvs : List V} {W : WX} {k j : Nat} {f C : Addr} {ps : List Str} {sp : Sp}
theorem runW (D : DfX X k f ps sp dvs) (hr : Room k X.A) (tk : Takes X W) (I : Inv X pins σ H s) (r : Vals vs us) (h : sp (vs ++ dvs) H Q (WE W σ)) :
    wpAny (model X.prog X.w) X.A (call (.ref f) us) (EP X pins σ Q) X.xe s := by
  obtain ⟨fd, ds, F, hb, hd⟩ := D.ex
  exact run_fnSD (E := fun σ => WE W σ) F hr hb hd (passAt tk σ) I r h
/-- the same one step further in -/
theorem runW1 (D : DfX X k f ps sp dvs) (hr : Room (k + 1) X.A) (tk : Takes X W) (I : Inv X pins σ H s) (r : Vals vs us) (h : sp (vs ++ dvs) H Q (WE W σ)) :
    wpAny (model X.prog X.w) X.A.in1 (call (.ref f) us) (EP X pins σ Q) X.xe s := by
  obtain ⟨fd, ds, F, hb, hd⟩ := D.ex
  have r2 : Vals (vs ++ dvs) (us ++ ds) := r.append hd
  have hl : (us ++ ds).length = ps.length := by rw [← r2.length]; exact F.len _ _ _ _ h
  refine wpAny_call (codeAny_mono (F.run X.A.in1 X.stack s H ⟨us, []⟩ (us ++ ds) (vs ++ dvs) Q (WE W σ) hr.in1 I.env0.in1 (hb s us I.kIn hl) r2 h) fun r s' hq => ?_)
  cases r with
  | error e => exact passAt tk σ pins H s e s' I hq
  | ok fl =>
    cases fl with
    | ret u => exact I.after hq
    | next => exact False.elim hq
    | brk => exact False.elim hq
    | cont => exact False.elim hq
theorem run_mkW (M : Mk X.K C f) (D : DfX X k f ps sp dvs) (hr : Room (k + 1) X.A) (tk : Takes X W) (I : Inv X pins σ H s) (r : Vals vs us)
    (h : ∀ x dx, H x = none → H dx = none → dx ≠ x → sp (.ref x :: (vs ++ dvs)) (upd (upd H dx (.own x)) x (.ins C dx [])) (fun v H2 => v = .non ∧ Q (.ref x) H2) (WE W σ)) :
    wpAny (model X.prog X.w) X.A (call (.ref C) us) (EP X pins σ Q) X.xe s := by
  obtain ⟨fd, ds, F, hb, hd⟩ := D.ex
  have hq := h (s.heap.objs.size + 1) s.heap.objs.size (I.hok.fresh (Nat.le_succ _)) (I.hok.fresh (Nat.le_refl _)) (Nat.ne_of_lt (Nat.lt_succ_self _))
  have I2 := Inv.made (C := C) I
  have r2 : Vals (V.ref (s.heap.objs.size + 1) :: (vs ++ dvs)) (Value.ref (s.heap.objs.size + 1) :: (us ++ ds)) := .cons rfl (r.append hd)
  have hl : (Value.ref (s.heap.objs.size + 1) :: us ++ ds).length = ps.length := by
    have e := r2.length
    rw [F.len _ _ _ _ hq] at e
    exact e.symm
  refine wpAny_call (make_map (f := f) I.kIn M.makes M.init (beq_iff_eq.mp M.fn) (codeAny_mono (F.run _ X.stack _ _ ⟨Value.ref (s.heap.objs.size + 1) :: us, []⟩ (Value.ref (s.heap.objs.size + 1) :: (us ++ ds)) _ _ (WE W σ) (hr.make C us [])
    (I2.env0.make C us []) (hb _ (Value.ref (s.heap.objs.size + 1) :: us) I2.kIn hl) r2 hq) fun r s' hq' => ?_))
  cases r with
  | error e => exact passAt tk σ pins _ _ e s' I2 hq'
  | ok fl =>
    cases fl with
    | ret u =>
      obtain ⟨v, H', I3, rv, ev, q3⟩ := I2.after hq'
      subst ev
      exact ⟨rv, ⟨V.ref (s.heap.objs.size + 1), H', I3, rfl, q3⟩⟩
    | next => exact False.elim hq'
    | brk => exact False.elim hq'
    | cont => exact False.elim hq'
/-- an instance in the abstract heap, as the library's rules take it -/
theorem inst_at {a dx : Addr} {fs : List (Str × V)} (I : Inv X pins σ H s) (ea : H a = some (.ins C dx fs)) : ∃ od, PySem.W.InstAt s.heap a (PySem.W.instObj C dx) C (some od) := by
  obtain ⟨mA, O, _, _, _, _⟩ := ins_get I.hok ea
  obtain ⟨od, J, _⟩ := O.look
  exact ⟨od, J⟩
end

/-! ### readings: calls whose exceptions are wished for at the caller's slots -/
/-- f(..) -/
def tCW (sp : Sp) (dvs : List V) (W : WX) (t : TA) : TE := fun σ H Q => t σ H fun vs H1 => sp (vs ++ dvs) H1 Q (WE W σ)
/-- o.m(..), o an instance of the class at C -/
def tMW (C : Addr) (m : Str) (sp : Sp) (dvs : List V) (W : WX) (ta : TE) (t : TA) : TE := fun σ H Q => ta σ H fun x H1 => ∃ a dx fs, x = .ref a ∧ H1 a = some (.ins C dx fs) ∧ fs.lookup m = none ∧
  t σ H1 fun vs H2 => sp (x :: (vs ++ dvs)) H2 Q (WE W σ)
/-- C(..) -/
def tNW (C : Addr) (sp : Sp) (dvs : List V) (W : WX) (t : TA) : TE := fun σ H Q => t σ H fun vs H1 => ∀ x dx, H1 x = none → H1 dx = none → dx ≠ x →
  sp (.ref x :: (vs ++ dvs)) (upd (upd H1 dx (.own x)) x (.ins C dx [])) (fun v H2 => v = .non ∧ Q (.ref x) H2) (WE W σ)
/-- an operation on an instance of the class at C by a method of it: the receiver, the other operands -/
def tOpO1 (C : Addr) (sp : Sp) (W : WX) (ta : TE) : TE := fun σ H Q => ta σ H fun x H1 => ∃ a dx fs, x = .ref a ∧ H1 a = some (.ins C dx fs) ∧ sp [x] H1 Q (WE W σ)
def tOpO2 (C : Addr) (sp : Sp) (W : WX) (ta tb : TE) : TE := fun σ H Q => ta σ H fun x H1 => tb σ H1 fun y H2 => ∃ a dx fs, x = .ref a ∧ H2 a = some (.ins C dx fs) ∧ sp [x, y] H2 Q (WE W σ)
/-- the receiver stands right -/
def tOpR2 (C : Addr) (sp : Sp) (W : WX) (ta tb : TE) : TE := fun σ H Q => ta σ H fun x H1 => tb σ H1 fun y H2 => ∃ a dx fs, y = .ref a ∧ H2 a = some (.ins C dx fs) ∧ sp [y, x] H2 Q (WE W σ)

section
variable {X : Cx} {dvs : List V} {W : WX} {k j : Nat} {f C : Addr} {ps : List Str} {sp : Sp} {x m : Str} {p pos apos : Pos} {e o : Expr} {es : List Expr} {ta tb : TE} {t : TA}
theorem pe_c (D : DfX X k f ps sp dvs) (hr : Room j X.A) (tk : Takes X W) (hm : X.mg x = some (.ref f)) (ha : PA X (e :: es) t) (hk : k ≤ j := by decide) (hg : Gl X x := by rfl)
    (hdb : (x == ("__debug__" : Str)) = false := by decide) (he : starEach (e :: es) X.env = (false, eval e X.env) :: starEach es X.env := by rfl) (hpl : (backTo pos (starEach es X.env)).any (·.1) = false := by rfl) :
    PE X (.Call (.Name x p) (e :: es) [] pos) (tCW sp dvs W t) := by
  refine ⟨fun pins s σ H Q I h => ?_⟩
  refine wpAny_Call_Name_kw (ld_glob I hg hm ?_ hdb)
  refine PySem.W.callWith_K (h₀ := X.base) I.ok.mod.kin D.kp (thn (ha.run pos pins s σ H _ I h) fun us s1 ⟨vs, H1, I1, r, q⟩ => ⟨I1.kIn, ?_⟩) he hpl
  exact runW D (hr.mono hk) tk I1 r q
theorem pe_c0 (D : DfX X k f ps sp dvs) (hr : Room j X.A) (tk : Takes X W) (hm : X.mg x = some (.ref f)) (hk : k ≤ j := by decide) (hg : Gl X x := by rfl) (hdb : (x == ("__debug__" : Str)) = false := by decide) :
    PE X (.Call (.Name x p) [] [] pos) (tCW sp dvs W tNil) := by
  refine ⟨fun pins s σ H Q I h => ?_⟩
  refine wpAny_Call_Name_kw (ld_glob I hg hm ?_ hdb)
  exact PySem.W.callWith_K0 I.kIn D.kp (runW (us := []) (vs := []) D (hr.mono hk) tk I .nil h)
theorem pe_m {pl : Sem Bool} (he : PE X o ta) (c : Cls X.K C) (hm : Meth X.K C m f) (D : DfX X k f ps sp dvs) (hr : Room j X.A) (tk : Takes X W) (ha : PA X (e :: es) t) (hk : k ≤ j := by decide)
    (hst : starEach (e :: es) X.env = (false, eval e X.env) :: starEach es X.env := by rfl) (hpl : (backTo pos (starEach es X.env)).any (·.1) = false := by rfl)
    (ht : eval (.Call (.Attribute o m apos) (e :: es) [] pos) X.env = (do
      let ov ← eval o X.env
      standAt apos.atName
      let (f, first) ← holding [ov] (getMethod ov m pl)
      callWith pos f first (backTo pos (starEach (e :: es) X.env)) (backToKw pos (keywordEach [] X.env))) := by rfl) :
    PE X (.Call (.Attribute o m apos) (e :: es) [] pos) (tMW C m sp dvs W ta t) := by
  refine ⟨fun pins s σ H Q I h => ?_⟩
  refine PySem.W.methodCall_KW (pl := pl) (thn (he.run pins s σ H _ I h) fun u s1 ⟨x, H1, I1, rx, a, dx, fs, ex, ea, l, q⟩ => ?_) ht
  subst ex
  obtain rfl : u = Value.ref a := rx
  refine getmeth_ok I1 ea c hm l ?_
  refine PySem.W.callWith_K (first := [.ref a]) (h₀ := X.base) I.ok.mod.kin hm.kp (thn (ha.run pos pins s1 σ H1 _ I1 q) fun us s2 ⟨vs, H2, I2, r, q2⟩ => ⟨I2.kIn, ?_⟩) hst hpl
  exact runW (us := .ref a :: us) (vs := .ref a :: vs) D (hr.mono hk) tk I2 (.cons rfl r) q2
theorem pe_m0 {pl : Sem Bool} (he : PE X o ta) (c : Cls X.K C) (hm : Meth X.K C m f) (D : DfX X k f ps sp dvs) (hr : Room j X.A) (tk : Takes X W) (hk : k ≤ j := by decide)
    (ht : eval (.Call (.Attribute o m apos) [] [] pos) X.env = (do
      let ov ← eval o X.env
      standAt apos.atName
      let (f, first) ← holding [ov] (getMethod ov m pl)
      callWith pos f first (backTo pos (starEach [] X.env)) (backToKw pos (keywordEach [] X.env))) := by rfl) :
    PE X (.Call (.Attribute o m apos) [] [] pos) (tMW C m sp dvs W ta tNil) := by
  refine ⟨fun pins s σ H Q I h => ?_⟩
  refine PySem.W.methodCall_KW (pl := pl) (thn (he.run pins s σ H _ I h) fun u s1 ⟨x, H1, I1, rx, a, dx, fs, ex, ea, l, q⟩ => ?_) ht
  subst ex
  obtain rfl : u = Value.ref a := rx
  refine getmeth_ok I1 ea c hm l ?_
  exact PySem.W.callWith_K0 (first := [.ref a]) I1.kIn hm.kp (runW (us := [.ref a]) (vs := [.ref a]) D (hr.mono hk) tk I1 (.cons rfl .nil) q)
theorem pe_n (M : Mk X.K C f) (D : DfX X k f ps sp dvs) (hr : Room j X.A) (tk : Takes X W) (hm : X.mg x = some (.ref C)) (ha : PA X (e :: es) t) (hk : k + 1 ≤ j := by decide) (hg : Gl X x := by rfl)
    (hdb : (x == ("__debug__" : Str)) = false := by decide) (he : starEach (e :: es) X.env = (false, eval e X.env) :: starEach es X.env := by rfl) (hpl : (backTo pos (starEach es X.env)).any (·.1) = false := by rfl) :
    PE X (.Call (.Name x p) (e :: es) [] pos) (tNW C sp dvs W t) := by
  refine ⟨fun pins s σ H Q I h => ?_⟩
  refine wpAny_Call_Name_kw (ld_glob I hg hm ?_ hdb)
  refine PySem.W.callWith_K (h₀ := X.base) I.ok.mod.kin M.kp (thn (ha.run pos pins s σ H _ I h) fun us s1 ⟨vs, H1, I1, r, q⟩ => ⟨I1.kIn, ?_⟩) he hpl
  exact run_mkW M D (hr.mono hk) tk I1 r q
theorem pe_n0 (M : Mk X.K C f) (D : DfX X k f ps sp dvs) (hr : Room j X.A) (tk : Takes X W) (hm : X.mg x = some (.ref C)) (hk : k + 1 ≤ j := by decide) (hg : Gl X x := by rfl) (hdb : (x == ("__debug__" : Str)) = false := by decide) :
    PE X (.Call (.Name x p) [] [] pos) (tNW C sp dvs W tNil) := by
  refine ⟨fun pins s σ H Q I h => ?_⟩
  refine wpAny_Call_Name_kw (ld_glob I hg hm ?_ hdb)
  exact PySem.W.callWith_K0 I.kIn M.kp (run_mkW (us := []) (vs := []) M D (hr.mono hk) tk I .nil h)
/-- o.f, a property -/
theorem pe_p (he : PE X e ta) (c : Cls X.K C) {g pp : Addr} (hp : PropOf X.K C x pp g) (D : DfX X k g ps sp []) (hr : Room j X.A) (hk : k + 1 ≤ j := by decide)
    (hab : attributeBase e x X.env (eval e X.env) = eval e X.env := by rfl) : PE X (.Attribute e x pos) (tProp C sp [] E0 ta) := by
  obtain ⟨fd, ds, F, hb, hd⟩ := D.ex
  cases hd
  exact pe_prop he c hp F (hr.mono hk) hb .nil passL hab

/-! ### operators by own methods -/
/-- o[i] -/
theorem pe_get (c : PySem.W.fnIn X.K f = true) (hm : Meth X.K C "__getitem__" f) (D : DfX X k f ps sp []) (hr : Room j X.A) (tk : Takes X W) (ha : PE X o ta) (hb : PE X e tb) (hk : k + 1 ≤ j := by decide)
    (hsl : ∀ v u, subscripted e true v u = runValue (.builtin "lifetime.subscript" ⟨[v, u], []⟩) := by intro _ _; with_unfolding_all rfl) :
    PE X (.Subscript o e pos) (tOpO2 C sp W ta tb) := by
  refine ⟨fun pins s σ H Q I h => ?_⟩
  refine Subscript_ (binT ha hb I h fun v u s2 x y H2 I2 rx ry q => ?_)
  obtain ⟨a, dx, fs, ex, ea, q⟩ := q
  subst ex
  cases rx
  obtain ⟨od, J⟩ := inst_at I2 ea
  obtain ⟨m0, fr⟩ := I2.fr
  exact PySem.W.sub_K fr I2.ok.mod.kin J hm.at_ c hm.fn (runW1 (us := [.ref a, u]) (vs := [.ref a, y]) D (hr.mono hk) tk I2 (.cons rfl (.cons ry .nil)) q) (hsl _ _)
end
end
/-! ## U2 -/
section

theorem CallR.or {X : Cx} {f : Value} {r r' : List V → Hp → VK → Prop} (h : CallR X f r) (h' : CallR X f r') : CallR X f (fun xs H Q => r xs H Q ∨ r' xs H Q) := by
  intro pins s σ H xs us Q I rv q
  rcases q with q | q
  · exact h pins s σ H xs us Q I rv q
  · exact h' pins s σ H xs us Q I rv q

/-! ### operators by values, whatever the kind -/
def rAddI : R2 := rI0 fun i j => .int (i + j)
def rSubI : R2 := rI0 fun i j => .int (i - j)
def rMulI : R2 := rI CMul fun i j => .int (i * j)
def rDivI : R2 := rI CDiv fun i j => .int (i / j)
def rModI : R2 := rI (fun _ j => 0 < j) fun i j => .int (i % j)
def rPowI : R2 := rI CPow fun i j => .int (i ^ j.toNat)
def rLtI : R2 := rI0 fun i j => .bl (decide (i < j))
def rLeI : R2 := rI0 fun i j => .bl (decide (i ≤ j))
def rGtI : R2 := rI0 fun i j => .bl (decide (j < i))
def rGeI : R2 := rI0 fun i j => .bl (decide (j ≤ i))
def rAddS : R2 := fun x y H Q => ∃ i j, x = .str i ∧ y = .str j ∧ i.length + j.length ≤ sizeLine ∧ Q (.str (i ++ j)) H

/-! ### new tuples: tracked plainly, or with the object told (whoever asks chooses) -/
def newT (H : Hp) (ys : List V) (Q : VK) : Prop := (∀ l, H l = none → Q (.ref l) (upd H l (.tup ys))) ∨ ∀ l ob, H l = none → ob.dict = none → ob.cls = .type "tuple" → Q (.ref l) (upd H l (.frz ob (.tup ys)))
theorem newT_laid {X : Cx} {pins : List (Addr × Obj)} {σ : St} {H : Hp} {s : Shared} {ys : List V} {its : List Value} {Q : VK} {t' : Nat} (I : Inv X pins σ H s) (hz : ys.length ≤ sizeLine) (r : Vals ys its) (q : newT H ys Q) :
    EP X pins σ Q (.ref s.heap.objs.size) { s with heap := s.heap.push { cls := .type "tuple", data := .seq its.toArray }, toks := t' } := by
  rcases q with q | q
  · exact ⟨.ref s.heap.objs.size, _, I.laid (t' := t') (o := .tup ys) (fun b ob e => Heap.get?_push_of_some _ e) (Nat.le_refl _) ⟨hz, its, r, IsTup.new _ _⟩, rfl, q _ (I.hok.fresh (Nat.le_refl _))⟩
  · exact ⟨.ref s.heap.objs.size, _, I.laid (t' := t') (o := .frz { cls := .type "tuple", data := .seq its.toArray } (.tup ys)) (fun b ob e => Heap.get?_push_of_some _ e) (Nat.le_refl _) ⟨Heap.get?_push_size _ rfl, hz, its, r, IsTup.new _ _⟩, rfl,
      q _ _ (I.hok.fresh (Nat.le_refl _)) rfl rfl⟩

/-- t + u, the new one tracked either way -/
def rCatN (K : PySem.W.Frag) : R2 := fun x y H Q => ∃ a b xs ys, x = .ref a ∧ y = .ref b ∧ SqT K H a xs ∧ SqT K H b ys ∧ xs.length + ys.length ≤ sizeLine ∧
  (xs = [] → Q (.ref b) H) ∧ (xs ≠ [] → ys = [] → Q (.ref a) H) ∧ (xs ≠ [] → ys ≠ [] → newT H (xs ++ ys) Q)
theorem op_catN {X : Cx} : OpR X (binaryOp .Add) (rCatN X.K) := by
  intro pins s σ H x y v u Q I rx ry h
  obtain ⟨a, b, xs, ys, rfl, rfl, ha, hb, hz, q0, q1, q2⟩ := h
  by_cases hx : xs = []
  · subst hx
    cases rx
    cases ry
    obtain ⟨its, r1, p1, _⟩ := I.tuple ha
    obtain ⟨its2, r2, p2, _⟩ := I.tuple hb
    cases r1
    exact cat_tup0 p1 p2 ⟨.ref b, H, I, rfl, q0 rfl⟩
  · cases rx
    cases ry
    obtain ⟨its, r1, p1, _⟩ := I.tuple ha
    obtain ⟨its2, r2, p2, _⟩ := I.tuple hb
    refine HT.cat_tup p1 p2 (fun z => hx (r1.nil_iff.mp z)) (fun z => ⟨.ref a, H, I, rfl, q1 hx (r2.nil_iff.mp z)⟩) (fun z => ?_) (by rw [← r1.length, ← r2.length]; exact hz)
    exact newT_laid (t' := s.toks) I (by rw [List.length_append]; exact hz) (r1.append r2) (q2 hx fun w => z (r2.nil_iff.mpr w))
def oAdd (K : PySem.W.Frag) : R2 := fun x y H Q => rAddI x y H Q ∨ rAddS x y H Q ∨ rCat x y H Q ∨ rCatN K x y H Q
def oMul (K : PySem.W.Frag) : R2 := fun x y H Q => rMulI x y H Q ∨ rRep x y H Q
def oEq (K : PySem.W.Frag) : R2 := fun x y H Q => rEq x y H Q ∨ rEqD K x y H Q
def oNe (K : PySem.W.Frag) : R2 := fun x y H Q => rNe x y H Q ∨ rNeD K x y H Q
def rDIn (neg : Bool) : R2 := fun x y H Q => ∃ a o, y = .ref a ∧ DGet H a x o ∧ Q (.bl (if neg then !o.isSome else o.isSome)) H
def rSgIn (neg : Bool) : R2 := fun x y H Q => ∃ (c : Nat) (z : Str), x = .str ⟨#[c]⟩ ∧ y = .str z ∧ Q (.bl (if neg then !decide (c ∈ z.cps.toList) else decide (c ∈ z.cps.toList))) H
def rInDD (K : PySem.W.Frag) (neg : Bool) : R2 := fun x y H Q => ∃ d ds, Dp K H x d ∧ Dp K H y (.list ds) ∧ SeqAt.shaped d = true ∧ SeqAt.shaped (.list ds) = true ∧ Q (.bl (if neg then !(ds.any fun z => PyData.eqv z d) else ds.any fun z => PyData.eqv z d)) H
/-- x in y: flat things in lists and tuples | keys of dicts | a sign of a text | data in lists -/
def oIn (K : PySem.W.Frag) (neg : Bool) : R2 := fun x y H Q => rIn K neg x y H Q ∨ rDIn neg x y H Q ∨ rSgIn neg x y H Q ∨ rInDD K neg x y H Q
/-- x[i]: lists, tuples, texts | dicts -/
def oGet (K : PySem.W.Frag) : R2 := fun x y H Q => rIxL K x y H Q ∨ rIxT K x y H Q ∨ rIxS x y H Q ∨ ∃ a v, x = .ref a ∧ DGet H a y (some v) ∧ Q v H
/-- len(x): lists and tuples | texts | dicts -/
def oLen (K : PySem.W.Frag) : List V → Hp → VK → Prop := fun xs H Q =>
  (∃ p ys, xs = [.ref p] ∧ (SqL K H p ys ∨ SqT K H p ys) ∧ Q (.int ys.length) H) ∨ (∃ i, xs = [.str i] ∧ i.length ≤ sizeLine ∧ Q (.int i.length) H) ∨
    (∃ p kvs, xs = [.ref p] ∧ H p = some (.dK kvs) ∧ Q (.int ((kvs.length : Nat) : Int)) H) ∨ ∃ (p : Addr) (kvs : List (List Key × V)), xs = [.ref p] ∧ H p = some (.dT kvs) ∧ Q (.int ((kvs.length : Nat) : Int)) H
/-- x[lo:hi]: lists | tuples | texts -/
def oSl (K : PySem.W.Frag) : V → Option Int → Option Int → Hp → VK → Prop := fun x lo hi H Q => rSlL K x lo hi H Q ∨ rSlA K x lo hi H Q ∨ rSlS x lo hi H Q
/-- x[i] = v: lists | dicts -/
def oSet : V → V → V → Hp → (Hp → Prop) → Prop := fun o i v H Q => rSetL o i v H Q ∨ ∃ a H', o = .ref a ∧ DPut H a i v H' ∧ Q H'

section
variable {X : Cx}
theorem op_addU : OpR X (binaryOp .Add) (oAdd X.K) := OpR.or op_add (OpR.or op_add_str (OpR.or op_cat op_catN))
theorem op_mulU : OpR X (binaryOp .Mult) (oMul X.K) := OpR.or op_mul op_rep
theorem op_eqU (hu : X.A.units + 64 < cLine) : OpR X (compareOp .Eq) (oEq X.K) := OpR.or op_eq (op_eqD hu)
theorem op_neU (hu : X.A.units + 64 < cLine) : OpR X (compareOp .NotEq) (oNe X.K) := OpR.or op_ne (op_neD hu)
theorem op_dIn (hu : X.A.units + 1 < cLine) : OpR X (compareOp .In) (rDIn false) := by
  intro pins s σ H x y v u Q I rx ry h
  obtain ⟨a, o, ey, g, q⟩ := h
  subst ey
  cases ry
  exact d_in hu I g rx fun s' J => ⟨.bl _, H, J, rfl, q⟩
theorem op_dNotIn (hu : X.A.units + 1 < cLine) : OpR X (compareOp .NotIn) (rDIn true) := by
  intro pins s σ H x y v u Q I rx ry h
  obtain ⟨a, o, ey, g, q⟩ := h
  subst ey
  cases ry
  exact d_notIn hu I g rx fun s' J => ⟨.bl _, H, J, rfl, q⟩
theorem op_inU (hu : X.A.units + 65 < cLine) : OpR X (compareOp .In) (oIn X.K false) :=
  OpR.or op_in_seq (OpR.or (op_dIn (by omega)) (OpR.or op_in_sign (op_inD hu)))
theorem op_notInU (hu : X.A.units + 65 < cLine) : OpR X (compareOp .NotIn) (oIn X.K true) :=
  OpR.or op_notIn_seq (OpR.or (op_dNotIn (by omega)) (OpR.or op_notIn_sign (op_notInD hu)))
theorem call_lenU : CallR X (.builtin "len") (oLen X.K) :=
  CallR.or call_len_seq (CallR.or call_len_str (CallR.or call_lenD call_len_dT))
theorem sl_U : SlR X (oSl X.K) := SlR.or sl_list (SlR.or sl_tupA sl_str)
theorem ix_dict (hu : X.A.units + 1 < cLine) : IxR X (fun x y H Q => ∃ a v, x = .ref a ∧ DGet H a y (some v) ∧ Q v H) := by
  intro value slice pins s σ H x y v u Q I rx ry h hs
  obtain ⟨a, w, ex, g, q⟩ := h
  subst ex
  cases rx
  exact tail_any (ops := [.ref a, u]) (dict_typeIs I g) PySem.F.slot_dict_getitem.lookup (d_getItem hu I g ry fun w' s3 I3 rw' => ⟨w, H, I3, rw', q⟩) hs
theorem ix_U (hu : X.A.units + 1 < cLine) : IxR X (oGet X.K) := IxR.or ix_list (IxR.or ix_tup (IxR.or ix_str (ix_dict hu)))
theorem set_U (hu : X.A.units + 1 < cLine) : PSet X oSet := by
  intro pins s σ H o i v ov iv u Q I ro ri rv h
  rcases h with h | ⟨a, H', eo, g, q⟩
  · exact set_list pins s σ H o i v ov iv u Q I ro ri rv h
  · subst eo
    cases ro
    exact d_setItem hu I g ri rv fun s4 I4 => ⟨H', I4, q⟩
theorem hu65 {k : Nat} (hr : Room k X.A) : X.A.units + 65 < cLine := by have := hr.un; omega
theorem hu64 {k : Nat} (hr : Room k X.A) : X.A.units + 64 < cLine := by have := hr.un; omega
theorem hu1 {k : Nat} (hr : Room k X.A) : X.A.units + 1 < cLine := by have := hr.un; omega
theorem ty_looks {pins : List (Addr × Obj)} {σ : St} {H : Hp} {s : Shared} {x : V} {u t : Value} (I : Inv X pins σ H s) (rx : RelV x u) (ty : TyX X.K H x t) : PySem.W.Looks (model X.prog X.w) s.heap (typeOf u) t := by
  obtain ⟨P, Z, p, _⟩ := kit_of I rx ty
  exact Z.ty _ _ I.kIn p
end

/-! ### operators by own methods, further -/
/-- x op y by x's own method for op, y of a type that does not come first -/
def tCmpO (K : PySem.W.Frag) (C : Addr) (sp : Sp) (W : WX) (ta tb : TE) : TE := fun σ H Q => ta σ H fun x H1 => tb σ H1 fun y H2 => ∃ a dx fs t, x = .ref a ∧ H2 a = some (.ins C dx fs) ∧ TyX K H2 y t ∧ PySem.W.notFirst K C t = true ∧ sp [x, y] H2 Q (WE W σ)
/-- y in o, o's own __contains__ hands back a truth value -/
def tInO (C : Addr) (neg : Bool) (sp : Sp) (W : WX) (ta tb : TE) : TE := fun σ H Q => ta σ H fun x H1 => tb σ H1 fun y H2 => ∃ a dx fs, y = .ref a ∧ H2 a = some (.ins C dx fs) ∧ sp [y, x] H2 (fun v H3 => ∃ b, v = .bl b ∧ Q (.bl (if neg then !b else b)) H3) (WE W σ)
def rLenO (C : Addr) (sp : Sp) : List V → Hp → VK → Prop := fun xs H Q => ∃ a dx fs, xs = [.ref a] ∧ H a = some (.ins C dx fs) ∧ sp [.ref a] H (fun v H' => ∃ n : Int, v = .int n ∧ 0 ≤ n ∧ n < 2 ^ 63 ∧ Q (.int n) H') E0
/-- x op y, both instances of the class at C -/
def tBinO (C : Addr) (sp : Sp) (W : WX) (ta tb : TE) : TE := fun σ H Q => ta σ H fun x H1 => tb σ H1 fun y H2 => ∃ a dx fs b dy gs, x = .ref a ∧ y = .ref b ∧ H2 a = some (.ins C dx fs) ∧ H2 b = some (.ins C dy gs) ∧ sp [x, y] H2 Q (WE W σ)
/-- o[i] = v by o's own __setitem__ -/
def tSetO (C : Addr) (sp : Sp) (W : WX) (to ti tv : TE) : TS := fun D σ H => tv σ H fun v H1 => to σ H1 fun x H2 => ti σ H2 fun y H3 => ∃ a dx fs, x = .ref a ∧ H3 a = some (.ins C dx fs) ∧ sp [x, y, v] H3 (fun _ H4 => D.nx σ H4) (WE W σ)
section
variable {X : Cx} {W : WX} {k j : Nat} {f C : Addr} {ps : List Str} {sp : Sp} {pos pos' : Pos} {a b o i e value : Expr} {ta tb to ti tv : TE}
theorem pe_cmpO {op : CmpOp} {m : Str} (em : (cmpInfo op).2.1 = m) (hm : Meth X.K C m f) (D : DfX X k f ps sp []) (hr : Room j X.A) (tk : Takes X W) (ha : PE X a ta) (hb : PE X b tb) (hk : k ≤ j := by decide)
    (hop : ∀ a b, compareOp op a b = richCompare op a b := by intro _ _; rfl) (hmk : behindInMarks op b = false := by exact nomark _) : PE X (.Compare a [op] [b] pos) (tCmpO X.K C sp W ta tb) := by
  refine ⟨fun pins s σ H Q I h => ?_⟩
  refine wpAny_Compare1 (binT ha hb I h fun v u s2 x y H2 I2 rx ry q => ?_) hmk
  obtain ⟨a, dx, fs, t, ex, ea, ty, hn, q⟩ := q
  subst ex
  subst em
  cases rx
  obtain ⟨od, J⟩ := inst_at I2 ea
  obtain ⟨m0, fr⟩ := I2.fr
  rw [hop]
  refine PySem.W.cmp_K (op := op) (tb := t) hr.units0 fr I2.ok.mod.kin J (ty_looks I2 ry ty) hn hm.at_ hm.fn ?_
  refine wpAny_mono (runW (us := [.ref a, u]) (vs := [.ref a, y]) D (hr.mono hk) tk I2 (.cons rfl (.cons ry .nil)) q) (fun w s' z => ?_) fun _ _ x => x
  obtain ⟨z', H', I', rz, qz⟩ := z
  exact SlX.cmpback rz ⟨z', H', I', rz, qz⟩
theorem pe_inO (hm : Meth X.K C "__contains__" f) (D : DfX X k f ps sp []) (hr : Room j X.A) (tk : Takes X W) (ha : PE X a ta) (hb : PE X b tb) (hk : k ≤ j := by decide) (hmk : behindInMarks .In b = false := by rfl) :
    PE X (.Compare a [.In] [b] pos) (tInO C false sp W ta tb) := by
  refine ⟨fun pins s σ H Q I h => ?_⟩
  refine wpAny_Compare1 (binT ha hb I h fun v u s2 x y H2 I2 rx ry q => ?_) hmk
  obtain ⟨a, dx, fs, ey, ea, q⟩ := q
  subst ey
  cases ry
  obtain ⟨od, J⟩ := inst_at I2 ea
  obtain ⟨m0, fr⟩ := I2.fr
  refine PySem.W.in_K fr I2.ok.mod.kin J hm.at_ hm.fn ?_
  refine wpAny_mono (runW (us := [.ref a, v]) (vs := [.ref a, x]) D (hr.mono hk) tk I2 (.cons rfl (.cons rx .nil)) q) (fun w s' z => ?_) fun _ _ x => x
  obtain ⟨z', H', I', rz, c, ez, qz⟩ := z
  subst ez
  cases rz
  exact wpAny_truthy_bool ⟨.bl c, H', I', rfl, qz⟩
theorem pe_notInO (hm : Meth X.K C "__contains__" f) (D : DfX X k f ps sp []) (hr : Room j X.A) (tk : Takes X W) (ha : PE X a ta) (hb : PE X b tb) (hk : k ≤ j := by decide) (hmk : behindInMarks .NotIn b = false := by rfl) :
    PE X (.Compare a [.NotIn] [b] pos) (tInO C true sp W ta tb) := by
  refine ⟨fun pins s σ H Q I h => ?_⟩
  refine wpAny_Compare1 (binT ha hb I h fun v u s2 x y H2 I2 rx ry q => ?_) hmk
  obtain ⟨a, dx, fs, ey, ea, q⟩ := q
  subst ey
  cases ry
  obtain ⟨od, J⟩ := inst_at I2 ea
  obtain ⟨m0, fr⟩ := I2.fr
  refine PySem.W.notIn_K fr I2.ok.mod.kin J hm.at_ hm.fn ?_
  refine wpAny_mono (runW (us := [.ref a, v]) (vs := [.ref a, x]) D (hr.mono hk) tk I2 (.cons rfl (.cons rx .nil)) q) (fun w s' z => ?_) fun _ _ x => x
  obtain ⟨z', H', I', rz, c, ez, qz⟩ := z
  subst ez
  cases rz
  exact wpAny_truthy_bool ⟨.bl (!c), H', I', rfl, qz⟩
theorem call_lenO (hm : Meth X.K C "__len__" f) (D : DfX X k f ps sp []) (hr : Room j X.A) (hk : k + 1 ≤ j := by decide) : CallR X (.builtin "len") (rLenO C sp) := by
  intro pins s σ H xs us Q I r h
  obtain ⟨a, dx, fs, ex, ea, q⟩ := h
  subst ex
  cases r with
  | cons ra rn =>
    cases rn
    cases ra
    obtain ⟨od, J⟩ := inst_at I ea
    obtain ⟨m0, fr⟩ := I.fr
    refine PySem.W.len_K fr I.ok.mod.kin J hm.at_ hm.fn ?_
    refine wpAny_mono (runW1 (us := [.ref a]) (vs := [.ref a]) (W := W0) D (hr.mono hk) takes0 I (.cons rfl .nil) q) (fun w s' z => ?_) fun _ _ x => x
    obtain ⟨z', H', I', rz, n, ez, h0, h1, qz⟩ := z
    subst ez
    obtain ⟨t, rfl⟩ := rz
    exact ⟨⟨h0, h1⟩, .int n, H', I'.tok _, ⟨_, rfl⟩, qz⟩
theorem pe_binO {op : Operator} {m : Str} (em : PySem.dunder op.info.2 = m) (hc : PySem.W.selfFirst X.K C = true) (hm : Meth X.K C m f) (D : DfX X k f ps sp []) (hr : Room j X.A) (tk : Takes X W) (ha : PE X a ta) (hb : PE X b tb) (hk : k ≤ j := by decide) :
    PE X (.BinOp a op b pos) (tBinO C sp W ta tb) := by
  refine ⟨fun pins s σ H Q I h => ?_⟩
  refine wpAny_BinOp (binT ha hb I h fun v u s2 x y H2 I2 rx ry q => ?_)
  obtain ⟨a, dx, fs, b', dy, gs, ex, ey, ea, eb, q⟩ := q
  subst ex
  subst ey
  subst em
  cases rx
  cases ry
  obtain ⟨od, J⟩ := inst_at I2 ea
  obtain ⟨od', J'⟩ := inst_at I2 eb
  obtain ⟨m0, fr⟩ := I2.fr
  refine PySem.W.binop_K (op := op) fr I2.ok.mod.kin J J'.type hc hm.at_ hm.fn ?_
  refine wpAny_mono (runW (us := [.ref a, .ref b']) (vs := [.ref a, .ref b']) D (hr.mono hk) tk I2 (.cons rfl (.cons rfl .nil)) q) (fun w s' z => ?_) fun _ _ x => x
  obtain ⟨z', H', I', rz, qz⟩ := z
  exact SlX.cmpback rz ⟨z', H', I', rz, qz⟩
theorem pe_negO (hm : Meth X.K C "__neg__" f) (D : DfX X k f ps sp []) (hr : Room j X.A) (tk : Takes X W) (ha : PE X a ta) (hk : k ≤ j := by decide) : PE X (.UnaryOp .USub a pos) (tOpO1 C sp W ta) := by
  refine ⟨fun pins s σ H Q I h => ?_⟩
  refine UnaryOp_ (thn (ha.run pins s σ H _ I h) fun v s1 ⟨x, H1, I1, r1, q1⟩ => ?_)
  obtain ⟨a, dx, fs, ex, ea, q⟩ := q1
  subst ex
  cases r1
  obtain ⟨od, J⟩ := inst_at I1 ea
  obtain ⟨m0, fr⟩ := I1.fr
  exact PySem.W.ksp_neg fr I1.ok.mod.kin J hm.at_ hm.fn (runW (us := [.ref a]) (vs := [.ref a]) D (hr.mono hk) tk I1 (.cons rfl .nil) q)
theorem ps_setO (hq : PySem.W.noSeq X.K C = true) (hm : Meth X.K C "__setitem__" f) (D : DfX X k f ps sp []) (hr : Room j X.A) (tk : Takes X W) (ho : PE X o to) (hi : PE X i ti) (hv : PE X value tv) (hk : k ≤ j := by decide)
    (hs : swapsWith value (some (.Subscript o i pos')) pos.line X.env = pure false := by rfl) : PS X (.Assign [.Subscript o i pos'] value pos) (tSetO C sp W to ti tv) := by
  refine ⟨fun pins s σ H D' I h => ?_⟩
  refine wpAny_Assign_Subscript (thn (hv.run pins s σ H _ I h) fun r s1 ⟨v, H1, I1, rv, q1⟩ => thn (ho.run pins s1 σ H1 _ I1 q1) fun u s2 ⟨x, H2, I2, rx, q2⟩ => thn (hi.run pins s2 σ H2 _ I2 q2) fun iv s3 ⟨y, H3, I3, ry, a, dx, fs, ex, ea, q3⟩ => ?_) hs
  subst ex
  cases rx
  obtain ⟨od, J⟩ := inst_at I3 ea
  obtain ⟨m0, fr⟩ := I3.fr
  refine PySem.W.ksp_setItem fr I3.ok.mod.kin J hq hm.at_ hm.fn ?_
  refine wpAny_mono (runW (us := [.ref a, iv, r]) (vs := [.ref a, y, v]) D (hr.mono hk) tk I3 (.cons rfl (.cons ry (.cons rv .nil))) q3) (fun w s' z => ?_) fun _ _ x => x
  obtain ⟨z', H', I', rz, qz⟩ := z
  exact ⟨σ, H', I', qz⟩
end
end
/-! ## U3 -/
section

/-! ### a reading made monotone -/
def ME (te : TE) : TE := fun σ H Q => ∃ R : VK, te σ H R ∧ ∀ v H', R v H' → Q v H'
def MA (ta : TA) : TA := fun σ H Q => ∃ R : List V → Hp → Prop, ta σ H R ∧ ∀ v H', R v H' → Q v H'
section
variable {X : Cx} {e : Expr} {es : List Expr} {te : TE} {ta : TA} {st : Stmt} {t t' : TS}
theorem pe_me (h : PE X e te) : PE X e (ME te) := ⟨fun pins s σ H Q I ⟨R, hR, k⟩ => wpAny_mono (h.run pins s σ H R I hR) (fun _ _ ⟨v, H', I', r, q⟩ => ⟨v, H', I', r, k _ _ q⟩) fun _ _ z => z⟩
theorem pa_ma (h : PA X es ta) : PA X es (MA ta) := ⟨fun pos pins s σ H Q I ⟨R, hR, k⟩ => wpAny_mono (h.run pos pins s σ H R I hR) (fun _ _ ⟨v, H', I', r, q⟩ => ⟨v, H', I', r, k _ _ q⟩) fun _ _ z => z⟩
theorem ps_weak (h : PS X st t) (k : ∀ D σ H, t' D σ H → t D σ H) : PS X st t' := ⟨fun pins s σ H D I q => h.run pins s σ H D I (k D σ H q)⟩
end

/-! ### own exception classes whose __init__ stores its arguments -/
def oexB (K : PySem.W.Frag) (C : Addr) : Bool := (match K.lookup C with
  | some ⟨.type "type", _, .cls cd, sl⟩ => (match cd.mro, sl.toList with
    | .ref C' :: bm, [_, _, _, _, some (.builtin n), _] => C' == C && n == "ValueError.__new__" && !cd.hasDel && cd.hasDict && PySem.HandSPX.refsVE bm
    | _, _ => false)
  | _ => false) && (decide (PySem.W.findIn K (.ref C) "__setattr__" = some (some (.builtin "object.__setattr__"))) && (decide (PySem.W.subIn K (.ref C) (.type "BaseException") = some true) &&
    (decide (PySem.W.typeIn K (.ref C) = some (.type "type")) && PySem.W.keepIn K (.ref C))))
theorem oexB_ok {K : PySem.W.Frag} {C : Addr} (h : oexB K C = true) : OexC K C := by
  obtain ⟨h1, h⟩ := Bool.and_eq_true_iff.mp h
  obtain ⟨h2, h⟩ := Bool.and_eq_true_iff.mp h
  obtain ⟨h3, h⟩ := Bool.and_eq_true_iff.mp h
  obtain ⟨h4, h5⟩ := Bool.and_eq_true_iff.mp h
  refine ⟨?_, of_decide_eq_true h2, of_decide_eq_true h3, of_decide_eq_true h4, h5⟩
  split at h1
  · rename_i dd cd sl ho
    split at h1
    · rename_i C' bm k0 k1 k2 k3 n k5 hm hs
      simp only [Bool.and_eq_true, beq_iff_eq, Bool.not_eq_true'] at h1
      obtain ⟨⟨⟨⟨rfl, rfl⟩, hdel⟩, hdc⟩, ht⟩ := h1
      obtain ⟨nm, bs, mro, ns, qn, hd, sn, sub, ab, col, del⟩ := cd
      dsimp only at hm hdel hdc
      subst hm hdel hdc
      have hsl : sl = #[k0, k1, k2, k3, some (.builtin "ValueError.__new__"), k5] := by
        obtain ⟨l⟩ := sl
        simp only at hs
        rw [hs]
      subst hsl
      exact ⟨nm, qn, ns, bs, bm, sn, sub, ab, col, dd, k0, k1, k2, k3, k5, ho, ht⟩
    · cases h1
  · cases h1

/-- the promise of such an __init__ with one field, with two -/
def spX1 (C : Addr) (f : Str) : Sp := fun vs H Q _ => ∃ a v, vs = [.ref a, v] ∧ H a = some (exo a C none) ∧ ∀ dx, H dx = none → dx ≠ a → Q .non (upd (upd H dx (exd dx [(f, v)])) a (exo a C (some dx)))
def spX2 (C : Addr) (f g : Str) : Sp := fun vs H Q _ => ∃ a v w, vs = [.ref a, v, w] ∧ H a = some (exo a C none) ∧ ∀ dx, H dx = none → dx ≠ a → Q .non (upd (upd (upd H dx (exd dx [(f, v)])) a (exo a C (some dx))) dx (exd dx [(g, w), (f, v)]))
theorem pure_x1 {K : PySem.W.Frag} {C : Addr} {f : Str} (T : OexC K C) (hno : PySem.W.findIn K (.ref C) f = some none) (vs : List V) (H : Hp) (Q : VK) (E : XK) (h : spX1 C f vs H Q E) :
    tOst K f (tVar 0) (tVar 1) { nx := fun _ H' => Q .non H', rt := Q } (start ["self", f] vs) H := by
  obtain ⟨a, v, rfl, ha, k⟩ := h
  exact ⟨v, rfl, .ref a, rfl, a, C, rfl, T, hno, .inl ⟨ha, fun dx n ne => k dx n ne⟩⟩
theorem pure_x2 {K : PySem.W.Frag} {C : Addr} {f g : Str} (T : OexC K C) (hno : PySem.W.findIn K (.ref C) f = some none) (hno2 : PySem.W.findIn K (.ref C) g = some none) (vs : List V) (H : Hp) (Q : VK) (E : XK) (h : spX2 C f g vs H Q E) :
    tSeq (tOst K f (tVar 0) (tVar 1)) (tOst K g (tVar 0) (tVar 2)) { nx := fun _ H' => Q .non H', rt := Q } (start ["self", f, g] vs) H := by
  obtain ⟨a, v, w, rfl, ha, k⟩ := h
  refine ⟨v, rfl, .ref a, rfl, a, C, rfl, T, hno, .inl ⟨ha, fun dx n ne => ?_⟩⟩
  refine ⟨w, rfl, .ref a, rfl, a, C, rfl, T, hno2, .inr ⟨dx, [(f, v)], upd_same, ?_, by show 1 ≤ 900; decide, k dx n ne⟩⟩
  rw [upd_ne ne, upd_same]

/-- raise C(e), raise C(e, e2): for every new place of the error's own dict -/
def tRs1 (C : Addr) (f : Str) (W : WX) (te : TE) : TS := fun _ σ H => te σ H fun v H1 => ∀ d, H1 d = none → W (.ref C) (some d) σ (upd H1 d (.xd [(f, v)]))
def tRs2 (C : Addr) (f g : Str) (W : WX) (te te2 : TE) : TS := fun _ σ H => te σ H fun v H1 => te2 σ H1 fun w H2 => ∀ d, H2 d = none → W (.ref C) (some d) σ (upd H2 d (.xd [(g, w), (f, v)]))
theorem xd_eq {H1 : Hp} {a dx C : Addr} {d1 d2 : Option Addr} {o o' : HO} (n : H1 a = none) (nd : dx ≠ a) (xd : HO) : upd (del (upd (upd (upd H1 a (exo a C d1)) dx o) a (exo a C d2)) a) dx xd = upd H1 dx xd := by
  funext b
  by_cases hb : b = dx
  · rw [hb, upd_same, upd_same]
  · rw [upd_ne hb, upd_ne hb]
    by_cases ha : b = a
    · rw [ha, del_same, n]
    · rw [del_ne ha, upd_ne ha, upd_ne hb, upd_ne ha]
theorem xd_eq2 {H1 : Hp} {a dx C : Addr} {d1 d2 : Option Addr} {o o' : HO} (n : H1 a = none) (nd : dx ≠ a) (xd : HO) : upd (del (upd (upd (upd (upd H1 a (exo a C d1)) dx o) a (exo a C d2)) dx o') a) dx xd = upd H1 dx xd := by
  funext b
  by_cases hb : b = dx
  · rw [hb, upd_same, upd_same]
  · rw [upd_ne hb, upd_ne hb]
    by_cases ha : b = a
    · rw [ha, del_same, n]
    · rw [del_ne ha, upd_ne hb, upd_ne ha, upd_ne hb, upd_ne ha]
section
variable {X : Cx} {W : WX} {k j : Nat} {fI C : Addr} {ps : List Str} {f g x : Str} {p pos pos2 : Pos} {e e2 : Expr} {te te2 : TE}
/-- what the written part says of an exception class and its __init__ -/
structure XCls (K : PySem.W.Frag) (C fI : Addr) : Prop where
  ox : OexC K C
  iC : PySem.W.findIn K (.ref C) "__init__" = some (some (.ref fI))
  tI : PySem.W.typeIn K (.ref fI) = some (.type "function")
theorem ps_raise1 (hc : X.calm = true) (T : XCls X.K C fI) (D : DfX X k fI ps (spX1 C f) []) (hr : Room j X.A) (tk : Takes X W) (hm : X.mg x = some (.ref C)) (he : PE X e te) (hk : k + 1 ≤ j := by decide) (hg : Gl X x := by rfl)
    (hdb : (x == ("__debug__" : Str)) = false := by decide) (hst : starEach [e] X.env = (false, eval e X.env) :: starEach [] X.env := by rfl) (hpl : (backTo pos (starEach [] X.env)).any (·.1) = false := by rfl) :
    PS X (.Raise (some (.Call (.Name x p) [e] [] pos)) none pos2) (tRs1 C f W te) := by
  obtain ⟨fd, ds, F, hb, hd⟩ := D.ex
  cases hd
  refine ps_weak (ps_raise hc tk (pmk_oex T.ox T.iC T.tI F (hr.mono hk) hb .nil passL hg hm (pa_ma (pa_cons (pe_me he) pa_nil hst)) hdb hst hpl)) fun D' σ H q => ?_
  refine ⟨fun vs H1 => ∃ v, vs = [v] ∧ ∀ d, H1 d = none → W (.ref C) (some d) σ (upd H1 d (.xd [(f, v)])), ⟨_, q, fun v H1 q1 => ⟨v, rfl, q1⟩⟩, fun vs H1 ⟨v, ev, q1⟩ => ?_⟩
  subst ev
  refine ⟨by show 1 ≤ 1000; decide, fun a na => ⟨a, v, rfl, upd_same, fun dx ndx nda => ?_⟩⟩
  have n1 : H1 dx = none := by rw [upd_ne nda] at ndx; exact ndx
  refine ⟨rfl, dx, [(f, v)], upd_same, by rw [upd_ne nda, upd_same], n1, ?_⟩
  rw [xd_eq (o' := HO.own a) na nda]
  exact q1 dx n1
theorem ps_raise2 (hc : X.calm = true) (T : XCls X.K C fI) (D : DfX X k fI ps (spX2 C f g) []) (hr : Room j X.A) (tk : Takes X W) (hm : X.mg x = some (.ref C)) (he : PE X e te) (he2 : PE X e2 te2) (hk : k + 1 ≤ j := by decide) (hg : Gl X x := by rfl)
    (hdb : (x == ("__debug__" : Str)) = false := by decide) (hst : starEach [e, e2] X.env = (false, eval e X.env) :: starEach [e2] X.env := by rfl) (hst2 : starEach [e2] X.env = (false, eval e2 X.env) :: starEach [] X.env := by rfl) (hpl : (backTo pos (starEach [e2] X.env)).any (·.1) = false := by rfl) :
    PS X (.Raise (some (.Call (.Name x p) [e, e2] [] pos)) none pos2) (tRs2 C f g W te te2) := by
  obtain ⟨fd, ds, F, hb, hd⟩ := D.ex
  cases hd
  refine ps_weak (ps_raise hc tk (pmk_oex T.ox T.iC T.tI F (hr.mono hk) hb .nil passL hg hm (pa_ma (pa_cons (pe_me he) (pa_cons (pe_me he2) pa_nil hst2) hst)) hdb hst hpl)) fun D' σ H q => ?_
  refine ⟨fun vs H1 => ∃ v w, vs = [v, w] ∧ ∀ d, H1 d = none → W (.ref C) (some d) σ (upd H1 d (.xd [(g, w), (f, v)])), ⟨_, q, fun v H1 q1 => ⟨_, q1, fun w H2 q2 => ⟨v, w, rfl, q2⟩⟩⟩, fun vs H1 ⟨v, w, ev, q1⟩ => ?_⟩
  subst ev
  refine ⟨by show 2 ≤ 1000; decide, fun a na => ⟨a, v, w, rfl, upd_same, fun dx ndx nda => ?_⟩⟩
  have n1 : H1 dx = none := by rw [upd_ne nda] at ndx; exact ndx
  refine ⟨rfl, dx, [(g, w), (f, v)], by rw [upd_ne (Ne.symm nda), upd_same], upd_same, n1, ?_⟩
  rw [xd_eq2 na nda]
  exact q1 dx n1
end

/-- try: body / except c as n: suite -/
def tTryAs (K : PySem.W.Frag) (c : Value) (i : Nat) (tb : WX → TS) (ts : Addr → Value → Option Addr → TS) (Wout : WX) : TS := fun D σ H => tb (wAs K c i ts Wout D) D σ H
end
/-! ## U4 -/
section
open He (ga ma FnW Dv relAll asD frG frG_in ba eqO eqO_ok)

/-! ### a hook: defs found by paths, and any facts that can be decided -/
/-- the getter of a property -/
def pAd (K : PySem.W.Frag) (C f : Str) : Addr := match PySem.W.recIn K (ma K (ga K C) f) "property" with
  | some (.ref g :: _) => g
  | _ => 0
inductive At where
  | fn (x : Str) | me (C m : Str) | pr (C f : Str)
def At.a (K : PySem.W.Frag) : At → Addr
  | .fn x => ga K x
  | .me C m => ma K (ga K C) m
  | .pr C f => pAd K C f
structure DefU where
  at_ : At
  name : Str
  qual : Str
  st : Stmt
  dfl : List Dv := []
  kwd : List (Str × Dv) := []
def fnU (K : PySem.W.Frag) (a : Addr) : FnW := match K.lookup a with
  | some ⟨_, _, .func fd, _⟩ => some (fd.name, fd.qualname, fd.params, fd.body, fd.scope, fd.globals, fd.closure, fd.builtins)
  | _ => none
def DefU.val (d : DefU) : FnW := some (d.name, d.qual, defArgs d.st, .stmts (defBody d.st), defScope d.st, mainGlobals, [], builtinsNs)
def DefU.dvs (K : PySem.W.Frag) (d : DefU) : List V := d.dfl.map (Dv.v K)
def DefU.kws (K : PySem.W.Frag) (d : DefU) : List (Str × V) := d.kwd.map fun q => (q.1, q.2.v K)
def DefU.ok (K : PySem.W.Frag) (d : DefU) : Bool := PySem.W.keepIn K (.ref (d.at_.a K)) && (match K.lookup (d.at_.a K) with
  | some ⟨_, _, .func fd, _⟩ => PySem.W.codeIn K fd.code d.qual && (He.dflB K fd.defaults (d.dvs K) && He.kwdB K fd.kwdefaults (d.kws K))
  | _ => false)
theorem DefU.funD {K : PySem.W.Frag} {d : DefU} (e : fnU K (d.at_.a K) = d.val) (c : d.ok K = true) : ∃ fd, FunD K d.name d.qual (defArgs d.st) (defBody d.st) (defScope d.st) (d.dvs K) (d.kws K) (d.at_.a K) fd := by
  obtain ⟨kp, c2⟩ := ba c
  unfold fnU at e
  cases q : K.lookup (d.at_.a K) with
  | none =>
    rw [q] at c2
    cases c2
  | some o =>
    obtain ⟨oc, od, dt, osl⟩ := o
    rw [q] at c2 e
    cases dt with
    | func fd =>
      obtain ⟨n1, n2, n3, n4, n5, n6, n7, n8, n9, n10, n11, n12, n13, n14, n15⟩ := fd
      have e2 : (some (n1, n2, n3, n4, n5, n6, n7, n15) : FnW) = some (d.name, d.qual, defArgs d.st, .stmts (defBody d.st), defScope d.st, mainGlobals, [], builtinsNs) := e
      simp only [Option.some.injEq, Prod.mk.injEq] at e2
      obtain ⟨h1, h2, h3, h4, h5, h6, h7, h8⟩ := e2
      subst h1 h2 h3 h4 h5 h6 h7 h8
      have c3 : (PySem.W.codeIn K n13 d.qual && (He.dflB K n8 (d.dvs K) && He.kwdB K n9 (d.kws K))) = true := c2
      obtain ⟨k1, k2⟩ := ba c3
      obtain ⟨k3, k4⟩ := ba k2
      exact ⟨_, ⟨oc, od, n8, n9, n10, n11, n12, n13, n14, osl, rfl, q, k1, He.dflB_ok k3, He.kwdB_ok k4⟩, kp⟩
    | _ => cases c2
abbrev AlU : Type := Bool × List FnW
def obsU (ex : List (PySem.W.Frag → Bool)) (fn : List DefU) (K : PySem.W.Frag) : AlU := ((ex.all fun f => f K) && fn.all fun d => d.ok K, fn.map fun d => fnU K (d.at_.a K))
def valU (fn : List DefU) : AlU := (true, fn.map DefU.val)
def SaysU (ex : List (PySem.W.Frag → Bool)) (fn : List DefU) (K : PySem.W.Frag) : Prop := obsU ex fn K = valU fn
def obsUG (n : Nat) (ex : List (PySem.W.Frag → Bool)) (fn : List DefU) (g : Addr → Option Obj) : AlU := obsU ex fn (frG g (asD g n))
def hookU (n : Nat) (ex : List (PySem.W.Frag → Bool)) (fn : List DefU) : PySem.W.Hook where
  α := AlU
  obs := fun s => obsUG n ex fn s.heap.get?
  val := fun _ => valU fn
  says := fun _ h => ∃ K : PySem.W.Frag, K.In h ∧ SaysU ex fn K
  of := fun _ _ e => ⟨_, frG_in, e⟩
  keeps := fun _ _ _ ⟨K, hK, c⟩ k => ⟨K, PySem.W.Frag.In.keeps hK k, c⟩
theorem obsUG_eq {n : Nat} {ex : List (PySem.W.Frag → Bool)} {fn : List DefU} {g : Addr → Option Obj} {s : Shared} (h : ∀ a, g a = s.heap.get? a) : obsUG n ex fn g = (hookU n ex fn).obs s := by
  have e : g = s.heap.get? := funext h
  rw [e] <;> rfl
section
variable {ex : List (PySem.W.Frag → Bool)} {fn : List DefU} {K : PySem.W.Frag}
theorem SaysU.fact (c : SaysU ex fn K) (i : Nat) {f : PySem.W.Frag → Bool} (h : ex[i]? = some f := by rfl) : f K = true := by
  have c1 := (ba (show ((ex.all fun f => f K) && fn.all fun d => d.ok K) = true from congrArg (fun z : AlU => z.1) c)).1
  exact List.all_eq_true.mp c1 f (List.mem_of_getElem? h)
theorem SaysU.def_ (c : SaysU ex fn K) (i : Nat) {d : DefU} (h : fn[i]? = some d := by rfl) : ∃ fd, FunD K d.name d.qual (defArgs d.st) (defBody d.st) (defScope d.st) (d.dvs K) (d.kws K) (d.at_.a K) fd := by
  have c2 := (ba (show ((ex.all fun f => f K) && fn.all fun d => d.ok K) = true from congrArg (fun z : AlU => z.1) c)).2
  have e : fn.map (fun d => fnU K (d.at_.a K)) = fn.map DefU.val := congrArg (fun z : AlU => z.2) c
  have e2 : (fn.map fun d => fnU K (d.at_.a K))[i]? = (fn.map DefU.val)[i]? := by rw [e]
  rw [List.getElem?_map, List.getElem?_map, h] at e2
  exact DefU.funD (Option.some.inj e2) (List.all_eq_true.mp c2 d (List.mem_of_getElem? h))
end
/-! ### facts that can be decided -/
def bGlo (x : Str) : PySem.W.Frag → Bool := fun K => (He.Fa.glo x).ok K
def bFree (x : Str) : PySem.W.Frag → Bool := fun K => (He.Fa.free x).ok K
def bInt (x : Str) (i : Int) : PySem.W.Frag → Bool := fun K => (He.Fa.int x i).ok K
def bStr (x z : Str) : PySem.W.Frag → Bool := fun K => (He.Fa.str x z).ok K
def bCls (x : Str) : PySem.W.Frag → Bool := fun K => (He.Fa.cls x).ok K
def bNoat (x f : Str) : PySem.W.Frag → Bool := fun K => (He.Fa.noat x f).ok K
def bMeth (x m : Str) : PySem.W.Frag → Bool := fun K => (He.Fa.meth x m).ok K && PySem.W.fnIn K (ma K (ga K x) m)
def bMk (x : Str) : PySem.W.Frag → Bool := fun K => (He.Fa.mkr x).ok K
def bExm (x y : Str) (b : Bool) : PySem.W.Frag → Bool := fun K => (He.Fa.exm x y b).ok K
/-- a class's own place among the others, what isinstance asks of its instances -/
structure ClsI (K : PySem.W.Frag) (C : Addr) : Prop where
  cl : Cls K C
  sf : PySem.W.selfFirst K C = true
  nq : PySem.W.noSeq K C = true
  ha : PySem.W.findIn K (.ref C) "__class__" = some (some (.builtin "object.__class__"))
  hn : PySem.W.specialIn K (.builtin "object.__class__") "__get__" = some (some (.builtin "getset_descriptor.__get__"))
  htk : PySem.W.takesIn K (.builtin "object.__class__") = some true
  hm : PySem.W.mroIn K C (.type "object") = some true
  self : PySem.W.kitOne K (.ref C) (.ref C) = some true
  nf : PySem.W.notFirst K C (.ref C) = true
def bClsI (x : Str) : PySem.W.Frag → Bool := fun K => (He.Fa.cls x).ok K && (PySem.W.selfFirst K (ga K x) && (PySem.W.noSeq K (ga K x) && (decide (PySem.W.findIn K (.ref (ga K x)) "__class__" = some (some (.builtin "object.__class__"))) &&
  (decide (PySem.W.specialIn K (.builtin "object.__class__") "__get__" = some (some (.builtin "getset_descriptor.__get__"))) && (decide (PySem.W.takesIn K (.builtin "object.__class__") = some true) && (decide (PySem.W.mroIn K (ga K x) (.type "object") = some true) &&
  (decide (PySem.W.kitOne K (.ref (ga K x)) (.ref (ga K x)) = some true) && PySem.W.notFirst K (ga K x) (.ref (ga K x)))))))))
theorem clsI_ok {K : PySem.W.Frag} {x : Str} (c : bClsI x K = true) : ClsI K (ga K x) := by
  obtain ⟨c1, c⟩ := ba c
  obtain ⟨c2, c⟩ := ba c
  obtain ⟨c3, c⟩ := ba c
  obtain ⟨c4, c⟩ := ba c
  obtain ⟨c5, c⟩ := ba c
  obtain ⟨c6, c⟩ := ba c
  obtain ⟨c7, c⟩ := ba c
  obtain ⟨c8, c9⟩ := ba c
  exact ⟨He.cls_ok c1, c2, c3, of_decide_eq_true c4, of_decide_eq_true c5, of_decide_eq_true c6, of_decide_eq_true c7, of_decide_eq_true c8, c9⟩
theorem ClsI.ty {K : PySem.W.Frag} {C a dx : Addr} {fs : List (Str × V)} {H : Hp} (c : ClsI K C) (e : H a = some (.ins C dx fs)) : TyX K H (.ref a) (.ref C) := .base (.ins e c.cl c.ha c.hn c.htk c.hm)
/-- isinstance of what is not an instance of the class: a built-in type's own -/
def bKit (T x : Str) (b : Bool) : PySem.W.Frag → Bool := fun K => decide (PySem.W.kitOne K (.type T.toString) (.ref (ga K x)) = some b)
def bProp (C f : Str) : PySem.W.Frag → Bool := fun K => eqO (PySem.W.findIn K (.ref (ga K C)) f) (some (some (.ref (ma K (ga K C) f)))) && (eqO (PySem.W.specialIn K (.ref (ma K (ga K C) f)) "__get__") (some (some (.builtin "property.__get__"))) &&
  (decide (PySem.W.takesIn K (.ref (ma K (ga K C) f)) = some true) && (match PySem.W.recIn K (ma K (ga K C) f) "property" with
    | some (.ref g :: _) => true
    | _ => false)))
theorem prop_ok {K : PySem.W.Frag} {C f : Str} (c : bProp C f K = true) : PropOf K (ga K C) f (ma K (ga K C) f) (pAd K C f) := by
  obtain ⟨c1, c⟩ := ba c
  obtain ⟨c2, c⟩ := ba c
  obtain ⟨c3, c4⟩ := ba c
  refine ⟨eqO_ok c1, eqO_ok c2, of_decide_eq_true c3, ?_⟩
  unfold pAd
  split at c4
  · rename_i g r e
    rw [e]
    exact ⟨r, rfl⟩
  · cases c4
def bX (x : Str) : PySem.W.Frag → Bool := fun K => oexB K (ga K x) && (decide (PySem.W.findIn K (.ref (ga K x)) "__init__" = some (some (.ref (ma K (ga K x) "__init__")))) && (decide (PySem.W.typeIn K (.ref (ma K (ga K x) "__init__")) = some (.type "function")) && xfB K (ga K x)))
structure XC (K : PySem.W.Frag) (C fI : Addr) : Prop where
  x : XCls K C fI
  f : XfC K C
theorem x_ok {K : PySem.W.Frag} {x : Str} (c : bX x K = true) : XC K (ga K x) (ma K (ga K x) "__init__") := by
  obtain ⟨c1, c⟩ := ba c
  obtain ⟨c2, c⟩ := ba c
  obtain ⟨c3, c4⟩ := ba c
  exact ⟨⟨oexB_ok c1, of_decide_eq_true c2, of_decide_eq_true c3⟩, xfB_ok c4⟩
theorem meth_ok {K : PySem.W.Frag} {x m : Str} (c : bMeth x m K = true) : Meth K (ga K x) m (ma K (ga K x) m) ∧ PySem.W.fnIn K (ma K (ga K x) m) = true := ⟨He.meth_ok (ba c).1, (ba c).2⟩

/-! ### a def and its promise by its reading -/
section
variable {P : Program} {w : World} {K : PySem.W.Frag} {mg : Str → Option Value} {base : Heap}
theorem df_of {x qual : Str} {params : Arguments} {body : List Stmt} {scope : Scope} {N ps : List Str} {k : Nat} {sp : Sp} {f : Addr} {fd : FuncData} {t : XK → TS} (F : FunD K x qual params body scope [] [] f fd) (S : FnScope N ps scope)
    (len : ∀ vs H Q E, sp vs H Q E → vs.length = ps.length)
    (hb : ∀ (kV doc pm : Value) (an : Option Addr) (cdv ct : Value) (us : List Value), us.length = ps.length → bindArgs (PySem.W.fnOf x qual params body scope .none kV doc pm an cdv ct) ⟨us, []⟩ = pure (ps.zip us))
    (der : ∀ (cdv : Value) (A : Around) (outer : List Env) (s : Shared) (H : Hp) (E : XK), Room k (A.deeper (envOfC qual scope s.heap.objs.size f cdv)) → PSs (cxOf (L2.CX P w) P w K mg base N qual scope f cdv A outer s H E) body (t E))
    (pu : ∀ vs H Q E, sp vs H Q E → t E { nx := fun _ H' => Q .non H', rt := Q } (start N vs) H) : Df P w K mg base (k + 1) f ps sp [] := by
  refine ⟨⟨fd, [], F.ok S len (fun cdv A outer s H vs Q E hr hsp => ⟨t E, der cdv A outer s H E hr, pu vs H Q E hsp⟩), F.bindsN hb, .nil⟩, F.kp⟩
theorem fn_of {x qual : Str} {params : Arguments} {body : List Stmt} {scope : Scope} {N ps : List Str} {k : Nat} {sp : Sp} {f : Addr} {fd : FuncData} {t : XK → TS} (F : FunD K x qual params body scope [] [] f fd) (S : FnScope N ps scope)
    (len : ∀ vs H Q E, sp vs H Q E → vs.length = ps.length)
    (hb : ∀ (kV doc pm : Value) (an : Option Addr) (cdv ct : Value) (us : List Value), us.length = ps.length → bindArgs (PySem.W.fnOf x qual params body scope .none kV doc pm an cdv ct) ⟨us, []⟩ = pure (ps.zip us))
    (der : ∀ (cdv : Value) (A : Around) (outer : List Env) (s : Shared) (H : Hp) (E : XK), Room k (A.deeper (envOfC qual scope s.heap.objs.size f cdv)) → PSs (cxOf (L2.CX P w) P w K mg base N qual scope f cdv A outer s H E) body (t E))
    (pu : ∀ vs H Q E, sp vs H Q E → t E { nx := fun _ H' => Q .non H', rt := Q } (start N vs) H) : FnOk P w K mg base (L2.CX P w) (k + 1) f fd ps sp := by
  exact F.ok S len (fun cdv A outer s H vs Q E hr hsp => ⟨t E, der cdv A outer s H E hr, pu vs H Q E hsp⟩)
end
end
/-! ## U5 -/
section

/-! ### named readings of built-in calls -/
def rInt1 : List V → Hp → VK → Prop := fun xs H Q => (∃ i, xs = [.int i] ∧ Q (.int i) H) ∨ ∃ k, xs = [.bl k] ∧ Q (.int (if k then 1 else 0)) H
def rAbs : List V → Hp → VK → Prop := fun xs H Q => ∃ i, xs = [.int i] ∧ Q (.int (if i < 0 then -i else i)) H
def rTupOf (K : PySem.W.Frag) : List V → Hp → VK → Prop := fun xs H Q => ∃ p ys, xs = [.ref p] ∧ ((SqL K H p ys ∧ newT H ys Q) ∨ (SqT K H p ys ∧ Q (.ref p) H))
def rListOf (K : PySem.W.Frag) : List V → Hp → VK → Prop := fun xs H Q => ∃ p ys, xs = [.ref p] ∧ (SqL K H p ys ∨ SqT K H p ys) ∧ ∀ l, H l = none → Q (.ref l) (upd H l (.lst ys))
def rStrOf : List V → Hp → VK → Prop := fun xs H Q => (∃ i, xs = [.int i] ∧ i.natAbs.log2 < 1920 ∧ Q (.str (toString i)) H) ∨ ∃ a, xs = [.str a] ∧ Q (.str a) H
def rMax2 : List V → Hp → VK → Prop := fun xs H Q => ∃ i j, xs = [.int i, .int j] ∧ Q (.int (if j > i then j else i)) H
def rMin2 : List V → Hp → VK → Prop := fun xs H Q => ∃ i j, xs = [.int i, .int j] ∧ Q (.int (if j < i then j else i)) H
section
variable {X : Cx}
theorem c_int : CallR X (.type "int") rInt1 := call_int1
theorem c_abs : CallR X (.builtin "abs") rAbs := call_abs
theorem c_tuple : CallR X (.type "tuple") (rTupOf X.K) := by
  intro pins s σ H xs us Q I r h
  obtain ⟨p, ys, rfl, h⟩ := h
  obtain ⟨u, rfl, rx⟩ := vals1 r
  cases rx
  rcases h with ⟨hq, q⟩ | ⟨hq, q⟩
  · obtain ⟨its, r', pl, hz⟩ := I.list hq
    have hlen := r'.length
    exact call_tuple_list pl.isList (fun h' kp => newT_laid (t' := s.toks) (I.kept (h' := h') (t' := s.toks) kp) hz r' q) (by simp only [List.size_toArray] <;> omega)
  · obtain ⟨its, r', pl, hz⟩ := I.tuple hq
    exact call_tuple_same pl ⟨.ref p, H, I, rfl, q⟩
theorem c_list : CallR X (.type "list") (rListOf X.K) := call_list_of
theorem c_str : CallR X (.type "str") rStrOf := CallR.or call_str_int SkE.call_str_str
theorem c_max2 (hc : X.calm = true) : CallR X (.builtin "max") rMax2 := call_max2 hc
theorem c_min2 (hc : X.calm = true) : CallR X (.builtin "min") rMin2 := call_min2 hc
end

/-- a module's constant -/
theorem pe_gcU {X : Cx} {x : Str} {v : V} {pos : Pos} (hg : Gl X x) (h : ∃ u, X.mg x = some u ∧ RelV v u) (hd : (x == ("__debug__" : Str)) = false := by decide) : PE X (.Name x pos) (tC v) := by
  obtain ⟨u, hm, r⟩ := h
  exact pe_glob hg hm r hd
/-! ### a list or a tuple that is walked -/
def iSeq (K : PySem.W.Frag) (tl : TE) : TI := fun σ H R => tl σ H fun x H1 => (∃ a, x = .ref a ∧ (∃ xs, SqL K H1 a xs) ∧ R (Itl K a) H1) ∨ ∃ a, x = .ref a ∧ (∃ xs, SqT K H1 a xs) ∧ R (Itt K a) H1
theorem pi_seq {X : Cx} {tg l : Expr} {tl : TE} (hl : PE X l tl) : PI X tg l (iSeq X.K tl) := by
  refine ⟨fun pins s σ H R I h => ?_⟩
  refine thn (hl.run pins s σ H _ I h) fun v s1 ⟨x, H1, I1, r1, q1⟩ => ?_
  have fp : ∀ {H2 : Hp} {s2 : Shared}, Inv X pins σ H2 s2 → ∀ b ∈ [s2.heap.objs.size], FpOk X pins H2 b := fun J b hb => by
    have e := List.mem_singleton.mp hb
    subst e
    exact J.fpOk (Nat.le_refl _) (J.hok.fresh (Nat.le_refl _))
  rcases q1 with ⟨a, e, ⟨xs, hq⟩, q⟩ | ⟨a, e, ⟨xs, hq⟩, q⟩
  · subst e
    cases r1
    obtain ⟨its, rv, p, hz⟩ := I1.list hq
    exact wpAny_pyIter_list p.isList ⟨s1.heap.objs.size, [s1.heap.objs.size], _, _, H1, rfl, I1.kept (t' := s1.toks) fun b o e => Heap.get?_push_of_some _ e, turn_list a _, ⟨_, Heap.get?_push_size _ rfl, rfl, rfl⟩, fp I1, q⟩
  · subst e
    cases r1
    obtain ⟨its, rv, p, hz⟩ := I1.tuple hq
    exact wpAny_pyIter_tuple (show s1.heap.IsTuple a its.toArray from p) ⟨s1.heap.objs.size, [s1.heap.objs.size], _, _, H1, rfl, I1.kept (t' := s1.toks) fun b o e => Heap.get?_push_of_some _ e, turn_tuple a _, ⟨_, Heap.get?_push_size _ rfl, rfl, rfl⟩, fp I1, q⟩
end
/-! ## U6 -/
section

/-! ### t.index(x), t a tuple of texts whose object is told -/
def tTix (K : PySem.W.Frag) (to te : TE) : TE := fun σ H Q => to σ H fun x H1 => ∃ p ob, x = .ref p ∧ (∃ ws, H1 p = some (.frz ob (.tup ws))) ∧ ob.dict = none ∧ te σ H1 fun y H2 => ∃ (ys : List Str) (z : Str) (j : Nat), y = .str z ∧ SqT K H2 p (ys.map V.str) ∧ ys[j]? = some z ∧ (∀ m, m < j → ys[m]? ≠ some z) ∧ Q (.int (j : Nat)) H2
theorem pe_tix {X : Cx} {o e : Expr} {to te : TE} {apos cpos : Pos} (ho : PE X o to) (he : PE X e te)
    (hbase : attributeBase o "index" X.env (eval o X.env) = eval o X.env := by rfl)
    (hfew : ((backTo cpos (starEach [e] X.env)).all (fun x => !x.1) && (backToKw cpos (keywordEach [] X.env)).all (fun x => x.1.isSome) && decide ([e].length + ([] : List Keyword).length + (if ([] : List Keyword).isEmpty then 0 else 1) < 30)) = true := by rfl)
    (hline : (apos.endLine == cpos.line) = true := by rfl) (hs : starEach [e] X.env = (false, eval e X.env) :: starEach [] X.env := by rfl) (hplain : (backTo cpos (starEach [] X.env)).any (·.1) = false := by rfl) :
    PE X (.Call (.Attribute o "index" apos) [e] [] cpos) (tTix X.K to te) := by
  refine ⟨fun pins s σ H Q I h => ?_⟩
  refine wpAny_Call_method_late hbase hfew hline rfl (thn (ho.run pins s σ H _ I h) fun v s1 ⟨x, H1, I1, r1, p, ob, ex, ⟨ws, hp⟩, hd, q1⟩ => ?_)
  subst ex
  cases r1
  have hk : ObjOk X.prog X.w H1 s1.heap p (.frz ob (.tup ws)) := I1.hok p _ hp
  obtain ⟨g1, _, its, r, o', g2, hc, _⟩ := hk
  rw [g1] at g2
  cases g2
  refine ⟨"tuple", "tuple.index", PySem.F.plainAttrs_tuple, PySem.F.slot_tuple_index, PySem.F.type_tuple_index, ⟨ob, g1, hc⟩, fun a e => by cases e; exact ⟨ob, g1, hd⟩, ?_⟩
  have hA := (pa_cons (pe_me he) pa_nil hs).run cpos pins s1 σ H1 (fun vs H2 => ∃ (ys : List Str) (z : Str) (j : Nat), vs = [.str z] ∧ SqT X.K H2 p (ys.map V.str) ∧ ys[j]? = some z ∧ (∀ m, m < j → ys[m]? ≠ some z) ∧ Q (.int (j : Nat)) H2) I1
    ⟨_, q1, fun y H2 ⟨ys, z, j, ey, q2⟩ => ⟨ys, z, j, by rw [ey], q2⟩⟩
  rw [hs] at hA ⊢
  refine Calls.callWith_builtin (by show (false || (backTo cpos (starEach [] X.env)).any (·.1)) = false; rw [hplain] <;> rfl) (Calls.evalArgs_plain ?_)
  exact thn hA fun us s2 ⟨vs, H2, I2, r2, ys, z, j, ev, hq, hy, hno, q2⟩ => mt_tup_index pins s2 σ H2 (.ref p) vs (.ref p) us Q I2 rfl r2 ⟨p, ys, z, j, rfl, ev, hq, hy, hno, q2⟩

/-! ### tuple * int -/
theorem tuple_mul_same (l : Addr) (items : Array Value) (n : Nat) (dd : Option Addr) (sl : Array (Option Value)) (x : Int) (u : Tok) (c0 : (decide (x < -(2 ^ 63)) || decide (x ≥ 2 ^ 63)) = false) (c1 : (items.isEmpty || x == 1) = true) :
    Meets (Builtin.«tuple.__mul__» ⟨[.ref l, .int x u], []⟩) (fun _ R s => s.heap.get? l = some { cls := .type "tuple", dict := dd, data := .seq items n, slots := sl } ∧ R (.ok (.ret (Value.ref l))) s) :=
  .of_wp fun prog w A R s h => by
    obtain ⟨hp, g, d, tk, os⟩ := s
    obtain ⟨hl, h⟩ := h
    have f1 := AutoSeq1.idx_int
    wp_walk using wpAny_loadPart' hl
    repeat (first
      | (refine wpAny_ite_false (decide_eq_false (by rw [c0]; exact Bool.false_ne_true)) ?_; wp_walk using wpAny_loadPart' hl)
      | (refine wpAny_ite_true (decide_eq_true c1) ?_; wp_walk using wpAny_loadPart' hl))
    exact ⟨_, rfl, h⟩
theorem tuple_mul_none (l : Addr) (items : Array Value) (n : Nat) (dd : Option Addr) (sl : Array (Option Value)) (x : Int) (u : Tok) (c0 : (decide (x < -(2 ^ 63)) || decide (x ≥ 2 ^ 63)) = false) (c1 : (items.isEmpty || x == 1) = false) (c2 : (decide (x ≤ 0) || items.isEmpty) = true) :
    Meets (Builtin.«tuple.__mul__» ⟨[.ref l, .int x u], []⟩) (fun _ R s => s.heap.get? l = some { cls := .type "tuple", dict := dd, data := .seq items n, slots := sl } ∧
      R (.ok (.ret (Value.ref s.heap.objs.size))) { s with heap := s.heap.push { cls := Value.type "tuple", data := Data.seq #[] }, toks := s.toks }) :=
  .of_wp fun prog w A R s h => by
    obtain ⟨hp, g, d, tk, os⟩ := s
    obtain ⟨hl, h⟩ := h
    have f1 := AutoSeq1.idx_int
    wp_walk using wpAny_loadPart' hl
    repeat (first
      | (refine wpAny_ite_false (decide_eq_false (by rw [c0]; exact Bool.false_ne_true)) ?_; wp_walk using wpAny_loadPart' hl)
      | (refine wpAny_ite_false (decide_eq_false (by rw [c1]; exact Bool.false_ne_true)) ?_; wp_walk using wpAny_loadPart' hl)
      | (refine wpAny_ite_true (decide_eq_true c2) ?_; wp_walk using wpAny_loadPart' hl))
    exact ⟨_, rfl, h⟩
def rMulT (K : PySem.W.Frag) : R2 := fun x y H Q => ∃ l k xs, x = .ref l ∧ y = .int k ∧ SqT K H l xs ∧ xs.length ≤ 1000 ∧ -1000 ≤ k ∧ k ≤ 1000 ∧ ((xs = [] ∨ k = 1) → Q (.ref l) H) ∧ (xs ≠ [] → k ≠ 1 → newT H (List.replicate k.toNat xs).flatten Q)
theorem op_mulT {X : Cx} : OpR X (binaryOp .Mult) (rMulT X.K) := by
  intro pins s σ H x y v u Q I rx ry h
  obtain ⟨l, k, xs, rfl, rfl, hT, hz, h1, h2, q1, q2⟩ := h
  cases rx
  obtain ⟨t, rfl⟩ := ry
  obtain ⟨its, r, ⟨⟨cls, dd, data, sl⟩, ho, hc, n, hd⟩, hs⟩ := I.tuple hT
  simp only at hc hd
  subst hc hd
  have hle : its.length = xs.length := r.length.symm
  have hie : its.toArray.isEmpty = decide (xs = []) := by
    cases r with
    | nil => rfl
    | cons _ _ => rfl
  have c0 : (decide (k < -(2 ^ 63)) || decide (k ≥ 2 ^ 63)) = false := by
    rw [decide_eq_false (by omega), decide_eq_false (by omega)] <;> rfl
  by_cases hsame : xs = [] ∨ k = 1
  · have c1 : (its.toArray.isEmpty || k == 1) = true := by
      rw [hie]
      rcases hsame with e | e
      · rw [decide_eq_true e]; rfl
      · rw [e]; simp
    refine wpAny_binaryOp_repeat_ref (T := "tuple") (U := "int") (by decide) ⟨_, ho, rfl⟩ (fun s' => typeIs_int s' k t) noFill_tuple_mul F.fills_int_mul F.slot_int_rmul repeat_tuple F.slot_int_index.lookup
      (call_meets F.slot_int_rmul (typeIs_int s k t) F.entry_int_rmul (F.args_int_rmul_2 _ _) (int_rmul_tuple k t l its.toArray n dd sl)
        ⟨ho, rfl, ⟨_, ho, rfl⟩, call_meets F.slot_tuple_mul ⟨_, ho, rfl⟩ F.entry_tuple_mul (F.args_tuple_mul_2 _ _) (tuple_mul_same l its.toArray n dd sl k t c0 c1) ⟨ho, ?_⟩⟩)
    exact ⟨.ref l, H, I, rfl, q1 hsame⟩
  · have hx : xs ≠ [] := fun e => hsame (.inl e)
    have hk : k ≠ 1 := fun e => hsame (.inr e)
    have c1 : (its.toArray.isEmpty || k == 1) = false := by
      rw [hie, decide_eq_false hx, Bool.false_or]
      exact beq_eq_false_iff_ne.mpr hk
    by_cases hneg : k ≤ 0
    · have c2 : (decide (k ≤ 0) || its.toArray.isEmpty) = true := by rw [decide_eq_true hneg]; rfl
      refine wpAny_binaryOp_repeat_ref (T := "tuple") (U := "int") (by decide) ⟨_, ho, rfl⟩ (fun s' => typeIs_int s' k t) noFill_tuple_mul F.fills_int_mul F.slot_int_rmul repeat_tuple F.slot_int_index.lookup
        (call_meets F.slot_int_rmul (typeIs_int s k t) F.entry_int_rmul (F.args_int_rmul_2 _ _) (int_rmul_tuple k t l its.toArray n dd sl)
          ⟨ho, rfl, ⟨_, ho, rfl⟩, call_meets F.slot_tuple_mul ⟨_, ho, rfl⟩ F.entry_tuple_mul (F.args_tuple_mul_2 _ _) (tuple_mul_none l its.toArray n dd sl k t c0 c1 c2) ⟨ho, ?_⟩⟩)
      have e0 : (List.replicate k.toNat xs).flatten = [] := by
        have : k.toNat = 0 := by omega
        rw [this]; rfl
      exact newT_laid (t' := s.toks) (its := []) I (Nat.zero_le _) .nil (by rw [← e0]; exact q2 hx hk)
    · have hlen : (List.replicate k.toNat its).flatten.length ≤ 1000000 := by
        rw [PyProof.Rows.lm_len_rep_flat, hle]
        have a1 : k.toNat * xs.length ≤ 1000 * 1000 := Nat.mul_le_mul (by omega) hz
        omega
      have hm : ((its.toArray.size : Nat) : Int) * k ≤ 1000000 := by
        rw [List.size_toArray, hle]
        have a1 : ((xs.length : Nat) : Int) * k ≤ 1000 * k := Int.mul_le_mul_of_nonneg_right (by omega) (by omega)
        omega
      have c2 : (decide (k ≤ 0) || its.toArray.isEmpty) = false := by
        rw [hie, decide_eq_false hx, Bool.or_false]
        exact decide_eq_false (by omega)
      have c4 : Builtin.Tuple.tupleTooMany (((its.toArray.size : Nat) : Int) * k) = false := by
        unfold Builtin.Tuple.tupleTooMany
        rw [sizeLine_eq]
        exact decide_eq_false (by omega)
      have c5 : (List.foldl (fun x1 x2 => x1 ++ x2) #[] (List.replicate k.toNat its.toArray)).size ≤ sizeLine := by
        rw [size_rep, List.size_toArray, sizeLine_eq]
        omega
      refine wpAny_binaryOp_repeat_ref (T := "tuple") (U := "int") (by decide) ⟨_, ho, rfl⟩ (fun s' => typeIs_int s' k t) noFill_tuple_mul F.fills_int_mul F.slot_int_rmul repeat_tuple F.slot_int_index.lookup
        (call_meets F.slot_int_rmul (typeIs_int s k t) F.entry_int_rmul (F.args_int_rmul_2 _ _) (int_rmul_tuple k t l its.toArray n dd sl)
          ⟨ho, rfl, ⟨_, ho, rfl⟩, call_meets F.slot_tuple_mul ⟨_, ho, rfl⟩ F.entry_tuple_mul (F.args_tuple_mul_2 _ _) (tuple_mulW l its.toArray n dd sl k t c0 c1 c2 (by omega) c4 c5) ⟨ho, ?_⟩⟩)
      rw [size_rep]
      have hz2 : (List.replicate k.toNat xs).flatten.length ≤ sizeLine := by
        rw [PyProof.Rows.lm_len_rep_flat, sizeLine_eq]
        have a1 : k.toNat * xs.length ≤ 1000 * 1000 := Nat.mul_le_mul (by omega) hz
        omega
      exact newT_laid (t' := s.toks) I hz2 (r.rep k.toNat) (q2 hx hk)

/-! ### an own instance and something of a built-in type -/
structure BinT (K : PySem.W.Frag) (C : Addr) (nm T : String) : Prop where
  fo : ∃ fo, PySem.W.findIn K (.type T) (PySem.dunder nm) = some fo
  ro : ∃ ro, PySem.W.findIn K (.type T) (dunderR nm) = some ro
  s1 : PySem.W.subIn K (.type T) (.ref C) = some false
  s2 : PySem.W.subIn K (.ref C) (.type T) = some false
def bBinT (x : Str) (nm T : String) : PySem.W.Frag → Bool := fun K => (PySem.W.findIn K (.type T) (PySem.dunder nm)).isSome && ((PySem.W.findIn K (.type T) (dunderR nm)).isSome && (decide (PySem.W.subIn K (.type T) (.ref (He.ga K x)) = some false) && decide (PySem.W.subIn K (.ref (He.ga K x)) (.type T) = some false)))
theorem binT_ok {K : PySem.W.Frag} {x : Str} {nm T : String} (c : bBinT x nm T K = true) : BinT K (He.ga K x) nm T := by
  obtain ⟨c1, c⟩ := He.ba c
  obtain ⟨c2, c⟩ := He.ba c
  obtain ⟨c3, c4⟩ := He.ba c
  exact ⟨Option.isSome_iff_exists.mp c1, Option.isSome_iff_exists.mp c2, of_decide_eq_true c3, of_decide_eq_true c4⟩
section
variable {prog : Program} {w : World} {A : Around} {E : Value → Shared → Prop} {s : Shared} {K : PySem.W.Frag} {x C f g : Addr} {ox : Obj} {od : Option Obj} {T : String} {b : Value}
open PySem.W in
theorem binop_left {op : Operator} {Q : Value → Shared → Prop} (X : K.In s.heap) (I : InstAt s.heap x ox C od) (hb : Looks (model prog w) s.heap (typeOf b) (.type T)) (hc : selfFirst K C = true)
    (hs : findIn K (.ref C) (PySem.dunder op.info.2) = some (some (.ref f))) (hf : isFn K (.ref f) = true) (hr : findIn K (.ref C) (dunderR op.info.2) = some (some (.ref g))) (B : BinT K C op.info.2 T)
    (h : wpAny (model prog w) A (call (.ref f) [.ref x, b]) (PySem.W.CmpBack Q) E s) : wpAny (model prog w) A (binaryOp op (.ref x) b) Q E s := by
  obtain ⟨cd, rest, hcd, hm⟩ := ksp_first hc
  obtain ⟨fo, h1⟩ := B.fo
  obtain ⟨ro, h2⟩ := B.ro
  have hsub := B.s1
  rcases hi : op.info with ⟨sym, nm'⟩
  rw [hi] at hs hr h1 h2
  dsimp only at hs hr h1 h2
  have one := ksp_try X I hs hf h
  obtain ⟨hh, g', d, tt, os⟩ := s
  have L1 : Looks (model prog w) hh (typeOf (.ref x)) (.ref C) := I.type
  have L2' : Looks (model prog w) hh (typeOf b) (.type T) := hb
  have L3 : Looks (model prog w) hh (fillsNumberSlot (.ref C) nm') true := fills_K X hcd hm hs
  have L4 : Looks (model prog w) hh (fillsNumberSlot (.type T) nm') ((fo.isSome && !isSeqSlot fo) || (ro.isSome && !isSeqSlot ro)) := ksp_fillsT X h1 h2
  have L5 : Looks (model prog w) hh (isSubtype (.type T) (.ref C)) false := looks_subIn X hsub
  have L6 : Looks (model prog w) hh (numberSlotInPython (.ref C) nm') true := ksp_inPy X hs hr (.inr ⟨g, rfl⟩)
  have L7 : Looks (model prog w) hh (numberSlotInPython (.type T) nm') false := Looks.of_pure rfl
  have L8 : Looks (model prog w) hh (typeLookup (.type T) (dunderR nm')) ro := looks_findIn X h2
  generalize ((fo.isSome && !isSeqSlot fo) || (ro.isSome && !isSeqSlot ro)) = right at L4
  have hne : (Value.ref C == Value.type T) = false := Bool.eq_false_iff.mpr fun q => by cases beq_iff_eq.mp q
  simp only [binaryOp, hi]
  refine wpAny_holding (wpAny_bind ?_)
  unfold binaryOp1
  refine wpAny_bind (L1.at (wpAny_bind (L2'.at (wpAny_bind (L3.at ?_)))))
  simp only [hne, Bool.false_eq_true, if_false]
  cases right with
  | false =>
    ksp_lk
    refine wpAny_mono one (fun r s' hr' => ?_) fun _ _ e => e
    obtain ⟨v, rfl, hq⟩ := hr'
    ksp_lk
    exact hq
  | true =>
    ksp_lk
    refine wpAny_mono one (fun r s' hr' => ?_) fun _ _ e => e
    obtain ⟨v, rfl, hq⟩ := hr'
    ksp_lk
    exact hq
theorem int_mul_inst (a : Int) (t : Tok) (dx : Addr) :
    Meets (Builtin.«int.__mul__» ⟨[.int a t, .ref x], []⟩) (fun _ R s => s.heap.get? x = some (PySem.W.instObj C dx) ∧ R (.ok (.ret Value.notImplemented)) s) :=
  .of_wp fun prog w A R s h => by obtain ⟨hp, g, d, tk, os⟩ := s; obtain ⟨hl, h⟩ := h; wp_walk using wpAny_loadPart' hl; exact ⟨_, rfl, h⟩
theorem bool_mul_inst (a : Bool) (dx : Addr) :
    Meets (Builtin.«int.__mul__» ⟨[.bool a, .ref x], []⟩) (fun _ R s => s.heap.get? x = some (PySem.W.instObj C dx) ∧ R (.ok (.ret Value.notImplemented)) s) :=
  .of_wp fun prog w A R s h => by obtain ⟨hp, g, d, tk, os⟩ := s; obtain ⟨hl, h⟩ := h; wp_walk using wpAny_loadPart' hl; exact ⟨_, rfl, h⟩
open PySem.W in
/-- the left operand's type does not fill the slot, or its method declines: the right one's reflected method -/
theorem binop_right {op : Operator} {Q : Value → Shared → Prop} (X : K.In s.heap) (I : InstAt s.heap x ox C od) (hb : Looks (model prog w) s.heap (typeOf b) (.type T)) (hc : selfFirst K C = true)
    (hs : findIn K (.ref C) (PySem.dunder op.info.2) = some (some (.ref g))) (hr : findIn K (.ref C) (dunderR op.info.2) = some (some (.ref f))) (hf : isFn K (.ref f) = true) (B : BinT K C op.info.2 T)
    {bb : Bool} (hfl : fillsNumberSlot (.type T) op.info.2 = pure bb) (hd : bb = true → wpAny (model prog w) A (tryMethod b (PySem.dunder op.info.2) (.ref x)) (fun r s' => r = none ∧ s' = s) E s)
    (h : wpAny (model prog w) A (call (.ref f) [.ref x, b]) (PySem.W.CmpBack Q) E s) : wpAny (model prog w) A (binaryOp op b (.ref x)) Q E s := by
  obtain ⟨cd, rest, hcd, hm⟩ := ksp_first hc
  have hsub := B.s2
  rcases hi : op.info with ⟨sym, nm'⟩
  rw [hi] at hs hr hd hfl
  dsimp only at hs hr hd hfl
  have one := ksp_try X I hr hf h
  have hne : (Value.type T == Value.ref C) = false := Bool.eq_false_iff.mpr fun q => by cases beq_iff_eq.mp q
  have L3 : Looks (model prog w) s.heap (fillsNumberSlot (.ref C) nm') true := fills_K X hcd hm hs
  have L5 : Looks (model prog w) s.heap (isSubtype (.ref C) (.type T)) false := looks_subIn X hsub
  simp only [binaryOp, hi]
  refine wpAny_holding (wpAny_bind ?_)
  unfold binaryOp1
  refine wpAny_bind (hb.here (wpAny_bind (I.type.here ?_)))
  rw [hfl]
  simp only [hne, Bool.false_eq_true, if_false, pure_bind]
  refine wpAny_bind (L3.here ?_)
  cases bb with
  | false =>
    simp
    refine wpAny_bind (wpAny_mono one (fun r s' hr' => ?_) fun _ _ e => e)
    obtain ⟨v, rfl, hq⟩ := hr'
    simp only [map_eq_pure_bind]
    exact wpAny_bind (wpAny_rule (wpAny_pure (wpAny_pure hq)))
  | true =>
    simp
    refine wpAny_bind (L5.here ?_)
    simp
    have L7 : Looks (model prog w) s.heap (numberSlotInPython (.type T) nm') false := Looks.of_pure rfl
    refine wpAny_bind (L7.here ?_)
    simp
    refine wpAny_bind (wpAny_mono (hd rfl) (fun r s' hr' => ?_) fun _ _ e => e)
    obtain ⟨rfl, rfl⟩ := hr'
    simp
    refine wpAny_bind (wpAny_mono one (fun r s' hr' => ?_) fun _ _ e => e)
    obtain ⟨v, rfl, hq⟩ := hr'
    simp only [map_eq_pure_bind]
    exact wpAny_bind (wpAny_rule (wpAny_pure (wpAny_pure hq)))
end
theorem noFill_none_mul : fillsNumberSlot (.type "NoneType") "mul" = pure false := by
  have h1 : typeLookup (.type "NoneType") (PySem.dunder "mul") = pure none := by rw [typeLookup_type, builtinLookup_eq_fast]; kernel_rfl
  have h2 : typeLookup (.type "NoneType") (dunderR "mul") = pure none := by rw [typeLookup_type, builtinLookup_eq_fast]; kernel_rfl
  simp only [fillsNumberSlot, h1, h2, pure_bind]
  rfl
/-- what may stand left of an own instance in a product -/
def MulL (x : V) (T : String) : Prop := (∃ i, x = .int i ∧ T = "int") ∨ (∃ b, x = .bl b ∧ T = "bool") ∨ fillsNumberSlot (.type T) "mul" = pure false
def tBinL (K : PySem.W.Frag) (C : Addr) (nm : String) (sp : Sp) (W : WX) (ta tb : TE) : TE := fun σ H Q => ta σ H fun x H1 => tb σ H1 fun y H2 => ∃ a dx fs T, x = .ref a ∧ H2 a = some (.ins C dx fs) ∧ TyX K H2 y (.type T) ∧ BinT K C nm T ∧ sp [x, y] H2 Q (WE W σ)
def tMulR (K : PySem.W.Frag) (C : Addr) (sp : Sp) (W : WX) (ta tb : TE) : TE := fun σ H Q => ta σ H fun x H1 => tb σ H1 fun y H2 => ∃ a dx fs T, y = .ref a ∧ H2 a = some (.ins C dx fs) ∧ TyX K H2 x (.type T) ∧ BinT K C "mul" T ∧ MulL x T ∧ sp [y, x] H2 Q (WE W σ)
section
variable {X : Cx} {W : WX} {k j : Nat} {f g C : Addr} {ps : List Str} {sp : Sp} {pos : Pos} {a b : Expr} {ta tb : TE}
theorem pe_binL {op : Operator} {m r : Str} {nm : String} (en : op.info.2 = nm) (em : PySem.dunder nm = m) (er : dunderR nm = r) (hc : PySem.W.selfFirst X.K C = true) (hm : Meth X.K C m f) (hm2 : Meth X.K C r g) (D : DfX X k f ps sp []) (hr : Room j X.A) (tk : Takes X W) (ha : PE X a ta) (hb : PE X b tb) (hk : k ≤ j := by decide) :
    PE X (.BinOp a op b pos) (tBinL X.K C nm sp W ta tb) := by
  refine ⟨fun pins s σ H Q I h => ?_⟩
  refine wpAny_BinOp (binT ha hb I h fun v u s2 x y H2 I2 rx ry q => ?_)
  obtain ⟨a, dx, fs, T, ex, ea, ty, B, q⟩ := q
  subst ex
  subst en
  subst em
  subst er
  cases rx
  obtain ⟨od, J⟩ := inst_at I2 ea
  refine binop_left (op := op) I2.kIn J (ty_looks I2 ry ty) hc hm.at_ hm.fn hm2.at_ B ?_
  refine wpAny_mono (runW (us := [.ref a, u]) (vs := [.ref a, y]) D (hr.mono hk) tk I2 (.cons rfl (.cons ry .nil)) q) (fun w s' z => ?_) fun _ _ x => x
  obtain ⟨z', H', I', rz, qz⟩ := z
  exact SlX.cmpback rz ⟨z', H', I', rz, qz⟩
theorem pe_mulR (hc : PySem.W.selfFirst X.K C = true) (hm : Meth X.K C "__rmul__" f) (hm2 : Meth X.K C "__mul__" g) (D : DfX X k f ps sp []) (hr : Room j X.A) (tk : Takes X W) (ha : PE X a ta) (hb : PE X b tb) (hk : k ≤ j := by decide) :
    PE X (.BinOp a .Mult b pos) (tMulR X.K C sp W ta tb) := by
  refine ⟨fun pins s σ H Q I h => ?_⟩
  refine wpAny_BinOp (binT ha hb I h fun v u s2 x y H2 I2 rx ry q => ?_)
  obtain ⟨a, dx, fs, T, ey, ea, ty, B, ml, q⟩ := q
  subst ey
  cases ry
  obtain ⟨od, J⟩ := inst_at I2 ea
  have fin : wpAny (model X.prog X.w) X.A (call (.ref f) [.ref a, v]) (PySem.W.CmpBack (EP X pins σ Q)) X.xe s2 := by
    refine wpAny_mono (runW (us := [.ref a, v]) (vs := [.ref a, x]) D (hr.mono hk) tk I2 (.cons rfl (.cons rx .nil)) q) (fun w s' z => ?_) fun _ _ x => x
    obtain ⟨z', H', I', rz, qz⟩ := z
    exact SlX.cmpback rz ⟨z', H', I', rz, qz⟩
  have L := ty_looks I2 rx ty
  rcases ml with ⟨i, rfl, rfl⟩ | ⟨c, rfl, rfl⟩ | hno
  · obtain ⟨t, rfl⟩ := rx
    exact binop_right (op := .Mult) I2.kIn J L hc hm2.at_ hm.at_ hm.fn B F.fills_int_mul (fun _ =>
      wpAny_tryMethod_declines (typeIs_int _ _ _) F.slot_int_mul (call_meets F.slot_int_mul (typeIs_int _ i t) F.entry_int_mul (F.args_int_mul_2 _ _) (int_mul_inst i t dx) ⟨J.at_, rfl, rfl, rfl⟩)) fin
  · cases rx
    exact binop_right (op := .Mult) I2.kIn J L hc hm2.at_ hm.at_ hm.fn B F.fills_bool_mul (fun _ =>
      wpAny_tryMethod_declines (PySem.typeIs_bool _ _) F.slot_bool_mul (call_meets F.slot_bool_mul (PySem.typeIs_bool _ c) F.entry_int_mul (F.args_int_mul_2 _ _) (bool_mul_inst c dx) ⟨J.at_, rfl, rfl, rfl⟩)) fin
  · exact binop_right (op := .Mult) I2.kIn J L hc hm2.at_ hm.at_ hm.fn B hno (fun z => Bool.noConfusion z) fin
end
/-! ### a * b, tuples too -/
def oMulA (K : PySem.W.Frag) : R2 := fun x y H Q => rMulI x y H Q ∨ rRep x y H Q ∨ rMulT K x y H Q
theorem op_mulA {X : Cx} : OpR X (binaryOp .Mult) (oMulA X.K) := OpR.or op_mul (OpR.or op_rep op_mulT)
end
/-! ## U7 -/
section

/-! ### enumerate(v) -/
theorem meets_enum1 {v : Value} {o : Obj} {H : Heap → Prop} (B : Begins v o H) :
    Meets (Builtin.«enumerate.__new__» ⟨[.type "enumerate", v], []⟩) (fun _ R s => H s.heap ∧
      R (.ok (.ret (.ref (s.heap.push o).objs.size))) { s with heap := (s.heap.push o).push { cls := .type "enumerate", data := .fields #[.none, .bool false, .ref s.heap.objs.size, rawInt 0, .none, .none] } }) :=
  .of_wp fun prog w A R s h => by
    obtain ⟨hp, g, d, tk, os⟩ := s; obtain ⟨h1, h⟩ := h
    have hsub := sub_enumerate
    have q1 : ∀ {A' : Around} {E : Value → Shared → Prop} {Q : Value → Shared → Prop}, Q (.ref hp.objs.size) ⟨hp.push o, g, d, tk, os⟩ → wpAny (model prog w) A' (pyIter v) Q E ⟨hp, g, d, tk, os⟩ :=
      fun q => B.iter prog w _ _ ⟨hp, g, d, tk, os⟩ _ h1 q
    wp_walk using q1
    refine wpAny_stack_any fun st => wpAny_pure ?_
    split
    · rename_i c _ _ _ _ _
      cases (c == Value.type "enumerate")
      · wp_walk using q1
        exact ⟨_, rfl, h⟩
      · wp_walk using q1
        exact ⟨_, rfl, h⟩
    · wp_walk using q1
      exact ⟨_, rfl, h⟩
theorem enum_begins1 {prog : Program} {w : World} {A : Around} {E : Value → Shared → Prop} {s : Shared} {v : Value} {o : Obj} {H : Heap → Prop} {Q : Value → Shared → Prop} (B : Begins v o H) (h1 : H s.heap)
    (h : ∀ h', IsEnum h' (s.heap.objs.size + 1) s.heap.objs.size 0 .none → h'.get? s.heap.objs.size = some o → h'.objs.size = s.heap.objs.size + 2 →
      (∀ b o, s.heap.get? b = some o → h'.get? b = some o) → Q (.ref (s.heap.objs.size + 1)) { s with heap := h' }) :
    wpAny (model prog w) A (call (.type "enumerate") [v]) Q E s := by
  refine callType_new F.called_enumerate (by decide) (F.typeCall_enumerate_1 _) (F.newCall_enumerate_1 _) (fun obj => F.args_object_init_2 obj _) F.entry_enumerate_new (meets_enum1 B) ⟨h1, ?_⟩
  have hz : (s.heap.push o).objs.size = s.heap.objs.size + 1 := Heap.size_push ..
  show _ ∧ _
  rw [hz]
  have he : IsEnum ((s.heap.push o).push { cls := .type "enumerate", data := .fields #[.none, .bool false, .ref s.heap.objs.size, rawInt 0, .none, .none] }) (s.heap.objs.size + 1) s.heap.objs.size 0 .none := by
    have := Heap.get?_push_size (s.heap.push o) (o := { cls := .type "enumerate", data := .fields #[.none, .bool false, .ref s.heap.objs.size, rawInt 0, .none, .none] }) rfl
    rw [hz] at this; exact this
  refine ⟨⟨_, he, rfl⟩, h _ he (Heap.get?_push_of_some _ (Heap.get?_push_size _ B.free)) (by rw [Heap.size_push, hz]) fun b o x => Heap.get?_push_of_some _ (Heap.get?_push_of_some _ x)⟩
/-- the tuple at a, each item in a new pair -/
def IteT (K : PySem.W.Frag) (a : Addr) : It :=
  ⟨fun i H => ∃ (xs : List V) (x : V), SqT K H a xs ∧ xs[i]? = some x, fun i H v H' => ∃ T x, v = .ref T ∧ H T = none ∧ H' = upd H T (.tup [.int (i : Nat), x]) ∧ ∀ xs, SqT K H a xs → xs[i]? = some x, fun i H => ∃ xs : List V, SqT K H a xs ∧ xs.length ≤ i⟩
theorem turn_enumT {P : Program} {w : World} {K : PySem.W.Frag} {elts : List Expr} {kk : Nat} {tpos : Pos} (a e it : Addr) :
    Turn P w K (.Tuple elts kk tpos) (IteT K a) [e, it] e (fun i h => (∃ old, IsEnum h e it ((i : Nat) : Int) old) ∧ h.IsTupleIter it a i ∧ e ≠ it ∧ a ≠ it ∧ a ≠ e) where
  mem := by simp
  obj := fun i h st b hb => by
    obtain ⟨⟨old, he⟩, ⟨o, ho, hc, hd⟩, _⟩ := st
    have e' : b = e ∨ b = it := by simpa using hb
    rcases e' with z | z
    · rw [z]; exact ⟨_, he, fun v q => nomatch q⟩
    · rw [z]; exact ⟨o, ho, fun v q => by rw [hd] at q; cases q⟩
  keep := fun i h h' st k => let ⟨⟨old, he⟩, hi, hne⟩ := st; ⟨⟨old, k e (by simp) _ he⟩, hi.at fun o q => k it (by simp) o q, hne⟩
  item := by
    intro X hP hw hK hc i pins s σ H E I hf st hg
    subst hP hw hK
    obtain ⟨⟨old, he⟩, hit, hne, hai, hae⟩ := st
    obtain ⟨xs, x, hq, hx⟩ := hg
    obtain ⟨its, rv, p, hz⟩ := I.tuple hq
    obtain ⟨u, hu, ru⟩ := rv.get hx
    have hel : e < s.heap.objs.size := Heap.lt_size he
    have hil : it < s.heap.objs.size := by obtain ⟨_, q, _⟩ := hit; exact Heap.lt_size q
    have D := Draws.tuple (prog := X.prog) (w := X.w) (A := X.A.in1) (I.ok.hd hc) it a hai its.toArray
    have hlt : i < its.toArray.size := by rw [List.size_toArray]; exact (List.getElem?_eq_some_iff.mp hu).1
    refine wpAny_pyNext_enum_itemD D he ⟨hit, p⟩ hlt hne (by simp [hne, Ne.symm hae]) fun x' h' tk hx' ho hst hT hsz hk => ?_
    obtain rfl : x' = u := by
      have : its.toArray[i]? = some u := by simpa using hu
      rw [this] at hx'; cases hx'; rfl
    refine ⟨_, rfl, wpAny_letOwnedTupleGo_enum (s := { s with heap := h', toks := tk + 1 }) ho fun h'' he' sb => ?_⟩
    have hT2 : h''.get? s.heap.objs.size = some { cls := .type "tuple", data := .seq #[.int i tk, x'] } := (sb.2 _ (Nat.ne_of_gt hel)).trans hT
    have new : ObjOk X.prog X.w (upd H s.heap.objs.size (.tup [.int (i : Nat), x])) h'' s.heap.objs.size (.tup [.int (i : Nat), x]) :=
      ⟨by show 2 ≤ sizeLine; decide, [.int i tk, x'], .cons ⟨_, rfl⟩ (.cons ru .nil), ⟨_, hT2, rfl, _, rfl⟩⟩
    have I1 : Inv X pins σ (upd H s.heap.objs.size (.tup [.int (i : Nat), x])) { s with heap := h'', toks := tk + 1 } :=
      I.turnedNew (ch := [e, it]) (fun b ob hb q => (sb.2 b (fun z => hb (by simp [z]))).trans (hk b ob (fun z => hb (by simp [z])) (fun z => hb (by simp [z])) q)) hf (Nat.le_refl _) new
    refine ⟨.ref s.heap.objs.size, _, I1, rfl, ⟨_, x, rfl, I.hok.fresh (Nat.le_refl _), rfl, fun ys hy => by rw [I.tuple_inj hy hq]; exact hx⟩, ⟨⟨x', ?_⟩, hst.1.at fun o q => (sb.2 it (Ne.symm hne)).trans q, hne, hai, hae⟩, fun b hb => ?_⟩
    · have e1 : ((i + 1 : Nat) : Int) = (i : Int) + 1 := by omega
      rw [e1]; exact he'
    · have hb' : b < s.heap.objs.size := by
        have e' : b = e ∨ b = it := by simpa using hb
        rcases e' with z | z
        · rw [z]; exact hel
        · rw [z]; exact hil
      rw [upd_ne (Nat.ne_of_lt hb')]
      exact (hf b hb).1
  done := by
    intro X hP hw hK hc i pins s σ H E I hf st hg
    subst hP hw hK
    obtain ⟨⟨old, he⟩, hit, hne, hai, hae⟩ := st
    obtain ⟨xs, hq, hx⟩ := hg
    obtain ⟨its, rv, p, hz⟩ := I.tuple hq
    obtain ⟨f0, f1, f2, f3, f4, f5⟩ := hf it (by simp)
    have hl := rv.length
    have D : Draws X.prog X.w X.A.in1 it [it, a] i (fun _ _ => True) (fun j h => j = i ∧ h.IsTupleIter it a i ∧ h.IsTuple a its.toArray) :=
      { live := fun _ _ st => let ⟨o, ho, _⟩ := st.2.1; ⟨o, ho⟩
        frame := fun _ _ _ st hk => ⟨st.1, st.2.1.at fun o e => hk it (by simp) o e, st.2.2.at fun o e => hk a (by simp) o e⟩
        item := fun j s Q E hj st hQ => absurd st.1 (Nat.ne_of_lt hj)
        done := fun s Q E st hE => wpAny_nextOf_tuple_end (A := X.A.in1) (I.ok.hd hc) st.2.1 st.2.2 (by simp; omega) hE }
    exact wpAny_pyNext_enum_endD D he ⟨rfl, hit, p⟩ fun h' eb => ⟨rfl, I.turned (t' := s.toks) (fun b o hb q => eb b o hb q) f0 f1 f3 f4 f5⟩
  self := fun A i s Q E st h => let ⟨⟨_, he⟩, _⟩ := st; wpAny_pyIter_enum he h
def iEnumT (K : PySem.W.Frag) (ta : TA) : TI := fun σ H R => ta σ H fun vs H1 => ∃ a xs, vs = [.ref a] ∧ SqT K H1 a xs ∧ R (IteT K a) H1
theorem pi_enumT {X : Cx} {e : Expr} {ta : TA} {p pos tpos : Pos} {elts : List Expr} {kk : Nat} (hg : Gl X "enumerate") (hm : X.mg "enumerate" = none) (ha : PA X [e] ta) (hs : starEach [e] X.env = [(false, eval e X.env)] := by rfl) :
    PI X (.Tuple elts kk tpos) (.Call (.Name "enumerate" p) [e] [] pos) (iEnumT X.K ta) := by
  refine ⟨fun pins s σ H R I h => ?_⟩
  refine Call_ (ld_blt I hg hm boot_enumerate (PyProof.Rows.callWith_type1 (thn (ha.run pos pins s σ H _ I h) fun us s1 ⟨vs, H1, I1, r1, q1⟩ => ?_) hs rfl))
  obtain ⟨a, xs, ex, hq, q⟩ := q1
  subst ex
  cases r1 with
  | cons r rr =>
    cases rr
    cases r
    obtain ⟨its, rv, p', hz⟩ := I1.tuple hq
    have hal : a < s1.heap.objs.size := by obtain ⟨_, q, _⟩ := id p'; exact Heap.lt_size q
    refine enum_begins1 (begins_tuple a its.toArray) p' fun h' he hit hsz hk => wpAny_pyIter_enum he ?_
    have I2 : Inv X pins σ H1 { s1 with heap := h' } := I1.kept (t' := s1.toks) hk
    refine ⟨s1.heap.objs.size + 1, [s1.heap.objs.size + 1, s1.heap.objs.size], _, _, H1, rfl, I2, turn_enumT a (s1.heap.objs.size + 1) s1.heap.objs.size, ⟨⟨.none, he⟩, ⟨_, hit, rfl, rfl⟩, Nat.succ_ne_self _, Nat.ne_of_lt hal, Nat.ne_of_lt (Nat.lt_succ_of_lt hal)⟩, fun b hb => ?_, q⟩
    have e' : b = s1.heap.objs.size + 1 ∨ b = s1.heap.objs.size := by simpa using hb
    have hle : s1.heap.objs.size ≤ b := by
      rcases e' with z | z
      · rw [z]; exact Nat.le_add_right _ _
      · rw [z]; exact Nat.le_refl _
    exact I1.fpOk hle (I1.hok.fresh hle)

/-! ### is True -/
def rIsB : R2 := fun x y H Q => ∃ a b, x = .bl a ∧ y = .bl b ∧ Q (.bl (a == b)) H
theorem op_isB {X : Cx} : OpR X (compareOp .Is) rIsB := by
  intro pins s σ H x y v u Q I rx ry h
  obtain ⟨a, b, rfl, rfl, q⟩ := h
  cases rx
  cases ry
  exact wpAny_is_plain rfl (fin_bl I q (by cases a <;> cases b <;> rfl))

/-! ### own comparisons that let nothing out, as operations on two values -/
def rCmpO (K : PySem.W.Frag) (C : Addr) (sp : Sp) : R2 := fun x y H Q => ∃ a dx fs t, x = .ref a ∧ H a = some (.ins C dx fs) ∧ TyX K H y t ∧ PySem.W.notFirst K C t = true ∧ sp [x, y] H Q E0
theorem op_cmpO {X : Cx} {C f : Addr} {sp : Sp} {k j : Nat} {ps : List Str} {op : CmpOp} {m : Str} (em : (cmpInfo op).2.1 = m) (hm : Meth X.K C m f) (D : DfX X k f ps sp []) (hr : Room j X.A) (hk : k ≤ j := by decide)
    (hop : ∀ a b, compareOp op a b = richCompare op a b := by intro _ _; rfl) : OpR X (compareOp op) (rCmpO X.K C sp) := by
  intro pins s σ H x y v u Q I rx ry h
  obtain ⟨a, dx, fs, t, ex, ea, ty, hn, q⟩ := h
  subst ex
  subst em
  cases rx
  obtain ⟨od, J⟩ := inst_at I ea
  obtain ⟨m0, fr⟩ := I.fr
  rw [hop]
  refine PySem.W.cmp_K (op := op) (tb := t) hr.units0 fr I.ok.mod.kin J (ty_looks I ry ty) hn hm.at_ hm.fn ?_
  refine wpAny_mono (runW (us := [.ref a, u]) (vs := [.ref a, y]) (W := W0) D (hr.mono hk) takes0 I (.cons rfl (.cons ry .nil)) q) (fun w s' z => ?_) fun _ _ x => x
  obtain ⟨z', H', I', rz, qz⟩ := z
  exact SlX.cmpback rz ⟨z', H', I', rz, qz⟩

def bNf (x : Str) (T : String) : PySem.W.Frag → Bool := fun K => PySem.W.notFirst K (He.ga K x) (.type T)
def bKt (T : String) (x : Str) : PySem.W.Frag → Bool := fun K => decide (PySem.W.kitOne K (.type T) (.ref (He.ga K x)) = some false)

/-! ### t[::-1] -/
section
variable {prog : Program} {w : World} {A : Around} {E : Value → Shared → Prop} {s : Shared}
theorem sliceApplied_rev {sl : Addr} {vk : Value} {n : Nat} {Q : Int × Int × Nat → Shared → Prop} (hs : s.heap.IsSliceOf sl .none .none vk) (pk : IsPart vk (some (-1))) (h : Q ((n : Int) - 1, -1, n) s) :
    wpAny (model prog w) A (Builtin.Slice.sliceApplied (.ref sl) (pure (n : Int))) Q E s := by
  obtain ⟨os, hos, hcs, hds⟩ := id hs
  unfold Builtin.Slice.sliceApplied Builtin.Slice.sliceFields
  refine wpAny_bind (wpAny_bind (wpAny_field hos hds (x := .none) rfl (wpAny_bind (wpAny_field hos hds (x := .none) rfl (wpAny_bind (wpAny_field hos hds (x := vk) rfl (wpAny_pure ?_)))))))
  refine wpAny_bind (HT.slicePart_ pk ?_)
  show wpAny _ _ (if ((-1 : Int) == 0) = true then _ else _) _ _ s
  rw [if_neg (by decide)]
  refine wpAny_bind (HT.slicePart_ .none (wpAny_bind (HT.slicePart_ .none (wpAny_bind (wpAny_pure ?_)))))
  show wpAny _ _ (match Builtin.Slice.sliceAdjust none none (-1) (n : Int) with | (lo, hi) => pure (lo, (-1 : Int), Builtin.Slice.slicePlaces lo hi (-1))) _ _ s
  have e1 : Builtin.Slice.sliceAdjust none none (-1) (n : Int) = ((n : Int) - 1, -1) := rfl
  have e2 : Builtin.Slice.slicePlaces ((n : Int) - 1) (-1) (-1) = n := by
    unfold Builtin.Slice.slicePlaces
    rw [if_neg (by decide)]
    by_cases h : (n : Int) - 1 > -1
    · rw [if_pos h, show (- -1 : Int) = 1 by decide, Int.ediv_one]; omega
    · rw [if_neg h]; omega
  rw [e1]
  show wpAny _ _ (pure ((n : Int) - 1, (-1 : Int), Builtin.Slice.slicePlaces ((n : Int) - 1) (-1) (-1))) _ _ s
  rw [e2]
  exact wpAny_pure h
theorem fm_congr {α β : Type} {f g : α → Option β} : ∀ {l : List α}, (∀ x ∈ l, f x = g x) → l.filterMap f = l.filterMap g
  | [], _ => rfl
  | a :: l, h => by
    rw [List.filterMap_cons, List.filterMap_cons, h a List.mem_cons_self, fm_congr fun x hx => h x (List.mem_cons_of_mem _ hx)]
theorem pick_rev (xs : Array Value) : ((List.range xs.size).filterMap fun (m : Nat) => xs[((xs.size : Int) - 1 + (m : Int) * (-1)).toNat]?).toArray = xs.toList.reverse.toArray := by
  have e : ((List.range xs.size).filterMap fun (m : Nat) => xs[((xs.size : Int) - 1 + (m : Int) * (-1)).toNat]?) = ((List.range xs.size).map fun k => xs.size - 1 - k).filterMap (xs[·]?) := by
    rw [List.filterMap_map]
    refine fm_congr fun m hm => ?_
    have := List.mem_range.mp hm
    have e : ((xs.size : Int) - 1 + (m : Int) * (-1)).toNat = xs.size - 1 - m := by omega
    simp only [Function.comp_apply, e]
  rw [e, PySem.W.krv_range, List.filterMap_reverse, PySem.W.krv_all]
theorem getItem_tuple_rev {t sl : Addr} {items : Array Value} {vk : Value} {Q : Value → Shared → Prop} (ht : IsTup s.heap t items) (hs : s.heap.IsSliceOf sl .none .none vk) (pk : IsPart vk (some (-1)))
    (h : Q (.ref s.heap.objs.size) { s with heap := s.heap.push { cls := .type "tuple", data := .seq items.toList.reverse.toArray } })
    (hsz : items.size ≤ sizeLine) : wpAny (model prog w) A (getItem (.ref t) (.ref sl)) Q E s := by
  have htake : sizeOk (.seq items.toList.reverse.toArray) := by
    show items.toList.reverse.toArray.size ≤ sizeLine
    rw [List.size_toArray, List.length_reverse, Array.length_toList]
    exact hsz
  obtain ⟨os, hos, hcs, hds⟩ := id hs
  have hTs : s.TypeIs (.ref sl) "slice" := ⟨os, hos, hcs⟩
  unfold getItem
  try with_reducible refine wpAny_holding ?_
  first | refine wpAny_bind (wpAny_pure ?_) | skip
  refine wpAny_bind (wpAny_sequenceKey ht.typeIs (by decide) ?_)
  refine wpAny_bind (wpAny_callSpecial?_slot (name := Str.ofString "__getitem__") ht.typeIs PyProof.Rows.slot_tuple_getitem
    (wpAny_call_entry PyProof.Rows.slot_tuple_getitem ht.typeIs entry_tuple_getitem ?_ (args_tuple_getitem _ _)))
  show wpAny _ _ (Builtin.Tuple.tupleItemsOf (.ref t) >>= _) _ _ s
  refine wpAny_bind (tupleItemsOf_ ht ?_)
  refine wpAny_bind (wpAny_typeOf hTs ?_)
  rw [if_pos (by decide)]
  refine wpAny_bind (sliceApplied_rev hs pk ?_)
  have hno : ¬ ((((items.size : Int) - 1) == 0 && (-1 : Int) == 1 && items.size == items.size) = true) := by
    intro q
    rw [Bool.and_eq_true, Bool.and_eq_true] at q
    exact absurd q.1.2 (by decide)
  show wpAny _ _ (if (((items.size : Int) - 1) == 0 && (-1 : Int) == 1 && items.size == items.size) = true then _ else _) _ _ s
  rw [if_neg hno, pick_rev]
  first
    | exact wpAny_bind (m := Builtin.Tuple.tupleExact _) (wpAny_newObj_type (wpAny_pure ⟨_, rfl, wpAny_pure h⟩) htake)
    | exact wpAny_bind (m := Builtin.Tuple.tupleExact _) (wpAny_newObj_type (wpAny_bind (wpAny_pure (wpAny_pure ⟨_, rfl, wpAny_pure h⟩))) htake)
    | exact wpAny_bind (wpAny_bind (m := Builtin.Tuple.tupleExact _) (wpAny_newObj_type (wpAny_pure (wpAny_pure ⟨_, rfl, wpAny_pure h⟩)) htake))
    | exact wpAny_bind (wpAny_bind (m := Builtin.Tuple.tupleExact _) (wpAny_newObj_type (wpAny_pure ⟨_, rfl, wpAny_pure h⟩) htake))
end
/-- a list or a tuple, the other way round -/
def tRevA (K : PySem.W.Frag) (te : TE) : TE := fun σ H Q => te σ H fun x H1 => ∃ a xs, x = .ref a ∧ ((SqL K H1 a xs ∧ ∀ p, H1 p = none → Q (.ref p) (upd H1 p (.lst xs.reverse))) ∨ (SqT K H1 a xs ∧ newT H1 xs.reverse Q))
theorem pe_revA {X : Cx} {e : Expr} {te : TE} {k : Nat} {p1 p2 p3 pos : Pos} (he : PE X e te) : PE X (.Subscript e (.Slice none none (some (.UnaryOp .USub (.Constant (.int 1) k p1) p2)) p3) pos) (tRevA X.K te) := by
  refine ⟨fun pins s σ H Q I h => ?_⟩
  refine Subscript_ (thn (he.run pins s σ H _ I h) fun v s1 ⟨x, H1, I1, r1, q1⟩ => ?_)
  obtain ⟨a, xs, ex, q⟩ := q1
  subst ex
  cases r1
  have hst : PO X (some (.UnaryOp .USub (.Constant (.int 1) k p1) p2)) (tPart (tUn (rU fun i => .int (-i)) (tC (.int 1)))) := po_some (pe_un un_neg pe_int)
  refine wpAny_Slice (thn (po_none.run pins s1 σ H1 (fun o H2 => o = none ∧ H2 = H1) I1 ⟨rfl, rfl⟩) fun vl s2 ⟨l, H2, I2, pl, el, e2⟩ => ?_)
  subst el e2
  refine thn (po_none.run pins s2 σ H2 (fun o H3 => o = none ∧ H3 = H2) I2 ⟨rfl, rfl⟩) fun vu s3 ⟨u, H3, I3, pu, eu, e3⟩ => ?_
  subst eu e3
  refine thn (hst.run pins s3 σ H3 (fun o H4 => o = some (-1) ∧ H4 = H3) I3 ⟨1, rfl, -1, rfl, rfl, rfl⟩) fun vs s4 ⟨o, H4, I4, ps, eo, e4⟩ => ?_
  subst eo e4
  have I5 : Inv X pins σ H4 { s4 with heap := s4.heap.push { cls := .type "slice", data := .fields #[vl, vu, vs] } } := I4.kept (t' := s4.toks) fun b ob q => Heap.get?_push_of_some _ q
  show wpAny (model X.prog X.w) X.A (subscriptTail e (.Slice none none (some (.UnaryOp .USub (.Constant (.int 1) k p1) p2)) p3) (.ref a) (.ref s4.heap.objs.size)) (EP X pins σ Q) X.xe { s4 with heap := s4.heap.push { cls := .type "slice", data := .fields #[vl, vu, vs] } }
  rcases q with ⟨hx, q⟩ | ⟨hx, q⟩
  · obtain ⟨its, r, ht, hz⟩ := I5.list hx
    have hlen := r.length
    refine tail_any (ops := [.ref a, .ref s4.heap.objs.size]) ht.isList.typeIs (PySem.slot_list_getitem.lookup) ?_ (by with_unfolding_all rfl)
    refine wpAny_getItem_list_slice ht.isList (Heap.IsSliceOf.new _ vl vu vs) pl pu ps (by decide) ?_ (by rw [List.size_toArray]; omega)
    rw [PySem.W.krv_pick]
    refine ⟨.ref _, _, I5.laid (t' := s4.toks) (o := .lst xs.reverse) (fun b ob q => Heap.get?_push_of_some _ q) (Nat.le_refl _) ?_, rfl, q _ (I5.hok.fresh (Nat.le_refl _))⟩
    exact ⟨by rw [List.length_reverse]; exact hz, _, 0, r.reverse, Heap.get?_push_size _ rfl⟩
  · obtain ⟨its, r, ht, hz⟩ := I5.tuple hx
    have hlen := r.length
    cases pl
    cases pu
    refine tail_any (ops := [.ref a, .ref s4.heap.objs.size]) ht.typeIs (PyProof.Rows.slot_tuple_getitem.lookup) ?_ (by with_unfolding_all rfl)
    refine getItem_tuple_rev ht (Heap.IsSliceOf.new _ .none .none vs) ps ?_ (by rw [List.size_toArray]; omega)
    exact newT_laid (t' := s4.toks) I5 (by rw [List.length_reverse]; exact hz) r.reverse q
end
/-! ## B0 -/
section

/-! ### answers to single questions -/
section
variable {K : PySem.W.Frag} {H : Hp} {Q : VK} {p l : Addr} {xs ys : List V} {i j n : Int} {v w : V} {a b : Str}
theorem addI (q : Q (.int (i + j)) H) : oAdd K (.int i) (.int j) H Q := .inl ⟨i, j, rfl, rfl, q⟩
theorem subI (q : Q (.int (i - j)) H) : rSubI (.int i) (.int j) H Q := ⟨i, j, rfl, rfl, q⟩
theorem mulI (h : -(2 ^ 64) < i ∧ i < 2 ^ 64) (q : Q (.int (i * j)) H) : oMulA K (.int i) (.int j) H Q := .inl ⟨i, j, rfl, rfl, .inl h, q⟩
theorem mulI2 (h : -(2 ^ 64) < j ∧ j < 2 ^ 64) (q : Q (.int (i * j)) H) : oMulA K (.int i) (.int j) H Q := .inl ⟨i, j, rfl, rfl, .inr h, q⟩
theorem modI (h : 0 < j) (q : Q (.int (i % j)) H) : rModI (.int i) (.int j) H Q := ⟨i, j, rfl, rfl, h, q⟩
theorem divI (h : 0 < j ∧ j < 1073741824) (q : Q (.int (i / j)) H) : rDivI (.int i) (.int j) H Q := ⟨i, j, rfl, rfl, h, q⟩
theorem powI (h : 0 ≤ j ∧ j ≤ 1000000 ∧ i.natAbs < 2 ^ 64) (q : Q (.int (i ^ j.toNat)) H) : rPowI (.int i) (.int j) H Q := ⟨i, j, rfl, rfl, h, q⟩
theorem int1 (q : Q (.int i) H) : rInt1 [.int i] H Q := .inl ⟨i, rfl, q⟩
theorem addS (h : a.length + b.length ≤ sizeLine) (q : Q (.str (a ++ b)) H) : oAdd K (.str a) (.str b) H Q := .inr (.inl ⟨a, b, rfl, rfl, h, q⟩)
theorem addL (h1 : H p = some (.lst xs)) (h2 : H l = some (.lst ys)) (h : xs.length + ys.length ≤ sizeLine) (q : ∀ r, H r = none → Q (.ref r) (upd H r (.lst (xs ++ ys)))) : oAdd K (.ref p) (.ref l) H Q :=
  .inr (.inr (.inl ⟨p, l, xs, ys, rfl, rfl, h1, h2, h, q⟩))
theorem getL (h : SqL K H p xs) (ha : atI xs i = some v) (q : Q v H) : oGet K (.ref p) (.int i) H Q := .inl ⟨p, xs, i, v, rfl, rfl, h, ha, q⟩
theorem getT (h : SqT K H p xs) (ha : atI xs i = some v) (q : Q v H) : oGet K (.ref p) (.int i) H Q := .inr (.inl ⟨p, xs, i, v, rfl, rfl, h, ha, q⟩)
theorem getS {c : Nat} (hl : a.length ≤ sizeLine) (ha : atI a.cps.toList i = some c) (q : Q (.str ⟨#[c]⟩) H) : oGet K (.str a) (.int i) H Q := .inr (.inr (.inl ⟨a, i, c, rfl, rfl, hl, ha, q⟩))
theorem setL {k : Nat} {Q : Hp → Prop} (h : H p = some (.lst xs)) (hi : ixN xs.length i = some k) (q : Q (upd H p (.lst (xs.set k v)))) : oSet (.ref p) (.int i) v H Q := .inl ⟨p, xs, i, k, rfl, rfl, h, hi, q⟩
theorem lenL (h : SqL K H p xs) (q : Q (.int xs.length) H) : oLen K [.ref p] H Q := .inl ⟨p, xs, rfl, .inl h, q⟩
theorem lenT (h : SqT K H p xs) (q : Q (.int xs.length) H) : oLen K [.ref p] H Q := .inl ⟨p, xs, rfl, .inr h, q⟩
theorem lenS (h : a.length ≤ sizeLine) (q : Q (.int a.length) H) : oLen K [.str a] H Q := .inr (.inl ⟨a, rfl, h, q⟩)
theorem eqF (h : scal v w = true) (q : Q (.bl (decide (v = w))) H) : oEq K v w H Q := .inl ⟨h, q⟩
theorem neF (h : scal v w = true) (q : Q (.bl (!decide (v = w))) H) : oNe K v w H Q := .inl ⟨h, q⟩
theorem eqD {d e : PyData} (h1 : Dp K H v d) (h2 : Dp K H w e) (s1 : SeqAt.shaped d = true) (s2 : SeqAt.shaped e = true) (q : Q (.bl (PyData.eqv d e)) H) : oEq K v w H Q := .inr ⟨d, e, h1, h2, s1, s2, q⟩
theorem neD {d e : PyData} (h1 : Dp K H v d) (h2 : Dp K H w e) (s1 : SeqAt.shaped d = true) (s2 : SeqAt.shaped e = true) (q : Q (.bl (!PyData.eqv d e)) H) : oNe K v w H Q := .inr ⟨d, e, h1, h2, s1, s2, q⟩
theorem inL {neg : Bool} (h : SqL K H p xs) (hx : flatV v = true) (ha : xs.all flatV = true) (q : Q (.bl (if neg then !inV v xs else inV v xs)) H) : oIn K neg v (.ref p) H Q := .inl ⟨p, xs, rfl, .inl h, hx, ha, q⟩
theorem inT {neg : Bool} (h : SqT K H p xs) (hx : flatV v = true) (ha : xs.all flatV = true) (q : Q (.bl (if neg then !inV v xs else inV v xs)) H) : oIn K neg v (.ref p) H Q := .inl ⟨p, xs, rfl, .inr h, hx, ha, q⟩
theorem inSg {neg : Bool} {c : Nat} (q : Q (.bl (if neg then !decide (c ∈ a.cps.toList) else decide (c ∈ a.cps.toList))) H) : oIn K neg (.str ⟨#[c]⟩) (.str a) H Q := .inr (.inr (.inl ⟨c, a, rfl, rfl, q⟩))
theorem slS {lo hi : Option Int} (h : a.length ≤ sizeLine) (q : Q (.str (cutS a lo hi)) H) : oSl K (.str a) lo hi H Q := .inr (.inr ⟨a, rfl, h, q⟩)
theorem slL {lo hi : Option Int} (h : SqL K H p xs) (q : ∀ r, H r = none → Q (.ref r) (upd H r (.lst (cutV xs lo hi)))) : oSl K (.ref p) lo hi H Q := .inl ⟨p, xs, rfl, h, q⟩
theorem ty_list (h : SqL K H p xs) : tyV K "list" (.ref p) H := .inl ⟨rfl, xs, h⟩
theorem isiF {t : String} {T : String} {r : Bool} (ty : TyX K H v (.type t)) (hk : PySem.W.kitOne K (.type t) (.type T) = some r) (q : Q (.bl r) H) : rIsi K [v, .ty T] H Q := ⟨v, .ty T, _, _, r, rfl, .ty T, ty, hk, q⟩
end

/-! ### the same as equations -/
section
variable {K : PySem.W.Frag} {H : Hp} {Q : VK} {i j : Int} {a b : Str}
theorem s_addI : oAdd K (.int i) (.int j) H Q = Q (.int (i + j)) H := by
  refine propext ⟨fun h => ?_, addI⟩
  rcases h with ⟨_, _, e1, e2, q⟩ | ⟨_, _, e1, _⟩ | ⟨_, _, _, _, e1, _⟩ | ⟨_, _, _, _, e1, _⟩
  · cases e1; cases e2; exact q
  all_goals cases e1
theorem s_addS : oAdd K (.str a) (.str b) H Q = (a.length + b.length ≤ sizeLine ∧ Q (.str (a ++ b)) H) := by
  refine propext ⟨fun h => ?_, fun h => addS h.1 h.2⟩
  rcases h with ⟨_, _, e1, _⟩ | ⟨_, _, e1, e2, q⟩ | ⟨_, _, _, _, e1, _⟩ | ⟨_, _, _, _, e1, _⟩
  · cases e1
  · cases e1; cases e2; exact q
  all_goals cases e1
theorem s_subI : rSubI (.int i) (.int j) H Q = Q (.int (i - j)) H := propext ⟨fun ⟨_, _, e1, e2, q⟩ => by cases e1; cases e2; exact q, subI⟩
theorem s_mulI : oMulA K (.int i) (.int j) H Q = (CMul i j ∧ Q (.int (i * j)) H) := by
  refine propext ⟨fun h => ?_, fun h => .inl ⟨i, j, rfl, rfl, h⟩⟩
  rcases h with ⟨_, _, e1, e2, q⟩ | ⟨_, _, _, e1, _⟩ | ⟨_, _, _, e1, _⟩
  · cases e1; cases e2; exact q
  all_goals cases e1
theorem s_modI : rModI (.int i) (.int j) H Q = (0 < j ∧ Q (.int (i % j)) H) := propext ⟨fun ⟨_, _, e1, e2, q⟩ => by cases e1; cases e2; exact q, fun h => modI h.1 h.2⟩
theorem s_divI : rDivI (.int i) (.int j) H Q = ((0 < j ∧ j < 1073741824) ∧ Q (.int (i / j)) H) := propext ⟨fun ⟨_, _, e1, e2, q⟩ => by cases e1; cases e2; exact q, fun h => divI h.1 h.2⟩
theorem s_powI : rPowI (.int i) (.int j) H Q = ((0 ≤ j ∧ j ≤ 1000000 ∧ i.natAbs < 2 ^ 64) ∧ Q (.int (i ^ j.toNat)) H) := propext ⟨fun ⟨_, _, e1, e2, q⟩ => by cases e1; cases e2; exact q, fun h => powI h.1 h.2⟩
theorem s_ltI : rLtI (.int i) (.int j) H Q = Q (.bl (decide (i < j))) H := propext ⟨fun ⟨_, _, e1, e2, q⟩ => by cases e1; cases e2; exact q, fun q => ⟨i, j, rfl, rfl, q⟩⟩
theorem s_leI : rLeI (.int i) (.int j) H Q = Q (.bl (decide (i ≤ j))) H := propext ⟨fun ⟨_, _, e1, e2, q⟩ => by cases e1; cases e2; exact q, fun q => ⟨i, j, rfl, rfl, q⟩⟩
theorem s_gtI : rGtI (.int i) (.int j) H Q = Q (.bl (decide (j < i))) H := propext ⟨fun ⟨_, _, e1, e2, q⟩ => by cases e1; cases e2; exact q, fun q => ⟨i, j, rfl, rfl, q⟩⟩
theorem s_geI : rGeI (.int i) (.int j) H Q = Q (.bl (decide (j ≤ i))) H := propext ⟨fun ⟨_, _, e1, e2, q⟩ => by cases e1; cases e2; exact q, fun q => ⟨i, j, rfl, rfl, q⟩⟩
theorem s_int1 : rInt1 [.int i] H Q = Q (.int i) H := by
  refine propext ⟨fun h => ?_, int1⟩
  rcases h with ⟨_, e1, q⟩ | ⟨_, e1, _⟩
  · cases e1; exact q
  · cases e1
theorem s_slS {lo hi : Option Int} : oSl K (.str a) lo hi H Q = (a.length ≤ sizeLine ∧ Q (.str (cutS a lo hi)) H) := by
  refine propext ⟨fun h => ?_, fun h => slS h.1 h.2⟩
  rcases h with ⟨_, _, e1, _⟩ | ⟨_, _, e1, _⟩ | ⟨_, e1, q⟩
  · cases e1
  · cases e1
  · cases e1; exact q
theorem s_lenS : oLen K [.str a] H Q = (a.length ≤ sizeLine ∧ Q (.int a.length) H) := by
  refine propext ⟨fun h => ?_, fun h => lenS h.1 h.2⟩
  rcases h with ⟨_, _, e1, _⟩ | ⟨_, e1, q⟩ | ⟨_, _, e1, _⟩ | ⟨_, _, e1, _⟩
  · cases e1
  · cases e1; exact q
  all_goals cases e1
theorem eqI (q : Q (.bl (decide (i = j))) H) : oEq K (.int i) (.int j) H Q := eqF rfl (by rw [dec_int, ← Bool.beq_eq_decide_eq] at *; exact q)
theorem neI (q : Q (.bl (!decide (i = j))) H) : oNe K (.int i) (.int j) H Q := neF rfl (by rw [dec_int, ← Bool.beq_eq_decide_eq] at *; exact q)
end

/-! ### loops and comprehensions -/
def FG (J : It) (g : TG) (tb : TS) (D : Ends) (σ : St) (H : Hp) : Prop := ∃ W : Nat → Nat → St → Hp → Prop, (∃ m, W 0 m σ H) ∧ ∀ i m σ H, W i m σ H →
  (J.stop i H ∧ D.nx σ H) ∨ (J.go i H ∧ ∃ N : St → Hp → Prop, (∀ σ' H', N σ' H' → ∃ m', m' < m ∧ W (i + 1) m' σ' H') ∧ ∀ x H', J.yld i H x H' → g x σ H' fun σ2 H2 => tb { D with nx := N, ct := N, bk := D.nx } σ2 H2)
theorem for_eq {wi : TI} {g : TG} {tb : TS} {D : Ends} {σ : St} {H : Hp} : tFor wi g tb D σ H = wi σ H fun J H1 => FG J g tb D σ H1 := rfl
theorem fg {J : It} {n : Nat} {G : Hp → Prop} {Y : Nat → Hp → V → Hp → Prop} (w : Walk J n G Y) {g : TG} {tb : TS} {D : Ends} {σ : St} {H : Hp} (Pv : Nat → St → Hp → Prop) (h0 : Pv 0 σ H) (hG : ∀ i σ H, i ≤ n → Pv i σ H → G H)
    (hs : ∀ i x σ H H', i < n → Pv i σ H → Y i H x H' → g x σ H' fun σ2 H2 => tb { D with nx := Pv (i + 1), ct := Pv (i + 1), bk := D.nx } σ2 H2) (hd : ∀ σ H, Pv n σ H → D.nx σ H) : FG J g tb D σ H := for_it w Pv h0 hG hs hd
def LG (J : It) (g : TG) (tt : TT) (te : TE) (vs : List Nat) (σ : St) (H1 : Hp) (Q : VK) : Prop := ∀ D, H1 D = none → ∃ W : Nat → Nat → Hp → Prop, (∃ m, W 0 m (upd H1 D (.lst []))) ∧ ∀ i m H, W i m H →
  (J.stop i H ∧ Q (.ref D) H) ∨ (J.go i H ∧ ∃ Nx : Hp → Prop, (∀ H', Nx H' → ∃ m', m' < m ∧ W (i + 1) m' H') ∧ ∀ x H', J.yld i H x H' → g x (wipe σ vs) H' fun σ2 H2 => wipe σ2 vs = wipe σ vs ∧ tt σ2 H2 fun b H3 =>
    if b = true then te σ2 H3 fun y H4 => ∃ acc, H4 D = some (.lst acc) ∧ acc.length < sizeLine ∧ Nx (upd H4 D (.lst (acc ++ [y]))) else Nx H3)
theorem lc_eq {wi : TI} {g : TG} {tt : TT} {te : TE} {vs : List Nat} {σ : St} {H : Hp} {Q : VK} : tLc wi g tt te vs σ H Q = wi σ H fun J H1 => LG J g tt te vs σ H1 Q := rfl
theorem lg {J : It} {n : Nat} {G : Hp → Prop} {Y : Nat → Hp → V → Hp → Prop} (w : Walk J n G Y) {g : TG} {tt : TT} {te : TE} {vs : List Nat} {σ : St} {H1 : Hp} {Q : VK} (Pv : Addr → Nat → Hp → Prop) (h0 : ∀ D, H1 D = none → Pv D 0 (upd H1 D (.lst []))) (hG : ∀ D, H1 D = none → ∀ i H, i ≤ n → Pv D i H → G H)
    (hs : ∀ D, H1 D = none → ∀ i x H H', i < n → Pv D i H → Y i H x H' → g x (wipe σ vs) H' fun σ2 H2 => wipe σ2 vs = wipe σ vs ∧ tt σ2 H2 fun b H3 =>
      if b = true then te σ2 H3 fun y H4 => ∃ acc, H4 D = some (.lst acc) ∧ acc.length < sizeLine ∧ Pv D (i + 1) (upd H4 D (.lst (acc ++ [y]))) else Pv D (i + 1) H3) (hd : ∀ D, H1 D = none → ∀ H, Pv D n H → Q (.ref D) H) : LG J g tt te vs σ H1 Q :=
  fun D hD => lc_it w (Pv D) (h0 D hD) (hG D hD) (hs D hD) (hd D hD)

/-! ### heaps -/
section
variable {H H' : Hp} {a p q : Addr} {o u : HO}
theorem at_new (hp : H p = none) (h : H a = some u) : upd H p o a = some u := (upd_ne (ne_of_none h hp)).trans h
theorem at_set (hn : a ≠ p) (h : H a = some u) : upd H p o a = some u := (upd_ne hn).trans h
theorem Same.new (hp : H p = none) : Same H (upd H p o) := fun b x e => at_new hp e
theorem Same.new2 (s : Same H H') (hp : H' p = none) : Same H (upd H' p o) := s.trans (Same.new hp)
theorem free_new {r : Addr} (hr : upd H p o r = none) : H r = none ∧ r ≠ p := by
  by_cases e : r = p
  · subst e; rw [upd_same] at hr; cases hr
  · rw [upd_ne e] at hr; exact ⟨hr, e⟩
end
end
/-! ## readings -/
/-- _law_pool -/
abbrev n_l_pool : List Str := ["_law_cell_here", "_law_folded"]
def t_l_pool (K : PySem.W.Frag) (E : XK) : TS :=
    tSeq (tAsg (tOp (oMulA K) (tC (.int 2)) (tVar 0)) (gName 1))
    (tSeq (tIfS (tTest (tOp rLtI (tVar 0) (tC (.int 0)))) (tAsg (tOp rSubI (tOp rSubI (tC (.int 0)) (tOp (oMulA K) (tC (.int 2)) (tVar 0))) (tC (.int 1))) (gName 1)) (tNext))
    (tSeq (tIfS (tTest (tOp rGeI (tVar 1) (tOp rPowI (tC (.int 10)) (tC (.int 18))))) (tRet (tLst (tCons (tVar 1) (tCons (tOp rModI (tCB rInt1 (tCons (tVar 1) (tNil))) (tC (.int 1000000007))) (tCons (tC (.int 0)) (tNil)))))) (tNext))
    (tRet (tLst (tCons (tC (.int 0)) (tCons (tOp rModI (tCB rInt1 (tCons (tVar 1) (tNil))) (tC (.int 1000000007))) (tCons (tC (.int 0)) (tNil))))))))
/-- _law_cell -/
abbrev n_l_cell : List Str := ["_law_script", "_law_k"]
def t_l_cell (K : PySem.W.Frag) (E : XK) : TS :=
    tSeq (tIfS (tTest (tOp rLtI (tVar 1) (tCB (oLen K) (tCons (tVar 0) (tNil))))) (tRet (tOp (oGet K) (tVar 0) (tVar 1))) (tNext))
    (tRet (tC (.int 0)))
/-- _law_take -/
abbrev n_l_take : List Str := ["_law_pool_here", "_law_many", "_law_draw", "_law_mixed"]
def t_l_take (K : PySem.W.Frag) (E : XK) : TS :=
    tSeq (tIfS (tTest (tOp rGtI (tOp (oGet K) (tVar 0) (tC (.int 0))) (tC (.int 0)))) (tSeq (tAsg (tOp rModI (tCB rInt1 (tCons (tOp (oGet K) (tVar 0) (tC (.int 0))) (tNil))) (tVar 1)) (gName 2))
    (tSeq (tAsg (tOp rDivI (tOp (oGet K) (tVar 0) (tC (.int 0))) (tVar 1)) (gSub (tVar 0) (tC (.int 0)) oSet))
    (tRet (tVar 2)))) (tNext))
    (tSeq (tAsg (tOp (oAdd K) (tOp (oGet K) (tVar 0) (tC (.int 2))) (tC (.int 1))) (gSub (tVar 0) (tC (.int 2)) oSet))
    (tSeq (tAsg (tOp rModI (tCB rInt1 (tCons (tOp rPowI (tOp (oAdd K) (tOp (oAdd K) (tOp (oGet K) (tVar 0) (tC (.int 1))) (tOp (oMulA K) (tC (.int 7919)) (tOp (oGet K) (tVar 0) (tC (.int 2))))) (tC (.int 104729))) (tC (.int 5))) (tNil))) (tC (.int 2147483647))) (gName 3))
    (tRet (tOp rModI (tOp rModI (tCB rInt1 (tCons (tOp (oMulA K) (tOp (oAdd K) (tVar 3) (tOp (oGet K) (tVar 0) (tC (.int 2)))) (tC (.int 40692))) (tNil))) (tC (.int 2147483629))) (tVar 1)))))
/-- _law_names -/
abbrev n_l_names : List Str := ["_law_pool_here", "_law_many", "_law_letters", "_law_signs", "_law_word", "_law_k", "_law_stem", "_law_place", "_law_told", "_law_start", "_law_names_here", "_law_sign"]
def t_l_names_b1 (K : PySem.W.Frag) (sp_l_take : Sp) (E : XK) : TS :=
    tAsg (tOp (oAdd K) (tVar 4) (tOp (oGet K) (tVar 3) (tCW sp_l_take [] (WD E) (tCons (tVar 0) (tCons (tC (.int 36)) (tNil)))))) (gName 4)
def t_l_names_e1 (K : PySem.W.Frag) (sp_l_take : Sp) (E : XK) : TE :=
    tSl (oSl K) (tVar 4) (tNoPart) (tPart (tOp (oAdd K) (tVar 5) (tC (.int 1))))
def t_l_names_b2 (K : PySem.W.Frag) (sp_l_take : Sp) (E : XK) : TS :=
    tSeq (tAsg (tOp (oGet K) (tVar 8) (tOp rModI (tOp (oAdd K) (tVar 9) (tOp (oMulA K) (tC (.int 7)) (tVar 5))) (tCB (oLen K) (tCons (tVar 8) (tNil))))) (gName 11))
    (tDrop (tBM K "list" rAppend (tVar 10) (tCons (tOp (oAdd K) (tOp (oAdd K) (tSl (oSl K) (tVar 6) (tNoPart) (tPart (tVar 7))) (tVar 11)) (tSl (oSl K) (tVar 6) (tPart (tVar 7)) (tNoPart))) (tNil))))
def t_l_names (K : PySem.W.Frag) (sp_l_take : Sp) (E : XK) : TS :=
    tSeq (tAsg (tC (.str "abcdefghijklmnopqrstuvwxyz")) (gName 2))
    (tSeq (tAsg (tOp (oAdd K) (tVar 2) (tC (.str "0123456789"))) (gName 3))
    (tSeq (tAsg (tOp (oGet K) (tVar 2) (tCW sp_l_take [] (WD E) (tCons (tVar 0) (tCons (tC (.int 26)) (tNil))))) (gName 4))
    (tSeq (tFor (iRng1 (tCons (tC (.int 7)) (tNil))) (gName 5) (t_l_names_b1 K sp_l_take E))
    (tSeq (tIfS (tTest (tOp (oEq K) (tCW sp_l_take [] (WD E) (tCons (tVar 0) (tCons (tC (.int 3)) (tNil)))) (tC (.int 0)))) (tRet (tLc (iRng1 (tCons (tVar 1) (tNil))) (gName 5) (tYes) (t_l_names_e1 K sp_l_take E) [5])) (tNext))
    (tSeq (tAsg (tSl (oSl K) (tVar 4) (tNoPart) (tPart (tCW sp_l_take [] (WD E) (tCons (tVar 0) (tCons (tC (.int 8)) (tNil)))))) (gName 6))
    (tSeq (tAsg (tCW sp_l_take [] (WD E) (tCons (tVar 0) (tCons (tOp (oAdd K) (tCB (oLen K) (tCons (tVar 6) (tNil))) (tC (.int 1))) (tNil)))) (gName 7))
    (tSeq (tAsg (tIf (tTest (tOp (oEq K) (tVar 7) (tC (.int 0)))) (tVar 2) (tVar 3)) (gName 8))
    (tSeq (tAsg (tCW sp_l_take [] (WD E) (tCons (tVar 0) (tCons (tC (.int 36)) (tNil)))) (gName 9))
    (tSeq (tAsg (tLst (tNil)) (gName 10))
    (tSeq (tFor (iRng1 (tCons (tVar 1) (tNil))) (gName 5) (t_l_names_b2 K sp_l_take E))
    (tRet (tVar 10))))))))))))
/-- _law_second -/
abbrev n_l_second : List Str := ["_law_pool_here", "_law_looks", "_law_names_here", "_law_kind", "_law_place", "_law_rest", "_law_at", "_law_k"]
def t_l_second_e1 (K : PySem.W.Frag) (sp_l_take : Sp) (E : XK) : TE :=
    tOp (oGet K) (tVar 2) (tCW sp_l_take [] W0 (tCons (tVar 0) (tCons (tCB (oLen K) (tCons (tVar 2) (tNil))) (tNil))))
def t_l_second_i1 (K : PySem.W.Frag) (sp_l_take : Sp) (E : XK) : TT :=
    tTest (tOp (oNe K) (tVar 2) (tLst (tNil)))
def t_l_second (K : PySem.W.Frag) (sp_l_take : Sp) (E : XK) : TS :=
    tSeq (tAsg (tCW sp_l_take [] (WD E) (tCons (tVar 0) (tCons (tC (.int 4)) (tNil)))) (gName 3))
    (tSeq (tIfS (tOr (tTest (tOp (oEq K) (tVar 3) (tC (.int 0)))) (tTest (tOp (oEq K) (tVar 1) (tLst (tNil))))) (tRet (tOp (oAdd K) (tRevA K (tVar 2)) (tLc (iRng1 (tCons (tCW sp_l_take [] (WD E) (tCons (tVar 0) (tCons (tC (.int 6)) (tNil)))) (tNil))) (gName 7) ((t_l_second_i1 K sp_l_take E)) (t_l_second_e1 K sp_l_take E) [7]))) (tNext))
    (tSeq (tAsg (tCW sp_l_take [] (WD E) (tCons (tVar 0) (tCons (tCB (oLen K) (tCons (tVar 1) (tNil))) (tNil)))) (gName 4))
    (tSeq (tAsg (tOp (oAdd K) (tSl (oSl K) (tVar 1) (tNoPart) (tPart (tVar 4))) (tSl (oSl K) (tVar 1) (tPart (tOp (oAdd K) (tVar 4) (tC (.int 1)))) (tNoPart))) (gName 5))
    (tSeq (tIfS (tAnd (tTest (tOp (oEq K) (tVar 3) (tC (.int 1)))) (tTest (tOp (oIn K false) (tOp (oGet K) (tVar 1) (tVar 4)) (tVar 5)))) (tRet (tVar 5)) (tNext))
    (tSeq (tIfS (tTest (tOp (oEq K) (tVar 3) (tC (.int 2)))) (tRet (tOp (oAdd K) (tOp (oAdd K) (tSl (oSl K) (tVar 1) (tNoPart) (tPart (tVar 4))) (tLst (tCons (tOp (oGet K) (tVar 1) (tVar 4)) (tNil)))) (tSl (oSl K) (tVar 1) (tPart (tVar 4)) (tNoPart)))) (tNext))
    (tSeq (tAsg (tCW sp_l_take [] (WD E) (tCons (tVar 0) (tCons (tOp (oAdd K) (tCB (oLen K) (tCons (tVar 5) (tNil))) (tC (.int 1))) (tNil)))) (gName 6))
    (tRet (tOp (oAdd K) (tOp (oAdd K) (tSl (oSl K) (tVar 5) (tNoPart) (tPart (tVar 6))) (tLst (tCons (tOp (oGet K) (tVar 1) (tVar 4)) (tNil)))) (tSl (oSl K) (tVar 5) (tPart (tVar 6)) (tNoPart))))))))))
/-- is_name -/
abbrev n_is_name : List Str := ["word", "sign"]
def t_is_name_b1 (K : PySem.W.Frag) (E : XK) : TS :=
    tIfS (tTest (tOp (oIn K true) (tVar 1) (tC (.str "abcdefghijklmnopqrstuvwxyz0123456789")))) (tRet (tC (.bl false))) (tNext)
def t_is_name (K : PySem.W.Frag) (E : XK) : TS :=
    tSeq (tIfS (tOr (tNot (tB (tCB (rIsi K) (tCons (tVar 0) (tCons (tC (.ty "str")) (tNil)))))) (tOr (tTest (tOp rLtI (tCB (oLen K) (tCons (tVar 0) (tNil))) (tC (.int 1)))) (tTest (tOp rGtI (tCB (oLen K) (tCons (tVar 0) (tNil))) (tC (.int 8)))))) (tRet (tC (.bl false))) (tNext))
    (tSeq (tIfS (tTest (tOp (oIn K true) (tOp (oGet K) (tVar 0) (tC (.int 0))) (tC (.str "abcdefghijklmnopqrstuvwxyz")))) (tRet (tC (.bl false))) (tNext))
    (tSeq (tFor (iStr (tVar 0)) (gName 1) (t_is_name_b1 K  E))
    (tRet (tC (.bl true)))))
/-- BadName.__init__ -/
abbrev n_BadName_init : List Str := ["self", "name"]
def t_BadName_init (K : PySem.W.Frag) (E : XK) : TS :=
    tOst K "name" (tVar 0) (tVar 1)
/-- Row.__init__ -/
abbrev n_Row_init : List Str := ["self", "files", "name"]
def t_Row_init_b1 (K : PySem.W.Frag) (sp_is_name : Sp) (E : XK) : TS :=
    tIfS (tNot (tB (tCW sp_is_name [] (WD E) (tCons (tVar 2) (tNil))))) (tRs1 (He.ga K "BadName") "name" (WD E) (tVar 2)) (tNext)
def t_Row_init (K : PySem.W.Frag) (sp_is_name : Sp) (E : XK) : TS :=
    tSeq (tFor (iSeq K (tVar 1)) (gName 2) (t_Row_init_b1 K sp_is_name E))
    (sFld K (tVar 0) (tCB (rTupOf K) (tCons (tVar 1) (tNil))) "looks")
/-- NoFile.__init__ -/
abbrev n_NoFile_init : List Str := ["self", "name"]
def t_NoFile_init (K : PySem.W.Frag) (E : XK) : TS :=
    tOst K "name" (tVar 0) (tVar 1)
/-- first_look -/
abbrev n_first_look : List Str := ["looks", "file"]
def t_first_look (K : PySem.W.Frag) (E : XK) : TS :=
    tRet (tTix K (tVar 0) (tVar 1))
/-- last_look -/
abbrev n_last_look : List Str := ["looks", "file"]
def t_last_look (K : PySem.W.Frag) (E : XK) : TS :=
    tRet (tOp rSubI (tOp rSubI (tCB (oLen K) (tCons (tVar 0) (tNil))) (tC (.int 1))) (tTix K (tRevA K (tVar 0)) (tVar 1)))
/-- Row.before -/
abbrev n_Row_before : List Str := ["self", "first", "second", "file"]
def t_Row_before_b1 (K : PySem.W.Frag) (sp_first_look sp_last_look : Sp) (E : XK) : TS :=
    tIfS (tTest (tOp (oIn K true) (tVar 3) (tFld K (tVar 0) "looks"))) (tRs1 (He.ga K "NoFile") "name" (WD E) (tVar 3)) (tNext)
def t_Row_before (K : PySem.W.Frag) (sp_first_look sp_last_look : Sp) (E : XK) : TS :=
    tSeq (tFor (iTup K (tTup (tCons (tVar 1) (tCons (tVar 2) (tNil))))) (gName 3) (t_Row_before_b1 K sp_first_look sp_last_look E))
    (tRet (tOp rLtI (tCW sp_first_look [] (WD E) (tCons (tFld K (tVar 0) "looks") (tCons (tVar 1) (tNil)))) (tCW sp_last_look [] (WD E) (tCons (tFld K (tVar 0) "looks") (tCons (tVar 2) (tNil))))))
/-- _law_before -/
abbrev n_l_before : List Str := ["_law_looks", "_law_first", "_law_second_here", "_law_places", "_law_place", "_law_k", "_law_file"]
def t_l_before_e1 (K : PySem.W.Frag) (E : XK) : TE :=
    tVar 5
def t_l_before_i1 (K : PySem.W.Frag) (E : XK) : TT :=
    tTest (tOp (oEq K) (tVar 6) (tVar 1))
def t_l_before_b1 (K : PySem.W.Frag) (E : XK) : TS :=
    tIfS (tTest (tOp (oIn K false) (tVar 2) (tSl (oSl K) (tVar 0) (tPart (tOp (oAdd K) (tVar 4) (tC (.int 1)))) (tNoPart)))) (tRet (tC (.bl true))) (tNext)
def t_l_before (K : PySem.W.Frag) (E : XK) : TS :=
    tSeq (tAsg (tLc (iEnum K (tCons (tVar 0) (tNil))) (gTup K 2 (gCons (gName 5) (gCons (gName 6) (gNil)))) ((t_l_before_i1 K  E)) (t_l_before_e1 K  E) [5, 6]) (gName 3))
    (tSeq (tFor (iSeq K (tVar 3)) (gName 4) (t_l_before_b1 K  E))
    (tRet (tC (.bl false))))
/-- _law_right -/
abbrev n_l_right : List Str := ["_law_row", "_law_looks", "_law_names_here", "_law_first", "_law_second_here", "_law_told"]
def t_l_right_b1 (K : PySem.W.Frag) (sp_Row_before sp_l_before : Sp) (E : XK) : TS :=
    tSeq (tAsg (tMW (He.ga K "Row") "before" sp_Row_before [] (WD E) (tVar 0) (tCons (tVar 3) (tCons (tVar 4) (tNil)))) (gName 5))
    (tIfS (tOr (tTest (tOp (oNe K) (tVar 5) (tCW sp_l_before [] (WD E) (tCons (tVar 1) (tCons (tVar 3) (tCons (tVar 4) (tNil))))))) (tNot (tB (tCB (rIsi K) (tCons (tVar 5) (tCons (tC (.ty "bool")) (tNil))))))) (tRet (tC (.bl false))) (tNext))
def t_l_right_b2 (K : PySem.W.Frag) (sp_Row_before sp_l_before : Sp) (E : XK) : TS :=
    tFor (iList K (tVar 2)) (gName 4) (t_l_right_b1 K sp_Row_before sp_l_before E)
def t_l_right (K : PySem.W.Frag) (sp_Row_before sp_l_before : Sp) (E : XK) : TS :=
    tSeq (tFor (iList K (tVar 2)) (gName 3) (t_l_right_b2 K sp_Row_before sp_l_before E))
    (tRet (tC (.bl true)))
/-- _law_pairs -/
abbrev n_l_pairs : List Str := ["_law_looks", "_law_names_here", "_law_pairs_here", "_law_first", "_law_second_here"]
def t_l_pairs_b1 (K : PySem.W.Frag) (sp_l_before : Sp) (E : XK) : TS :=
    tIfS (tAnd (tTest (tOp (oNe K) (tVar 3) (tVar 4))) (tB (tCW sp_l_before [] (WD E) (tCons (tVar 0) (tCons (tVar 3) (tCons (tVar 4) (tNil))))))) (tDrop (tBM K "list" rAppend (tVar 2) (tCons (tTup (tCons (tVar 3) (tCons (tVar 4) (tNil)))) (tNil)))) (tNext)
def t_l_pairs_b2 (K : PySem.W.Frag) (sp_l_before : Sp) (E : XK) : TS :=
    tFor (iList K (tVar 1)) (gName 4) (t_l_pairs_b1 K sp_l_before E)
def t_l_pairs (K : PySem.W.Frag) (sp_l_before : Sp) (E : XK) : TS :=
    tSeq (tAsg (tLst (tNil)) (gName 2))
    (tSeq (tFor (iList K (tVar 1)) (gName 3) (t_l_pairs_b2 K sp_l_before E))
    (tRet (tVar 2)))
/-- Row.files -/
abbrev n_Row_files : List Str := ["self", "place", "file"]
def t_Row_files_e1 (K : PySem.W.Frag) (E : XK) : TE :=
    tVar 2
def t_Row_files_i1 (K : PySem.W.Frag) (E : XK) : TT :=
    tTest (tOp (oIn K true) (tVar 2) (tSl (oSl K) (tFld K (tVar 0) "looks") (tNoPart) (tPart (tVar 1))))
def t_Row_files (K : PySem.W.Frag) (E : XK) : TS :=
    tRet (tCB (rTupOf K) (tCons (tLc (iEnumT K (tCons (tFld K (tVar 0) "looks") (tNil))) (gTup K 2 (gCons (gName 1) (gCons (gName 2) (gNil)))) ((t_Row_files_i1 K  E)) (t_Row_files_e1 K  E) [1, 2]) (tNil)))
/-- same_files -/
abbrev n_same_files : List Str := ["one", "two", "file"]
def t_same_files_e1 (K : PySem.W.Frag) (sp_Row_files : Sp) (E : XK) : TE :=
    tCB rStrOf (tCons (tVar 2) (tNil))
def t_same_files_e2 (K : PySem.W.Frag) (sp_Row_files : Sp) (E : XK) : TE :=
    tCB rStrOf (tCons (tVar 2) (tNil))
def t_same_files (K : PySem.W.Frag) (sp_Row_files : Sp) (E : XK) : TS :=
    tRet (tOp (oEq K) (tCB (rSortedS K) (tCons (tLc (iSeq K (tProp (He.ga K "Row") sp_Row_files [] E0 (tVar 0))) (gName 2) (tYes) (t_same_files_e1 K sp_Row_files E) [2]) (tNil))) (tCB (rSortedS K) (tCons (tLc (iSeq K (tProp (He.ga K "Row") sp_Row_files [] E0 (tVar 1))) (gName 2) (tYes) (t_same_files_e2 K sp_Row_files E) [2]) (tNil))))
/-- is_before -/
abbrev n_is_before : List Str := ["looks", "first", "second"]
def t_is_before (K : PySem.W.Frag) (sp_first_look sp_last_look : Sp) (E : XK) : TS :=
    tRet (tOp rLtI (tCW sp_first_look [] (WD E) (tCons (tVar 0) (tCons (tVar 1) (tNil)))) (tCW sp_last_look [] (WD E) (tCons (tVar 0) (tCons (tVar 2) (tNil)))))
/-- fewer_before -/
abbrev n_fewer_before : List Str := ["one", "two", "first", "second"]
def t_fewer_before_b1 (K : PySem.W.Frag) (sp_Row_files sp_is_before : Sp) (E : XK) : TS :=
    tIfS (tAnd (tTest (tOp (oNe K) (tVar 2) (tVar 3))) (tAnd (tB (tCW sp_is_before [] (WD E) (tCons (tFld K (tVar 0) "looks") (tCons (tVar 2) (tCons (tVar 3) (tNil)))))) (tNot (tB (tCW sp_is_before [] (WD E) (tCons (tFld K (tVar 1) "looks") (tCons (tVar 2) (tCons (tVar 3) (tNil))))))))) (tRet (tC (.bl false))) (tNext)
def t_fewer_before_b2 (K : PySem.W.Frag) (sp_Row_files sp_is_before : Sp) (E : XK) : TS :=
    tFor (iSeq K (tProp (He.ga K "Row") sp_Row_files [] E0 (tVar 0))) (gName 3) (t_fewer_before_b1 K sp_Row_files sp_is_before E)
def t_fewer_before (K : PySem.W.Frag) (sp_Row_files sp_is_before : Sp) (E : XK) : TS :=
    tSeq (tFor (iSeq K (tProp (He.ga K "Row") sp_Row_files [] E0 (tVar 0))) (gName 2) (t_fewer_before_b2 K sp_Row_files sp_is_before E))
    (tRet (tC (.bl true)))
/-- Row.__le__ -/
abbrev n_Row_le : List Str := ["self", "other"]
def t_Row_le (K : PySem.W.Frag) (sp_same_files sp_fewer_before : Sp) (E : XK) : TS :=
    tSeq (tIfS (tNot (tB (tCB (rIsi K) (tCons (tVar 1) (tCons (tC (.ref (He.ga K "Row"))) (tNil)))))) (tNever) (tNext))
    (tRet (tAndV (tCW sp_same_files [] (WD E) (tCons (tVar 0) (tCons (tVar 1) (tNil)))) (tCW sp_fewer_before [] (WD E) (tCons (tVar 0) (tCons (tVar 1) (tNil))))))
/-- _law_stranger -/
abbrev n_l_stranger : List Str := ["_law_pool_here", "_law_names_here", "_law_word", "_law_letters", "_law_start", "_law_k", "_law_one"]
def t_l_stranger_b1 (K : PySem.W.Frag) (sp_l_take : Sp) (E : XK) : TS :=
    tSeq (tAsg (tOp (oAdd K) (tOp (oGet K) (tVar 3) (tOp rModI (tOp (oAdd K) (tVar 4) (tVar 5)) (tC (.int 26)))) (tSl (oSl K) (tVar 2) (tPart (tC (.int 1))) (tNoPart))) (gName 6))
    (tIfS (tTest (tOp (oIn K true) (tVar 6) (tVar 1))) (tRet (tVar 6)) (tNext))
def t_l_stranger (K : PySem.W.Frag) (sp_l_take : Sp) (E : XK) : TS :=
    tSeq (tAsg (tC (.str "q")) (gName 2))
    (tSeq (tIfS (tTest (tOp (oNe K) (tVar 1) (tLst (tNil)))) (tAsg (tOp (oGet K) (tVar 1) (tCW sp_l_take [] (WD E) (tCons (tVar 0) (tCons (tCB (oLen K) (tCons (tVar 1) (tNil))) (tNil))))) (gName 2)) (tNext))
    (tSeq (tAsg (tC (.str "abcdefghijklmnopqrstuvwxyz")) (gName 3))
    (tSeq (tAsg (tCW sp_l_take [] (WD E) (tCons (tVar 0) (tCons (tC (.int 26)) (tNil)))) (gName 4))
    (tSeq (tFor (iRng1 (tCons (tC (.int 26)) (tNil))) (gName 5) (t_l_stranger_b1 K sp_l_take E))
    (tRet (tC (.str "nobody")))))))
/-- Row.__add__ -/
abbrev n_Row_add : List Str := ["self", "other"]
def t_Row_add (K : PySem.W.Frag) (sp_Row_init : Sp) (E : XK) : TS :=
    tSeq (tIfS (tNot (tB (tCB (rIsi K) (tCons (tVar 1) (tCons (tC (.ref (He.ga K "Row"))) (tNil)))))) (tNever) (tNext))
    (tRet (tNW (He.ga K "Row") sp_Row_init [] (WD E) (tCons (tOp (oAdd K) (tFld K (tVar 0) "looks") (tFld K (tVar 1) "looks")) (tNil))))
/-- law -/
abbrev n_law : List Str := ["_law_script", "_law_pool_here", "_law_names_here", "_law_looks", "_law_k", "_law_at", "_law_others", "_law_one", "_law_two", "_law_mine", "_law_yours", "_law_first", "_law_second_here", "_law_a", "_law_b", "_law_told", "_law_new", "_law_more", "_law_name", "_law_pair"]
def t_law_b1 (K : PySem.W.Frag) (sp_l_pool sp_l_cell sp_l_names sp_l_take sp_l_second sp_Row_init sp_l_right sp_l_pairs sp_Row_le sp_l_stranger sp_Row_add : Sp) (E : XK) : TS :=
    tIfS (tTest (tOp (oNe K) (tVar 2) (tLst (tNil)))) (tSeq (tAsg (tCW sp_l_take [] (WD E) (tCons (tVar 1) (tCons (tOp (oAdd K) (tCB (oLen K) (tCons (tVar 3) (tNil))) (tC (.int 1))) (tNil)))) (gName 5))
    (tAsg (tOp (oAdd K) (tOp (oAdd K) (tSl (oSl K) (tVar 3) (tNoPart) (tPart (tVar 5))) (tLst (tCons (tOp (oGet K) (tVar 2) (tCW sp_l_take [] (WD E) (tCons (tVar 1) (tCons (tCB (oLen K) (tCons (tVar 2) (tNil))) (tNil))))) (tNil)))) (tSl (oSl K) (tVar 3) (tPart (tVar 5)) (tNoPart))) (gName 3))) (tNext)
def t_law_e1 (K : PySem.W.Frag) (sp_l_pool sp_l_cell sp_l_names sp_l_take sp_l_second sp_Row_init sp_l_right sp_l_pairs sp_Row_le sp_l_stranger sp_Row_add : Sp) (E : XK) : TE :=
    tVar 18
def t_law_i1 (K : PySem.W.Frag) (sp_l_pool sp_l_cell sp_l_names sp_l_take sp_l_second sp_Row_init sp_l_right sp_l_pairs sp_Row_le sp_l_stranger sp_Row_add : Sp) (E : XK) : TT :=
    tTest (tOp (oIn K true) (tVar 18) (tVar 3))
def t_law_e2 (K : PySem.W.Frag) (sp_l_pool sp_l_cell sp_l_names sp_l_take sp_l_second sp_Row_init sp_l_right sp_l_pairs sp_Row_le sp_l_stranger sp_Row_add : Sp) (E : XK) : TE :=
    tVar 19
def t_law_i2 (K : PySem.W.Frag) (sp_l_pool sp_l_cell sp_l_names sp_l_take sp_l_second sp_Row_init sp_l_right sp_l_pairs sp_Row_le sp_l_stranger sp_Row_add : Sp) (E : XK) : TT :=
    tTest (tOp (oIn K true) (tVar 19) (tVar 14))
def t_law_b2 (K : PySem.W.Frag) (sp_l_pool sp_l_cell sp_l_names sp_l_take sp_l_second sp_Row_init sp_l_right sp_l_pairs sp_Row_le sp_l_stranger sp_Row_add : Sp) (E : XK) : TS :=
    tSeq (tAsg (tOp (rCmpO K (He.ga K "Row") sp_Row_le) (tVar 11) (tVar 12)) (gName 15))
    (tIfS (tOr (tTest (tOp (oNe K) (tVar 15) (tOp (oEq K) (tLc (iSeq K (tVar 13)) (gName 19) ((t_law_i2 K sp_l_pool sp_l_cell sp_l_names sp_l_take sp_l_second sp_Row_init sp_l_right sp_l_pairs sp_Row_le sp_l_stranger sp_Row_add E)) (t_law_e2 K sp_l_pool sp_l_cell sp_l_names sp_l_take sp_l_second sp_Row_init sp_l_right sp_l_pairs sp_Row_le sp_l_stranger sp_Row_add E) [19]) (tLst (tNil))))) (tNot (tB (tCB (rIsi K) (tCons (tVar 15) (tCons (tC (.ty "bool")) (tNil))))))) (tRet (tC (.bl false))) (tNext))
def t_law (K : PySem.W.Frag) (sp_l_pool sp_l_cell sp_l_names sp_l_take sp_l_second sp_Row_init sp_l_right sp_l_pairs sp_Row_le sp_l_stranger sp_Row_add : Sp) (E : XK) : TS :=
    tSeq (tAsg (tCW sp_l_pool [] (WD E) (tCons (tCW sp_l_cell [] (WD E) (tCons (tVar 0) (tCons (tC (.int 0)) (tNil)))) (tNil))) (gName 1))
    (tSeq (tAsg (tCW sp_l_names [] (WD E) (tCons (tVar 1) (tCons (tCW sp_l_take [] (WD E) (tCons (tVar 1) (tCons (tC (.int 5)) (tNil)))) (tNil)))) (gName 2))
    (tSeq (tAsg (tSl (oSl K) (tVar 2) (tPart (tCW sp_l_take [] (WD E) (tCons (tVar 1) (tCons (tC (.int 2)) (tNil))))) (tNoPart)) (gName 3))
    (tSeq (tFor (iRng1 (tCons (tCW sp_l_take [] (WD E) (tCons (tVar 1) (tCons (tC (.int 7)) (tNil)))) (tNil))) (gName 4) (t_law_b1 K sp_l_pool sp_l_cell sp_l_names sp_l_take sp_l_second sp_Row_init sp_l_right sp_l_pairs sp_Row_le sp_l_stranger sp_Row_add E))
    (tSeq (tAsg (tOp (oAdd K) (tVar 3) (tLc (iList K (tVar 2)) (gName 18) ((t_law_i1 K sp_l_pool sp_l_cell sp_l_names sp_l_take sp_l_second sp_Row_init sp_l_right sp_l_pairs sp_Row_le sp_l_stranger sp_Row_add E)) (t_law_e1 K sp_l_pool sp_l_cell sp_l_names sp_l_take sp_l_second sp_Row_init sp_l_right sp_l_pairs sp_Row_le sp_l_stranger sp_Row_add E) [18])) (gName 3))
    (tSeq (tAsg (tCW sp_l_pool [] (WD E) (tCons (tCW sp_l_cell [] (WD E) (tCons (tVar 0) (tCons (tC (.int 1)) (tNil)))) (tNil))) (gName 1))
    (tSeq (tAsg (tCW sp_l_second [] (WD E) (tCons (tVar 1) (tCons (tVar 3) (tCons (tVar 2) (tNil))))) (gName 6))
    (tSeq (tAsg (tNW (He.ga K "Row") sp_Row_init [] (WD E) (tCons (tVar 3) (tNil))) (gName 7))
    (tSeq (tAsg (tNW (He.ga K "Row") sp_Row_init [] (WD E) (tCons (tVar 6) (tNil))) (gName 8))
    (tSeq (tIfS (tOr (tNot (tB (tCW sp_l_right [] (WD E) (tCons (tVar 7) (tCons (tVar 3) (tCons (tVar 2) (tNil))))))) (tNot (tB (tCW sp_l_right [] (WD E) (tCons (tVar 8) (tCons (tVar 6) (tCons (tVar 2) (tNil)))))))) (tRet (tC (.bl false))) (tNext))
    (tSeq (tAsg (tCW sp_l_pairs [] (WD E) (tCons (tVar 3) (tCons (tVar 2) (tNil)))) (gName 9))
    (tSeq (tAsg (tCW sp_l_pairs [] (WD E) (tCons (tVar 6) (tCons (tVar 2) (tNil)))) (gName 10))
    (tSeq (tFor (iList K (tLst (tCons (tTup (tCons (tVar 7) (tCons (tVar 8) (tCons (tVar 9) (tCons (tVar 10) (tNil)))))) (tCons (tTup (tCons (tVar 8) (tCons (tVar 7) (tCons (tVar 10) (tCons (tVar 9) (tNil)))))) (tCons (tTup (tCons (tVar 7) (tCons (tVar 7) (tCons (tVar 9) (tCons (tVar 9) (tNil)))))) (tNil)))))) (gTup K 4 (gCons (gName 11) (gCons (gName 12) (gCons (gName 13) (gCons (gName 14) (gNil)))))) (t_law_b2 K sp_l_pool sp_l_cell sp_l_names sp_l_take sp_l_second sp_Row_init sp_l_right sp_l_pairs sp_Row_le sp_l_stranger sp_Row_add E))
    (tSeq (tAsg (tCW sp_l_stranger [] (WD E) (tCons (tVar 1) (tCons (tVar 2) (tNil)))) (gName 16))
    (tSeq (tAsg (tBinO (He.ga K "Row") sp_Row_add (WD E) (tVar 7) (tNW (He.ga K "Row") sp_Row_init [] (WD E) (tCons (tLst (tCons (tVar 16) (tNil))) (tNil)))) (gName 17))
    (tRet (tAndV (tNotV (tOp (rCmpO K (He.ga K "Row") sp_Row_le) (tVar 7) (tVar 17))) (tAndV (tNotV (tOp (rCmpO K (He.ga K "Row") sp_Row_le) (tVar 17) (tVar 7))) (tAndV (tOp (rCmpO K (He.ga K "Row") sp_Row_le) (tVar 17) (tVar 17)) (tOp (rCmpO K (He.ga K "Row") sp_Row_le) (tNW (He.ga K "Row") sp_Row_init [] (WD E) (tCons (tLst (tNil)) (tNil))) (tNW (He.ga K "Row") sp_Row_init [] (WD E) (tCons (tLst (tNil)) (tNil))))))))))))))))))))))
/-! ## promises -/
section
local macro_rules | `(tactic| walk_at "rd") => `(tactic| try simp (maxSteps := 4000000) only [tSeq, tAsg, gName, gSub, gTup, gCons, gNil, tIfS, tTest, tB, tOp, tUn, tVar, tC, tCB, tCons, tNil, tRet, tRetN, tDrop, tNext, tCont, tBreak, tLst, tTup, tNot, tAnd, tOr, tNotV, tAndV, tOrV, tIf, tCW, tMW, tNW, tSl, tPart, tNoPart, tBM, tBM0, tFld, sFld, tRs1, tRs2, WE, tTryAs, tXf, tTix, tRevA, iEnumT, iEnum, iRng2, tOpO1, tOpO2, tBinO, tBinL, tMulR, tCmpO, tInO, tProp, tYes, for_eq, lc_eq, wipe, iRng1, iList, iTup, iSeq, iStr, start, List.map_cons, List.map_nil, List.length_cons, List.length_nil, List.cons_append, List.nil_append, List.append_nil, List.replicate_succ, List.replicate_zero, Nat.reduceAdd, Nat.reduceSub, Nat.sub_self, Nat.zero_add, List.getElem?_cons_zero, List.getElem?_cons_succ, List.set_cons_zero, List.set_cons_succ, Option.some.injEq, exists_eq_left', V.ref.injEq, V.int.injEq, V.bl.injEq, V.str.injEq, decide_eq_true_eq, true_and, and_true, if_true, if_false, Bool.false_eq_true, Bool.not_true, Bool.not_false, s_addI, s_addS, s_subI, s_mulI, s_modI, s_divI, s_powI, s_ltI, s_leI, s_gtI, s_geI, s_int1, s_slS, s_lenS])
/-! ### the draws -/
/-- a pool at p, from which at most n times was drawn -/
def PoolAt (H : Hp) (p : Addr) (n : Nat) : Prop := ∃ x y z : Int, H p = some (.lst [.int x, .int y, .int z]) ∧ 0 ≤ x ∧ 0 ≤ y ∧ y < 1000000007 ∧ 0 ≤ z ∧ z ≤ n
/-- only p has changed | all that stood stands, but p -/
def Alt (p : Addr) (H H' : Hp) : Prop := ∀ a, a ≠ p → H' a = H a
def But (p : Addr) (H H' : Hp) : Prop := ∀ a u, a ≠ p → H a = some u → H' a = some u
theorem Alt.but {p : Addr} {H H' : Hp} (h : Alt p H H') : But p H H' := fun a u n e => (h a n).trans e
theorem But.trans {p : Addr} {H H1 H2 : Hp} (a : But p H H1) (b : But p H1 H2) : But p H H2 := fun c u n e => b c u n (a c u n e)
theorem But.refl {p : Addr} {H : Hp} : But p H H := fun _ _ _ e => e
theorem But.new {p l : Addr} {o : HO} {H H' : Hp} (h : But p H H') (hl : H' l = none) : But p H (upd H' l o) := fun c u n e => at_new hl (h c u n e)
/-- an object that was new may change -/
theorem But.mut {p l : Addr} {o : HO} {H H' : Hp} (h : But p H H') (hl : H l = none) : But p H (upd H' l o) := fun c u n e => at_set (ne_of_none e hl) (h c u n e)
theorem But.of {p : Addr} {H H' : Hp} (h : Same H H') : But p H H' := fun a u _ e => h a u e
theorem PoolAt.mono {H : Hp} {p : Addr} {n m : Nat} (h : PoolAt H p n) (hm : n ≤ m) : PoolAt H p m := by
  obtain ⟨x, y, z, a, b, c, d, e, f⟩ := h
  exact ⟨x, y, z, a, b, c, d, e, by omega⟩
theorem PoolAt.ex {H : Hp} {p : Addr} {n : Nat} (h : PoolAt H p n) : ∃ u, H p = some u := by
  obtain ⟨x, y, z, a, _⟩ := h
  exact ⟨_, a⟩
theorem PoolAt.new {H : Hp} {p l : Addr} {n : Nat} {o : HO} (h : PoolAt H p n) (hl : H l = none) : PoolAt (upd H l o) p n := by
  obtain ⟨x, y, z, a, r⟩ := h
  exact ⟨x, y, z, at_new hl a, r⟩
theorem PoolAt.set {H : Hp} {p l : Addr} {n : Nat} {o : HO} (h : PoolAt H p n) (hl : p ≠ l) : PoolAt (upd H l o) p n := by
  obtain ⟨x, y, z, a, r⟩ := h
  exact ⟨x, y, z, at_set hl a, r⟩
theorem PoolAt.keep {H H' : Hp} {p : Addr} {n : Nat} (h : PoolAt H p n) (k : ∀ u, H p = some u → H' p = some u) : PoolAt H' p n := by
  obtain ⟨x, y, z, a, r⟩ := h
  exact ⟨x, y, z, k _ a, r⟩

def sp_l_cell (K : PySem.W.Frag) : Sp := fun vs H Q _ => ∃ (a : Addr) (ns : List Int) (k : Nat), vs = [.ref a, .int k] ∧ SqL K H a (ns.map V.int) ∧ ∀ i : Int, Q (.int i) H
theorem len_l_cell {K : PySem.W.Frag} : ∀ vs H Q E, sp_l_cell K vs H Q E → vs.length = 2 := by rintro _ _ _ _ ⟨_, _, _, rfl, _⟩; rfl
theorem pu_l_cell {K : PySem.W.Frag} : ∀ vs H Q E, sp_l_cell K vs H Q E → t_l_cell K E { nx := fun _ H' => Q .non H', rt := Q } (start ["_law_script", "_law_k"] vs) H := by
  rintro _ H Q E ⟨a, ns, k, rfl, hS, q⟩
  unfold t_l_cell
  walk_at "rd"
  refine lenL hS ?_
  walk_at "rd"
  split
  · rename_i c
    rw [List.length_map] at c
    have hk : k < ns.length := by omega
    refine getL (v := .int ns[k]) hS (atI_nat ?_) (q _)
    rw [List.getElem?_map, List.getElem?_eq_getElem hk]
    rfl
  · exact q 0

def sp_l_pool : Sp := fun vs H Q _ => ∃ i : Int, vs = [.int i] ∧ ∀ (p : Addr) (o : HO), H p = none → PoolAt (upd H p o) p 0 → Q (.ref p) (upd H p o)
theorem len_l_pool : ∀ vs H Q E, sp_l_pool vs H Q E → vs.length = 1 := by rintro _ _ _ _ ⟨_, rfl, _⟩; rfl
theorem pu_l_pool {K : PySem.W.Frag} : ∀ vs H Q E, sp_l_pool vs H Q E → t_l_pool K E { nx := fun _ H' => Q .non H', rt := Q } (start ["_law_cell_here", "_law_folded"] vs) H := by
  rintro _ H Q E ⟨i, rfl, q⟩
  unfold t_l_pool
  walk_at "rd"
  have e3 : (3 : Nat) ≤ sizeLine := by decide
  have key : ∀ f x : Int, 0 ≤ x → ∀ p, H p = none → Q (.ref p) (upd H p (.lst [.int x, .int (f % 1000000007), .int 0])) := fun f x hx p hp =>
    q p _ hp ⟨_, _, _, upd_same, hx, Int.emod_nonneg f (by decide), Int.emod_lt_of_pos f (by decide), by decide, by decide⟩
  refine ⟨.inl ⟨by decide, by decide⟩, ?_⟩
  split
  · refine ⟨.inl ⟨by decide, by decide⟩, ⟨by decide, by decide, by decide⟩, ?_⟩
    split
    · exact ⟨by decide, e3, key _ _ (by omega)⟩
    · exact ⟨by decide, e3, key _ _ (by omega)⟩
  · refine ⟨⟨by decide, by decide, by decide⟩, ?_⟩
    split
    · exact ⟨by decide, e3, key _ _ (by omega)⟩
    · exact ⟨by decide, e3, key _ _ (by omega)⟩

def sp_l_take : Sp := fun vs H Q _ => ∃ (p : Addr) (m : Int) (n : Nat), vs = [.ref p, .int m] ∧ PoolAt H p n ∧ n ≤ 1000000 ∧ 0 < m ∧ m < 1000000000 ∧ ∀ (r : Int) (H' : Hp), 0 ≤ r → r < m → PoolAt H' p (n + 1) → Alt p H H' → Q (.int r) H'
theorem len_l_take : ∀ vs H Q E, sp_l_take vs H Q E → vs.length = 2 := by rintro _ _ _ _ ⟨_, _, _, rfl, _⟩; rfl
theorem pu_l_take {K : PySem.W.Frag} : ∀ vs H Q E, sp_l_take vs H Q E → t_l_take K E { nx := fun _ H' => Q .non H', rt := Q } (start ["_law_pool_here", "_law_many", "_law_draw", "_law_mixed"] vs) H := by
  rintro _ H Q E ⟨p, m, n, rfl, ⟨x, y, z, hp, h0, h1, h2, h3, h4⟩, hn, hm0, hm1, q⟩
  have alt : ∀ o, Alt p H (upd H p o) := fun o a ha => upd_ne ha
  unfold t_l_take
  walk_at "rd"
  refine getL (v := .int x) (SqL.of hp) rfl ?_
  walk_at "rd"
  split
  · refine getL (v := .int x) (SqL.of hp) rfl ?_
    walk_at "rd"
    refine ⟨hm0, getL (v := .int x) (SqL.of hp) rfl ?_⟩
    walk_at "rd"
    refine ⟨⟨hm0, by omega⟩, setL (k := 0) hp rfl ?_⟩
    exact q _ _ (Int.emod_nonneg _ (by omega)) (Int.emod_lt_of_pos _ hm0) ⟨_, _, _, upd_same, Int.ediv_nonneg h0 (by omega), h1, h2, h3, by omega⟩ (alt _)
  · refine getL (v := .int z) (SqL.of hp) rfl ?_
    walk_at "rd"
    refine setL (k := 2) hp rfl ?_
    have g1 : upd H p (.lst [.int x, .int y, .int (z + 1)]) p = some (.lst [.int x, .int y, .int (z + 1)]) := upd_same
    refine getL (v := .int y) (SqL.of g1) rfl (getL (v := .int (z + 1)) (SqL.of g1) rfl ?_)
    walk_at "rd"
    refine ⟨.inl ⟨by decide, by decide⟩, ⟨by decide, by decide, ?_⟩, by decide, getL (v := .int (z + 1)) (SqL.of g1) rfl ?_⟩
    · have : (2 : Nat) ^ 64 = 18446744073709551616 := by decide
      omega
    · walk_at "rd"
      refine ⟨.inr ⟨by decide, by decide⟩, by decide, hm0, ?_⟩
      exact q _ _ (Int.emod_nonneg _ (by omega)) (Int.emod_lt_of_pos _ hm0) ⟨_, _, _, upd_same, h0, h1, h2, by omega, by omega⟩ (alt _)
/-! ### texts as lists of signs -/
def cl (s : Str) : List Nat := s.cps.toList
theorem cl_inj {s t : Str} (h : cl s = cl t) : s = t := by
  cases s; cases t; simp only [cl] at h; rw [Array.toList_inj.mp h]
theorem cl_app (a b : Str) : cl (a ++ b) = cl a ++ cl b := Array.toList_append
theorem cl_len (s : Str) : s.length = (cl s).length := rfl
theorem cl_one (c : Nat) : cl ⟨#[c]⟩ = [c] := rfl
theorem cl_hi (s : Str) (k : Nat) : cl (cutS s none (some (k : Int))) = (cl s).take k := by
  show (((cl s).drop (HT.sIx s.length 0 none)).take (HT.sIx s.length s.length (some (k : Int)) - HT.sIx s.length 0 none)).toArray.toList = _
  rw [HT.sIx_none, HT.sIx_nat, List.drop_zero, Nat.sub_zero, List.toList_toArray, cl_len, List.take_eq_take_iff]
  omega
theorem cl_lo (s : Str) (k : Nat) : cl (cutS s (some (k : Int)) none) = (cl s).drop k := by
  show (((cl s).drop (HT.sIx s.length 0 (some (k : Int)))).take (HT.sIx s.length s.length none - HT.sIx s.length 0 (some (k : Int)))).toArray.toList = _
  rw [HT.sIx_none, HT.sIx_nat, List.toList_toArray, cl_len]
  by_cases h : k ≤ (cl s).length
  · rw [Nat.min_eq_left h, List.take_of_length_le]
    rw [List.length_drop]; omega
  · rw [Nat.min_eq_right (by omega), List.drop_eq_nil_of_le (by omega : (cl s).length ≤ (cl s).length), List.drop_eq_nil_of_le (by omega : (cl s).length ≤ k), List.take_nil]
def Lt (c : Nat) : Prop := 97 ≤ c ∧ c < 123
def Sg (c : Nat) : Prop := (97 ≤ c ∧ c < 123) ∨ (48 ≤ c ∧ c < 58)
def NmL (l : List Nat) : Prop := 1 ≤ l.length ∧ l.length ≤ 8 ∧ (∀ c, l[0]? = some c → Lt c) ∧ ∀ c ∈ l, Sg c
/-- a name -/
def isNm (s : Str) : Prop := NmL (cl s)
abbrev letS : Str := "abcdefghijklmnopqrstuvwxyz"
abbrev sgS : Str := "abcdefghijklmnopqrstuvwxyz0123456789"
abbrev dgS : Str := "0123456789"
theorem cl_let : cl letS = List.range' 97 26 := by decide
theorem cl_dg : cl dgS = List.range' 48 10 := by decide
theorem cl_sg : cl sgS = List.range' 97 26 ++ List.range' 48 10 := by decide +kernel
theorem sg_eq : letS ++ dgS = sgS := cl_inj (by rw [cl_app, cl_let, cl_dg, cl_sg])
theorem mem_let {c : Nat} : c ∈ cl letS ↔ Lt c := by rw [cl_let, List.mem_range'_1]; rfl
theorem mem_sg {c : Nat} : c ∈ cl sgS ↔ Sg c := by rw [cl_sg, List.mem_append, List.mem_range'_1, List.mem_range'_1]; rfl
def sgC (i : Nat) : Nat := if i < 26 then 97 + i else 22 + i
theorem let_at {i : Nat} (h : i < 26) : (cl letS)[i]? = some (97 + i) := by
  rw [cl_let, List.getElem?_range' (by omega)]; simp
theorem sg_at {i : Nat} (h : i < 36) : (cl sgS)[i]? = some (sgC i) := by
  rw [cl_sg]
  unfold sgC
  split
  · rename_i c
    rw [List.getElem?_append_left (by simpa using c), List.getElem?_range' c]; simp
  · rename_i c
    rw [List.getElem?_append_right (by simp; omega), List.getElem?_range' (by simp; omega)]; simp; omega
theorem sgC_sg {i : Nat} (h : i < 36) : Sg (sgC i) := by unfold sgC Sg; split <;> omega
theorem let_lt {i : Nat} (h : i < 26) : Lt (97 + i) := by unfold Lt; omega
theorem Lt.sg {c : Nat} (h : Lt c) : Sg c := .inl h
theorem at_nat {α : Type} {xs : List α} {i : Int} {n : Nat} {v : α} (h0 : 0 ≤ i) (h : xs[i.toNat]? = some v) : atI xs i = some v := by
  have : i = (i.toNat : Int) := by omega
  rw [this]; exact atI_nat h
theorem small8 {s : Str} (h : (cl s).length ≤ 40) : s.length ≤ sizeLine := by
  have : (40 : Nat) ≤ sizeLine := by decide
  rw [cl_len]; omega
theorem small2 {s t : Str} (h : (cl s).length + (cl t).length ≤ 40) : s.length + t.length ≤ sizeLine := by
  have : (40 : Nat) ≤ sizeLine := by decide
  rw [cl_len, cl_len]; omega

/-! ### drawn names -/
def sp_l_names : Sp := fun vs H Q _ => ∃ (p : Addr) (m n : Nat), vs = [.ref p, .int m] ∧ PoolAt H p n ∧ n ≤ 999900 ∧ m ≤ 8 ∧
  ∀ (r : Addr) (ss : List Str) (H' : Hp), H r = none → H' r = some (.lst (ss.map V.str)) → ss.length = m → ss.Nodup → (∀ s ∈ ss, isNm s) → PoolAt H' p (n + 20) → But p H H' → Q (.ref r) H'
theorem len_l_names : ∀ vs H Q E, sp_l_names vs H Q E → vs.length = 2 := by rintro _ _ _ _ ⟨_, _, _, rfl, _⟩; rfl
theorem pu_l_names {K : PySem.W.Frag} : ∀ vs H Q E, sp_l_names vs H Q E → t_l_names K sp_l_take E { nx := fun _ H' => Q .non H', rt := Q } (start n_l_names vs) H := by
  rintro _ H Q E ⟨p, m, n, rfl, hp, hn, hm, q⟩
  unfold t_l_names n_l_names
  walk_at "rd"
  refine ⟨by decide, ?_⟩
  rw [sg_eq]
  refine ⟨p, 26, n, rfl, hp, by omega, by decide, by decide, fun r H1 r0 r1 hp1 a1 => ?_⟩
  refine getS (c := 97 + r.toNat) (by decide) (at_nat (n := 0) r0 (let_at (by omega))) ?_
  walk_at "rd"
  refine ⟨7, rfl, by decide, by decide, ?_⟩
  refine fg walk_range (fun i σ H' => ∃ (w : Str) (x5 : Option V), σ = [some (.ref p), some (.int m), some (.str letS), some (.str sgS), some (.str w), x5, none, none, none, none, none, none] ∧ (cl w).length = i + 1 ∧ (∀ c, (cl w)[0]? = some c → Lt c) ∧ (∀ c ∈ cl w, Sg c) ∧ PoolAt H' p (n + 1 + i) ∧ Alt p H H')
    ⟨_, _, rfl, rfl, by intro c h; cases h; exact let_lt (by omega), by intro c h; rw [cl_one, List.mem_singleton] at h; subst h; exact (let_lt (by omega)).sg, hp1, a1⟩ (fun _ _ _ _ _ => trivial) ?_ ?_
  · rintro i x _ H2 _ hi ⟨w, x5, rfl, w1, w2, w3, hp2, a2⟩ ⟨rfl, rfl⟩
    unfold t_l_names_b1
    walk_at "rd"
    refine ⟨p, 36, n + 1 + i, rfl, hp2, by omega, by decide, by decide, fun r H3 r0 r1 hp3 a3 => ?_⟩
    refine getS (c := sgC r.toNat) (by decide) (at_nat (n := 0) r0 (sg_at (by omega))) ?_
    walk_at "rd"
    have e : cl (w ++ (⟨#[sgC r.toNat]⟩ : Str)) = cl w ++ [sgC r.toNat] := cl_app _ _
    refine ⟨small2 (by rw [cl_one, List.length_singleton]; omega), _, _, rfl, ?_, ?_, ?_, hp3, fun a ha => (a3 a ha).trans (a2 a ha)⟩
    · rw [e, List.length_append, List.length_singleton, w1]
    · rw [e, List.getElem?_append_left (by omega)]; exact w2
    · intro c h
      rw [e, List.mem_append, List.mem_singleton] at h
      rcases h with h | h
      · exact w3 c h
      · subst h; exact sgC_sg (by omega)
  · rintro _ H2 ⟨w, x5, rfl, w1, w2, w3, hp2, a2⟩
    walk_at "rd"
    refine ⟨p, 3, n + 1 + 7, rfl, hp2, by omega, by decide, by decide, fun r H3 r0 r1 hp3 a3 => ?_⟩
    refine eqI ?_
    walk_at "rd"
    have a13 : Alt p H H3 := fun a ha => (a3 a ha).trans (a2 a ha)
    have z8 : (8 : Nat) ≤ sizeLine := by decide
    split
    · refine ⟨m, rfl, by omega, by omega, ?_⟩
      have wn : ∀ k, k < 8 → isNm (cutS w none (some ((k + 1 : Nat) : Int))) := by
        intro k hk
        unfold isNm
        rw [cl_hi]
        refine ⟨by rw [List.length_take]; omega, by rw [List.length_take]; omega, ?_, fun c hc => w3 c (List.mem_of_mem_take hc)⟩
        rw [List.getElem?_take_of_lt (by omega)]; exact w2
      refine lg walk_range (fun D i H' => H' D = some (.lst (((List.range i).map fun (k : Nat) => cutS w none (some ((k + 1 : Nat) : Int))).map V.str)) ∧ Same H3 H')
        (fun D hD => ⟨upd_same, Same.new hD⟩) (fun _ _ _ _ _ _ => trivial) ?_ ?_
      · rintro D hD i x H4 _ hi ⟨h4, s4⟩ ⟨rfl, rfl⟩
        unfold t_l_names_e1
        walk_at "rd"
        refine ⟨small8 (by omega), _, h4, by rw [List.length_map, List.length_map, List.length_range]; omega, ?_, fun a u e => at_set (fun e2 => by rw [e2, hD] at e; cases e) (s4 a u e)⟩
        rw [upd_same, List.range_succ, List.map_append, List.map_append, Int.zero_add]
        rfl
      · rintro D hD H4 ⟨h4, s4⟩
        have D0 : H D = none := by
          by_cases e : D = p
          · obtain ⟨u, hu⟩ := hp3.ex; rw [← e, hD] at hu; cases hu
          · rw [← a13 D e]; exact hD
        rw [Int.toNat_natCast] at h4
        refine q D _ H4 D0 h4 (by rw [List.length_map, List.length_range]) ?_ ?_ ((hp3.keep (s4 _)).mono (by omega)) fun a u ne e => s4 a u ((a13 a ne).trans e)
        · refine List.pairwise_map.mpr (List.Pairwise.imp_of_mem ?_ List.nodup_range)
          intro a b ha hb ne e
          rw [List.mem_range] at ha hb
          have := congrArg (fun s => (cl s).length) e
          simp only [cl_hi, List.length_take] at this
          omega
        · intro s hs
          obtain ⟨k, hk, rfl⟩ := List.mem_map.mp hs
          rw [List.mem_range] at hk
          exact wn k (by omega)
    · refine ⟨p, 8, n + 9, rfl, hp3, by omega, by decide, by decide, fun r8 H4 r80 r81 hp4 a4 => ?_⟩
      walk_at "rd"
      have er8 : r8 = (r8.toNat : Int) := by omega
      rw [er8]
      generalize hk8 : r8.toNat = k8 at *
      have k8l : k8 < 8 := by omega
      have e6 : cl (cutS w none (some (k8 : Int))) = (cl w).take k8 := cl_hi _ _
      generalize cutS w none (some (k8 : Int)) = st at *
      have sl : (cl st).length = k8 := by rw [e6, List.length_take]; omega
      have ssg : ∀ c ∈ cl st, Sg c := fun c h => w3 c (List.mem_of_mem_take (e6 ▸ h))
      have sf : ∀ c, (cl st)[0]? = some c → Lt c := by
        intro c h
        have h0 : 0 < (cl st).length := (List.getElem?_eq_some_iff.mp h).1
        rw [e6, List.getElem?_take_of_lt (by omega)] at h
        exact w2 c h
      refine ⟨small8 (by omega), small8 (by omega), ?_⟩
      refine ⟨p, _, n + 10, rfl, hp4, by omega, by rw [cl_len]; omega, by rw [cl_len]; omega, fun pl H5 pl0 pl1 hp5 a5 => ?_⟩
      rw [cl_len, sl] at pl1
      walk_at "rd"
      have a15 : Alt p H H5 := fun a ha => (a5 a ha).trans ((a4 a ha).trans (a13 a ha))
      refine eqI ?_
      walk_at "rd"
      have key : ∀ (told : Str) (N : Nat) (f : Nat → Nat), (cl told).length = N → N ≤ 36 → (∀ a b, a < 8 → b < 8 → ∀ x : Nat, (x + 7 * a) % N = (x + 7 * b) % N → a = b) → (∀ i, i < N → (cl told)[i]? = some (f i)) → (∀ i j, i < N → j < N → f i = f j → i = j) → (∀ i, i < N → Sg (f i)) → (pl = 0 → ∀ i, i < N → Lt (f i)) → 0 < N →
          ∀ (x : Int) (H6 : Hp) (A : Addr), 0 ≤ x → PoolAt H6 p (n + 12) → Alt p H5 H6 → H6 A = none → FG (Itr 0 (m : Int).toNat) (gName 5) (t_l_names_b2 K sp_l_take E) { nx := tRet (tVar 10) { nx := fun x H' => Q V.non H', rt := Q }, rt := Q }
            [some (V.ref p), some (V.int ↑m), some (V.str letS), some (V.str sgS), some (V.str w), x5, some (V.str st), some (V.int pl), some (V.str told), some (.int x), some (V.ref A), none] (upd H6 A (HO.lst [])) := by
        intro told N f tl N36 inj7 tat finj fsg flt N0 x H6 A x0 hp6 a6 hA
        have a16 : Alt p H H6 := fun a ha => (a6 a ha).trans (a15 a ha)
        have A0 : H A = none := by
          by_cases e : A = p
          · obtain ⟨u, hu⟩ := hp6.ex; rw [← e, hA] at hu; cases hu
          · rw [← a16 A e]; exact hA
        have Ap : p ≠ A := fun e => by obtain ⟨u, hu⟩ := hp6.ex; rw [e, hA] at hu; cases hu
        rw [Int.toNat_natCast]
        have epl : pl = (pl.toNat : Int) := by omega
        have ex : x = (x.toNat : Int) := by omega
        let sg : Nat → Nat := fun k => (x.toNat + 7 * k) % N
        have sgl : ∀ k, sg k < N := fun k => Nat.mod_lt _ N0
        let nm : Nat → Str := fun k => (cutS st none (some pl) ++ (⟨#[f (sg k)]⟩ : Str)) ++ cutS st (some pl) none
        have enm : ∀ k, cl (nm k) = ((cl st).take pl.toNat ++ [f (sg k)]) ++ (cl st).drop pl.toNat := by
          intro k
          show cl ((cutS st none (some pl) ++ (⟨#[f (sg k)]⟩ : Str)) ++ cutS st (some pl) none) = _
          rw [cl_app, cl_app, cl_one]
          rw [epl, cl_hi, cl_lo, Int.toNat_natCast]
        have lnm : ∀ k, (cl (nm k)).length = k8 + 1 := by
          intro k
          rw [enm, List.length_append, List.length_append, List.length_take, List.length_drop, List.length_singleton]
          omega
        refine fg walk_range (fun i σ H' => ∃ (x5 x11 : Option V), σ = [some (V.ref p), some (V.int ↑m), some (V.str letS), some (V.str sgS), some (V.str w), x5, some (V.str st), some (V.int pl), some (V.str told), some (.int x), some (V.ref A), x11] ∧
            H' A = some (.lst (((List.range i).map nm).map V.str)) ∧ PoolAt H' p (n + 12) ∧ But p H H') ⟨_, _, rfl, upd_same, hp6.new hA, a16.but.new hA⟩ (fun _ _ _ _ _ => trivial) ?_ ?_
        · rintro i x _ H7 _ hi ⟨x5, x11, rfl, h7, hp7, b7⟩ ⟨rfl, rfl⟩
          unfold t_l_names_b2
          walk_at "rd"
          refine ⟨.inl ⟨by decide, by decide⟩, small8 (by omega), by rw [cl_len]; omega, ?_⟩
          refine getS (c := f (sg i)) (small8 (by omega)) ?_ ?_
          · have : (x + 7 * (0 + (i : Int))) % (told.length : Int) = ((sg i : Nat) : Int) := by
              show _ = (((x.toNat + 7 * i) % N : Nat) : Int)
              rw [cl_len, tl, Int.natCast_emod]
              congr 1
              omega
            rw [this]
            exact atI_nat (tat _ (sgl i))
          · walk_at "rd"
            have c1 : (cl (cutS st none (some pl))).length ≤ 8 := by rw [epl, cl_hi, List.length_take]; omega
            have c2 : (cl (cutS st (some pl) none)).length ≤ 8 := by rw [epl, cl_lo, List.length_drop]; omega
            refine ⟨ty_list (SqL.of h7), small8 (by omega), small2 (by rw [cl_one, List.length_singleton]; omega), small8 (by omega), small2 (by rw [cl_app, List.length_append, cl_one, List.length_singleton]; omega), ?_⟩
            refine ⟨A, _, _, rfl, rfl, h7, by rw [List.length_map, List.length_map, List.length_range]; omega, _, _, rfl, ?_, hp7.set Ap, b7.mut A0⟩
            rw [upd_same, List.range_succ, List.map_append, List.map_append]
            rfl
        · rintro _ H7 ⟨x5, x11, rfl, h7, hp7, b7⟩
          walk_at "rd"
          refine q A _ H7 A0 h7 (by rw [List.length_map, List.length_range]) ?_ ?_ (hp7.mono (by omega)) b7
          · refine List.pairwise_map.mpr (List.Pairwise.imp_of_mem ?_ List.nodup_range)
            intro a b ha hb ne e
            rw [List.mem_range] at ha hb
            have e2 := congrArg cl e
            rw [enm, enm] at e2
            have e3 := List.append_cancel_left (List.append_cancel_right e2)
            have e4 : f (sg a) = f (sg b) := (List.cons.inj e3).1
            exact ne (inj7 a b (by omega) (by omega) _ (finj _ _ (sgl a) (sgl b) e4))
          · intro s hs
            obtain ⟨k, hk, rfl⟩ := List.mem_map.mp hs
            unfold isNm
            refine ⟨by rw [lnm]; omega, by rw [lnm]; omega, ?_, ?_⟩
            · intro c hc
              rw [enm] at hc
              by_cases e0 : pl = 0
              · rw [show pl.toNat = 0 by omega, List.take_zero, List.nil_append] at hc
                cases hc
                exact flt e0 _ (sgl k)
              · have h1 : 0 < ((cl st).take pl.toNat).length := by rw [List.length_take]; omega
                rw [List.append_assoc, List.getElem?_append_left h1, List.getElem?_take_of_lt (by omega)] at hc
                exact sf c hc
            · intro c hc
              rw [enm, List.mem_append, List.mem_append, List.mem_singleton] at hc
              rcases hc with (hc | hc) | hc
              · exact ssg c (List.mem_of_mem_take hc)
              · subst hc; exact fsg _ (sgl k)
              · exact ssg c (List.mem_of_mem_drop hc)
      split
      · refine ⟨p, 36, n + 11, rfl, hp5, by omega, by decide, by decide, fun x H6 x0 x1 hp6 a6 => ⟨by omega, fun A hA => ⟨m, rfl, by omega, by omega, ?_⟩⟩⟩
        exact key letS 26 (fun i => 97 + i) (by decide) (by decide) (by intro a b ha hb x h; omega) (fun i h => let_at h) (fun i j _ _ h => by omega) (fun i h => (let_lt h).sg) (fun _ i h => let_lt h) (by decide) x H6 A x0 hp6 a6 hA
      · rename_i h0
        refine ⟨p, 36, n + 11, rfl, hp5, by omega, by decide, by decide, fun x H6 x0 x1 hp6 a6 => ⟨by omega, fun A hA => ⟨m, rfl, by omega, by omega, ?_⟩⟩⟩
        exact key sgS 36 sgC (by decide +kernel) (by decide) (by intro a b ha hb x h; omega) (fun i h => sg_at h) (fun i j _ _ h => by unfold sgC at h; split at h <;> split at h <;> omega) (fun i h => sgC_sg h) (fun e => absurd e h0) (by decide) x H6 A x0 hp6 a6 hA
/-! ### lists of texts -/
theorem strOk_nm {s : Str} (h : isNm s) : PyData.strOk s = true := by
  unfold PyData.strOk
  rw [Array.all_eq_true']
  intro c hc
  have := h.2.2.2 c (Array.mem_toList_iff.mpr hc)
  unfold Sg at this
  simp only [decide_eq_true_eq]
  omega
theorem DpAll.strs {K : PySem.W.Frag} {H : Hp} : ∀ ss : List Str, DpAll K H (ss.map V.str) (ss.map PyData.str)
  | [] => .nil
  | s :: ss => .cons (.str s) (DpAll.strs ss)
theorem can_strs : ∀ {ss : List Str}, (∀ s ∈ ss, isNm s) → PyData.canLayAll0 (ss.map PyData.str) = true
  | [], _ => rfl
  | s :: ss, h => by
    show (PyData.strOk s && PyData.canLayAll0 (ss.map PyData.str)) = true
    rw [strOk_nm (h s List.mem_cons_self), can_strs fun t ht => h t (List.mem_cons_of_mem _ ht)]; rfl
theorem depth_strs : ∀ ss : List Str, PyData.depthAll (ss.map PyData.str) = 0
  | [] => rfl
  | s :: ss => by
    show max 0 (PyData.depthAll (ss.map PyData.str)) = 0
    rw [depth_strs ss]; rfl
theorem shaped_strs {ss : List Str} (h : ∀ s ∈ ss, isNm s) : SeqAt.shaped (.list (ss.map PyData.str)) = true := by
  show (PyData.canLayAll0 (ss.map PyData.str) && decide (PyData.depthAll (ss.map PyData.str) + 1 ≤ 64)) = true
  rw [can_strs h, depth_strs]; rfl
theorem shapedT_strs {ss : List Str} (h : ∀ s ∈ ss, isNm s) : SeqAt.shaped (.tuple (ss.map PyData.str)) = true := by
  show (PyData.canLayAll0 (ss.map PyData.str) && decide (PyData.depthAll (ss.map PyData.str) + 1 ≤ 64)) = true
  rw [can_strs h, depth_strs]; rfl
theorem flat_strs (ss : List Str) : (ss.map V.str).all flatV = true := by
  rw [List.all_eq_true]
  intro x hx
  obtain ⟨s, _, rfl⟩ := List.mem_map.mp hx
  rfl
theorem in_strs {s : Str} {ss : List Str} : inV (.str s) (ss.map V.str) = true ↔ s ∈ ss := by
  unfold inV
  rw [List.any_eq_true]
  constructor
  · rintro ⟨x, hx, e⟩
    obtain ⟨t, ht, rfl⟩ := List.mem_map.mp hx
    have : t = s := by simpa [eqV] using e
    exact this ▸ ht
  · intro h
    exact ⟨.str s, List.mem_map.mpr ⟨s, h, rfl⟩, by simp [eqV]⟩
theorem in_strs_no {s : Str} {ss : List Str} (h : s ∉ ss) : inV (.str s) (ss.map V.str) = false := Bool.eq_false_iff.mpr fun e => h (in_strs.mp e)
/-- more things than places: one is left out -/
theorem pigeon {α : Type} : ∀ {xs ys : List α}, xs.Nodup → (∀ x ∈ xs, x ∈ ys) → xs.length ≤ ys.length
  | [], _, _, _ => Nat.zero_le _
  | x :: xs, ys, hn, h => by
    have hx : x ∈ ys := h x List.mem_cons_self
    obtain ⟨l, r, rfl⟩ := List.append_of_mem hx
    have hn2 := List.nodup_cons.mp hn
    have := pigeon (xs := xs) (ys := l ++ r) hn2.2 fun y hy => by
      have := h y (List.mem_cons_of_mem _ hy)
      rw [List.mem_append, List.mem_cons] at this
      rw [List.mem_append]
      rcases this with h1 | h1 | h1
      · exact .inl h1
      · subst h1; exact absurd hy hn2.1
      · exact .inr h1
    simp only [List.length_append, List.length_cons] at *
    omega

def sp_l_stranger (K : PySem.W.Frag) : Sp := fun vs H Q _ => ∃ (p a : Addr) (n : Nat) (ss : List Str), vs = [.ref p, .ref a] ∧ PoolAt H p n ∧ n ≤ 999900 ∧ p ≠ a ∧ H a = some (.lst (ss.map V.str)) ∧ (∀ s ∈ ss, isNm s) ∧ ss.length ≤ 25 ∧
  ∀ (s : Str) (H' : Hp), isNm s → s ∉ ss → PoolAt H' p (n + 2) → But p H H' → Q (.str s) H'
theorem len_l_stranger {K : PySem.W.Frag} : ∀ vs H Q E, sp_l_stranger K vs H Q E → vs.length = 2 := by rintro _ _ _ _ ⟨_, _, _, _, rfl, _⟩; rfl
theorem pu_l_stranger {K : PySem.W.Frag} : ∀ vs H Q E, sp_l_stranger K vs H Q E → t_l_stranger K sp_l_take E { nx := fun _ H' => Q .non H', rt := Q } (start n_l_stranger vs) H := by
  rintro _ H Q E ⟨p, a, n, ss, rfl, hp, hn, hpa, ha, hs, hl, q⟩
  have key : ∀ (w : Str) (H1 : Hp), isNm w → PoolAt H1 p (n + 1) → But p H H1 → tSeq (tAsg (tC (.str "abcdefghijklmnopqrstuvwxyz")) (gName 3))
    (tSeq (tAsg (tCW sp_l_take [] (WD E) (tCons (tVar 0) (tCons (tC (.int 26)) (tNil)))) (gName 4))
    (tSeq (tFor (iRng1 (tCons (tC (.int 26)) (tNil))) (gName 5) (t_l_stranger_b1 K sp_l_take E))
    (tRet (tC (.str "nobody"))))) { nx := fun _ H' => Q .non H', rt := Q } [some (.ref p), some (.ref a), some (.str w), none, none, none, none] H1 := by
    intro w H1 hw hp1 b1
    walk_at "rd"
    refine ⟨p, 26, n + 1, rfl, hp1, by omega, by decide, by decide, fun r H2 r0 r1 hp2 a2 => ?_⟩
    walk_at "rd"
    refine ⟨26, rfl, by decide, by decide, ?_⟩
    have b2 : But p H H2 := b1.trans a2.but
    have ha2 : H2 a = some (.lst (ss.map V.str)) := b2 _ _ (Ne.symm hpa) ha
    let cand : Nat → Str := fun k => (⟨#[97 + (r.toNat + k) % 26]⟩ : Str) ++ cutS w (some ((1 : Nat) : Int)) none
    have ec : ∀ k, cl (cand k) = (97 + (r.toNat + k) % 26) :: (cl w).drop 1 := by
      intro k
      show cl ((⟨#[97 + (r.toNat + k) % 26]⟩ : Str) ++ cutS w (some ((1 : Nat) : Int)) none) = _
      rw [cl_app, cl_one, cl_lo]; rfl
    have nm : ∀ k, isNm (cand k) := by
      intro k
      obtain ⟨w1, w2, w3, w4⟩ := hw
      unfold isNm
      rw [ec]
      have hlt : (r.toNat + k) % 26 < 26 := Nat.mod_lt _ (by decide)
      refine ⟨by simp, by rw [List.length_cons, List.length_drop]; omega, ?_, ?_⟩
      · intro c hc
        cases hc
        exact let_lt hlt
      · intro c hc
        rcases List.mem_cons.mp hc with hc | hc
        · subst hc; exact (let_lt hlt).sg
        · exact w4 c (List.mem_of_mem_drop hc)
    refine fg walk_range (fun i σ H' => ∃ (x5 x6 : Option V), σ = [some (.ref p), some (.ref a), some (.str w), some (.str letS), some (.int r), x5, x6] ∧ H' = H2 ∧ ∀ j, j < i → cand j ∈ ss) ⟨_, _, rfl, rfl, fun j h => absurd h (Nat.not_lt_zero _)⟩ (fun _ _ _ _ _ => trivial) ?_ ?_
    · rintro i x _ _ _ hi ⟨x5, x6, rfl, rfl, hj⟩ ⟨rfl, rfl⟩
      unfold t_l_stranger_b1
      walk_at "rd"
      refine ⟨by decide, ?_⟩
      have hlt : (r.toNat + i) % 26 < 26 := Nat.mod_lt _ (by decide)
      refine getS (c := 97 + (r.toNat + i) % 26) (by decide) ?_ ?_
      · have : (r + (0 + (i : Int))) % 26 = (((r.toNat + i) % 26 : Nat) : Int) := by omega
        rw [this]
        exact atI_nat (let_at hlt)
      · walk_at "rd"
        have hc : (cl (cutS w (some 1) none)).length ≤ 8 := by
          rw [show (1 : Int) = ((1 : Nat) : Int) from rfl, cl_lo, List.length_drop]
          have := hw.2.1
          omega
        refine ⟨small8 (by have := hw.2.1; omega), small2 (by rw [cl_one, List.length_singleton]; omega), ?_⟩
        refine inL (SqL.of ha2) rfl (flat_strs ss) ?_
        walk_at "rd"
        have ei : ({ cps := #[97 + (r.toNat + i) % 26] } : Str) ++ cutS w (some 1) none = cand i := rfl
        rw [ei]
        split
        · rename_i c
          refine q _ _ (nm i) (fun h => ?_) hp2 b2
          rw [in_strs.mpr h] at c
          exact absurd c (by decide)
        · rename_i c
          refine ⟨_, _, rfl, fun j hj2 => ?_⟩
          by_cases e : j = i
          · subst e
            refine in_strs.mp ?_
            simpa using c
          · exact hj j (by omega)
    · rintro _ _ ⟨x5, x6, rfl, rfl, hj⟩
      exfalso
      have h1 : ((List.range 26).map cand).Nodup := by
        refine List.pairwise_map.mpr (List.Pairwise.imp_of_mem ?_ List.nodup_range)
        intro a b ha hb ne e
        rw [List.mem_range] at ha hb
        have e2 := congrArg cl e
        rw [ec, ec] at e2
        have e3 := (List.cons.inj e2).1
        omega
      have h2 := pigeon h1 (ys := ss) fun x hx => by
        obtain ⟨k, hk, rfl⟩ := List.mem_map.mp hx
        exact hj k (List.mem_range.mp hk)
      rw [List.length_map, List.length_range] at h2
      omega
  unfold t_l_stranger n_l_stranger
  walk_at "rd"
  refine ⟨by decide, fun e he => ?_⟩
  have ha1 : upd H e (.lst []) a = some (.lst (ss.map V.str)) := at_new he ha
  have hp1 : PoolAt (upd H e (.lst [])) p n := hp.new he
  have b1 : But p H (upd H e (.lst [])) := But.refl.new he
  refine neD (.lst (SqL.of ha1) (DpAll.strs ss)) (.lst (SqL.of upd_same) .nil) (shaped_strs hs) rfl ⟨_, rfl, ?_⟩
  cases ss with
  | nil =>
    rw [if_neg (by simp [PyData.eqv, PyData.eqvAll])]
    have eq : cl "q" = [113] := by decide
    have nq : isNm "q" := by
      refine ⟨by decide, by decide, ?_, ?_⟩
      · intro c h; rw [eq] at h; cases h; unfold Lt; decide
      · intro c h; rw [eq, List.mem_singleton] at h; subst h; unfold Sg; decide
    have k := key "q" _ nq (hp1.mono (by omega)) b1
    revert k
    walk_at "rd" <;> exact id
  | cons s0 ss0 =>
    rw [if_pos (by simp [PyData.eqv, PyData.eqvAll])]
    refine lenL (SqL.of ha1) ?_
    refine ⟨p, _, n, rfl, hp1, by omega, by rw [List.length_map]; simp only [List.length_cons]; omega, by rw [List.length_map]; omega, fun r H2 r0 r1 hp2 a2 => ?_⟩
    rw [List.length_map] at r1
    have ha2 : H2 a = some (.lst ((s0 :: ss0).map V.str)) := (a2 a (Ne.symm hpa)).trans ha1
    have hr : r.toNat < (s0 :: ss0).length := by omega
    refine getL (v := .str ((s0 :: ss0)[r.toNat])) (SqL.of ha2) (at_nat (n := 0) r0 ?_) ?_
    · rw [List.getElem?_map, List.getElem?_eq_getElem hr]; rfl
    · have k := key _ _ (hs _ (List.getElem_mem hr)) hp2 (b1.trans a2.but)
      revert k
      walk_at "rd" <;> exact id

/-! ### is_name -/
def sp_is_name (K : PySem.W.Frag) : Sp := fun vs H Q _ => ∃ v, vs = [v] ∧ ((∃ s : Str, v = .str s ∧ s.length ≤ sizeLine ∧ ∀ b : Bool, (b = true ↔ isNm s) → Q (.bl b) H) ∨ (∃ t, TyX K H v (.type t) ∧ PySem.W.kitOne K (.type t) (.type "str") = some false ∧ Q (.bl false) H))
theorem len_is_name {K : PySem.W.Frag} : ∀ vs H Q E, sp_is_name K vs H Q E → vs.length = 1 := by rintro _ _ _ _ ⟨_, rfl, _⟩; rfl
theorem pu_is_name {K : PySem.W.Frag} : ∀ vs H Q E, sp_is_name K vs H Q E → t_is_name K E { nx := fun _ H' => Q .non H', rt := Q } (start n_is_name vs) H := by
  rintro _ H Q E ⟨v, rfl, h⟩
  unfold t_is_name n_is_name
  walk_at "rd"
  rcases h with ⟨s, rfl, hl, q⟩ | ⟨t, ty, hk, q⟩
  · refine isiF (t := "str") (.base (.str s)) rfl ?_
    walk_at "rd"
    have no : ¬ isNm s → Q (.bl false) H := fun h => q false ⟨fun e => absurd e (by decide), fun e => absurd e h⟩
    refine ⟨hl, ?_⟩
    split
    · rename_i c
      refine no fun h => ?_
      have := h.1
      rw [cl_len] at c
      omega
    · rename_i c1
      refine ⟨hl, ?_⟩
      split
      · rename_i c
        refine no fun h => ?_
        have := h.2.1
        rw [cl_len] at c
        omega
      · rename_i c2
        rw [cl_len] at c1 c2
        have h0 : 0 < (cl s).length := by omega
        refine getS (c := (cl s)[0]) hl (at_nat (n := 0) (by decide) (List.getElem?_eq_getElem h0)) (inSg ?_)
        walk_at "rd"
        have m0 : (cl s)[0] ∈ (Str.ofString "abcdefghijklmnopqrstuvwxyz").cps.toList ↔ Lt (cl s)[0] := mem_let
        split
        · rename_i c
          refine no fun h => ?_
          have := m0.mpr (h.2.2.1 _ (List.getElem?_eq_getElem h0))
          rw [decide_eq_true this] at c
          exact absurd c (by decide)
        · rename_i c
          have l0 : Lt (cl s)[0] := by
            refine m0.mp ?_
            simpa using c
          refine fg walk_str (fun i σ H' => H' = H ∧ (∃ x1, σ = [some (.str s), x1]) ∧ ∀ j c, j < i → (cl s)[j]? = some c → Sg c) ⟨rfl, ⟨_, rfl⟩, fun j c h => absurd h (Nat.not_lt_zero _)⟩ (fun _ _ _ _ _ => trivial) ?_ ?_
          · rintro i x _ _ _ hi ⟨rfl, ⟨x1, rfl⟩, hj⟩ ⟨rfl, c, hc, rfl⟩
            have hc2 : (cl s)[i]? = some c := by rw [← hc]; exact Array.getElem?_toList
            unfold t_is_name_b1
            walk_at "rd"
            refine inSg ?_
            walk_at "rd"
            have mc : c ∈ (Str.ofString "abcdefghijklmnopqrstuvwxyz0123456789").cps.toList ↔ Sg c := mem_sg
            split
            · rename_i d
              refine no fun h => ?_
              have := mc.mpr (h.2.2.2 c (List.mem_of_getElem? hc2))
              rw [decide_eq_true this] at d
              exact absurd d (by decide)
            · rename_i d
              refine ⟨⟨_, rfl⟩, fun j c' hj2 hc' => ?_⟩
              by_cases e : j = i
              · subst e
                rw [hc2] at hc'
                cases hc'
                refine mc.mp ?_
                simpa using d
              · exact hj j c' (by omega) hc'
          · rintro _ _ ⟨rfl, ⟨x1, rfl⟩, hj⟩
            walk_at "rd"
            refine q true ⟨fun _ => ⟨by omega, by omega, ?_, ?_⟩, fun _ => rfl⟩
            · intro c hc
              rw [List.getElem?_eq_getElem h0] at hc
              cases hc
              exact l0
            · intro c hc
              obtain ⟨j, hj2, e⟩ := List.getElem_of_mem hc
              exact hj j c hj2 (by rw [List.getElem?_eq_getElem hj2, e])
  · refine isiF ty hk ?_
    walk_at "rd"
    exact q
/-! ### rows -/
structure RowK (K : PySem.W.Frag) : Prop where
  cls : Cls K (He.ga K "Row")
  looks : NoAttr K (He.ga K "Row") "looks"
def TupAt (H : Hp) (t : Addr) (xs : List V) : Prop := ∃ ob, H t = some (.frz ob (.tup xs)) ∧ ob.dict = none
theorem TupAt.sq {K : PySem.W.Frag} {H : Hp} {t : Addr} {xs : List V} (h : TupAt H t xs) : SqT K H t xs := by
  obtain ⟨ob, e, _⟩ := h
  exact .inl (.inr ⟨ob, e⟩)
theorem TupAt.same {H H' : Hp} {t : Addr} {xs : List V} (h : TupAt H t xs) (s : Same H H') : TupAt H' t xs := by
  obtain ⟨ob, e, d⟩ := h
  exact ⟨ob, s _ _ e, d⟩
theorem TupAt.but {H H' : Hp} {t p : Addr} {xs : List V} {u : HO} (h : TupAt H t xs) (hp : H p = some u) (hu : ∀ ob xs, u ≠ .frz ob (.tup xs)) (s : But p H H') : TupAt H' t xs := by
  obtain ⟨ob, e, d⟩ := h
  refine ⟨ob, s _ _ (fun e2 => ?_) e, d⟩
  subst e2
  rw [hp] at e
  cases e
  exact hu _ _ rfl
theorem TupAt.ex {H : Hp} {t : Addr} {xs : List V} (h : TupAt H t xs) : ∃ u, H t = some u := by
  obtain ⟨ob, e, _⟩ := h
  exact ⟨_, e⟩
def RowAt (K : PySem.W.Frag) (H : Hp) (a : Addr) (ss : List Str) : Prop := ∃ dx t, H a = some (.ins (He.ga K "Row") dx [("looks", .ref t)]) ∧ TupAt H t (ss.map V.str)
theorem RowAt.same {K : PySem.W.Frag} {H H' : Hp} {a : Addr} {ss : List Str} (h : RowAt K H a ss) (s : Same H H') : RowAt K H' a ss := by
  obtain ⟨dx, t, e, ht⟩ := h
  exact ⟨dx, t, s _ _ e, ht.same s⟩
theorem RowAt.but {K : PySem.W.Frag} {H H' : Hp} {a p : Addr} {ss : List Str} {xs : List V} (h : RowAt K H a ss) (hp : H p = some (.lst xs)) (s : But p H H') : RowAt K H' a ss := by
  obtain ⟨dx, t, e, ht⟩ := h
  refine ⟨dx, t, s _ _ (fun e2 => ?_) e, ht.but hp (fun _ _ e => by cases e) s⟩
  subst e2
  rw [hp] at e
  cases e
/-- the heap with an instance made: what stood stands -/
theorem made_same {H H' : Hp} {x dx : Addr} {o1 o2 : HO} (hx : H x = none) (hd : H dx = none) (b : But x (upd (upd H dx o1) x o2) H') : Same H H' := fun a u e =>
  b a u (ne_of_none e hx) (at_set (ne_of_none e hx) (at_new hd e))

def sp_Row_init (K : PySem.W.Frag) : Sp := fun vs H Q _ => ∃ (x f dx : Addr) (ss : List Str), vs = [.ref x, .ref f] ∧ H x = some (.ins (He.ga K "Row") dx []) ∧ (∀ s ∈ ss, isNm s) ∧ (SqL K H f (ss.map V.str) ∨ TupAt H f (ss.map V.str)) ∧
  ∀ (H' : Hp) (t : Addr), H' x = some (.ins (He.ga K "Row") dx [("looks", .ref t)]) → TupAt H' t (ss.map V.str) → But x H H' → Q .non H'
theorem len_Row_init {K : PySem.W.Frag} : ∀ vs H Q E, sp_Row_init K vs H Q E → vs.length = 2 := by rintro _ _ _ _ ⟨_, _, _, _, rfl, _⟩; rfl
theorem pu_Row_init {K : PySem.W.Frag} (R : RowK K) : ∀ vs H Q E, sp_Row_init K vs H Q E → t_Row_init K (sp_is_name K) E { nx := fun _ H' => Q .non H', rt := Q } (start n_Row_init vs) H := by
  rintro _ H Q E ⟨x, f, dx, ss, rfl, hx, hs, hf, q⟩
  have body : ∀ (i : Nat) (v : V) (D : Ends), (ss.map V.str)[i]? = some v → D.nx [some (.ref x), some (.ref f), some v] H → t_Row_init_b1 K (sp_is_name K) E D [some (.ref x), some (.ref f), some v] H := by
    intro i v D hv hN
    rw [List.getElem?_map] at hv
    obtain ⟨s, hs2, rfl⟩ := Option.map_eq_some_iff.mp hv
    unfold t_Row_init_b1
    walk_at "rd"
    have ns := hs s (List.mem_of_getElem? hs2)
    refine ⟨_, rfl, .inl ⟨s, rfl, small8 (by have := ns.2.1; omega), fun b hb => ?_⟩⟩
    obtain rfl : b = true := hb.mpr ns
    walk_at "rd"
    exact hN
  unfold t_Row_init n_Row_init
  walk_at "rd"
  have fin : ∀ (t : Addr) (H2 : Hp), Same H H2 → TupAt H2 t (ss.map V.str) → Q .non (upd H2 x (.ins (He.ga K "Row") dx [("looks", .ref t)])) := by
    intro t H2 s2 ht
    have hx2 := s2 _ _ hx
    refine q _ t upd_same ?_ ?_
    · obtain ⟨ob, e, d⟩ := ht
      refine ⟨ob, at_set (fun e2 => ?_) e, d⟩
      subst e2
      rw [hx2] at e
      cases e
    · intro a u ne e
      exact at_set ne (s2 _ _ e)
  rcases hf with hf | hf
  · refine .inl ⟨⟨_, hf⟩, ?_⟩
    refine fg walk_list (fun i σ H' => H' = H ∧ ∃ x2, σ = [some (.ref x), some (.ref f), x2]) ⟨rfl, _, rfl⟩ (fun i σ H' _ h => h.1 ▸ hf) ?_ ?_
    · rintro i v _ _ _ hi ⟨rfl, x2, rfl⟩ ⟨rfl, hv⟩
      walk_at "rd"
      refine body i v _ hv ?_
      exact ⟨rfl, _, rfl⟩
    · rintro _ _ ⟨rfl, x2, rfl⟩
      walk_at "rd"
      refine ⟨f, _, rfl, .inl ⟨hf, .inr fun t ob ht hd _ => ?_⟩⟩
      exact ⟨x, _, dx, [], rfl, at_new ht hx, R.cls, R.looks, by decide, fin t _ (Same.new ht) ⟨ob, upd_same, hd⟩⟩
  · refine .inr ⟨⟨_, hf.sq⟩, ?_⟩
    refine fg walk_tup (fun i σ H' => H' = H ∧ ∃ x2, σ = [some (.ref x), some (.ref f), x2]) ⟨rfl, _, rfl⟩ (fun i σ H' _ h => h.1 ▸ hf.sq) ?_ ?_
    · rintro i v _ _ _ hi ⟨rfl, x2, rfl⟩ ⟨rfl, hv⟩
      walk_at "rd"
      refine body i v _ hv ?_
      exact ⟨rfl, _, rfl⟩
    · rintro _ _ ⟨rfl, x2, rfl⟩
      walk_at "rd"
      refine ⟨f, _, rfl, .inr ⟨hf.sq, ?_⟩⟩
      exact ⟨x, _, dx, [], rfl, hx, R.cls, R.looks, by decide, fin f _ (fun _ _ e => e) hf⟩

/-! ### numbers -/
def NotInt (K : PySem.W.Frag) (H : Hp) (v : V) : Prop := ∃ t b1 b2, TyX K H v (.type t) ∧ PySem.W.kitOne K (.type t) (.type "int") = some b1 ∧ PySem.W.kitOne K (.type t) (.type "bool") = some b2 ∧ (b1 && !b2) = false
theorem TyX.same {K : PySem.W.Frag} {H H' : Hp} {v : V} {t : String} (h : TyX K H v (.type t)) (s : Same H H') : TyX K H' v (.type t) := by
  cases h with
  | base h =>
    cases h with
    | non => exact .base .non
    | bl x => exact .base (.bl x)
    | int i => exact .base (.int i)
    | str x => exact .base (.str x)
    | flt x => exact .base (.flt x)
    | lst e => exact .base (.lst (s _ _ e))
    | frz e => exact .base (.frz (s _ _ e))
    | tup e => exact .base (.tup (s _ _ e))
    | dK e => exact .base (.dK (s _ _ e))
    | dT e => exact .base (.dT (s _ _ e))
  | byt b => exact .byt b
  | set e => exact .set (s _ _ e)
  | kList e c => exact .kList e c
  | kTuple e c => exact .kTuple e c
  | kDict e c => exact .kDict e c
  | fTuple e => exact .fTuple (s _ _ e)
  | fDict e => exact .fDict (s _ _ e)
theorem NotInt.same {K : PySem.W.Frag} {H H' : Hp} {v : V} (h : NotInt K H v) (s : Same H H') : NotInt K H' v := by
  obtain ⟨t, b1, b2, ty, r⟩ := h
  exact ⟨t, b1, b2, TyX.same ty s, r⟩
def sp_is_whole (K : PySem.W.Frag) : Sp := fun vs H Q _ => ∃ v, vs = [v] ∧ ((∃ i, v = .int i ∧ Q (.bl true) H) ∨ (NotInt K H v ∧ Q (.bl false) H))
theorem len_is_whole {K : PySem.W.Frag} : ∀ vs H Q E, sp_is_whole K vs H Q E → vs.length = 1 := by rintro _ _ _ _ ⟨_, rfl, _⟩; rfl
def sp_is_count (K : PySem.W.Frag) : Sp := fun vs H Q _ => ∃ v, vs = [v] ∧ ((∃ i, v = .int i ∧ Q (.bl (decide (0 ≤ i))) H) ∨ (NotInt K H v ∧ Q (.bl false) H))
theorem len_is_count {K : PySem.W.Frag} : ∀ vs H Q E, sp_is_count K vs H Q E → vs.length = 1 := by rintro _ _ _ _ ⟨_, rfl, _⟩; rfl
/-! ### what a row refuses -/
/-- an exception of the class C with one field is raised, on a heap in which all of H stands -/
def Rz (K : PySem.W.Frag) (C f : Str) (v : V) (H : Hp) (E : XK) : Prop := ∀ H0 d, Same H H0 → H0 d = none → E (.ref (He.ga K C)) (some d) (upd H0 d (.xd [(f, v)]))
def BadPlace (K : PySem.W.Frag) (H : Hp) (v : V) (n : Nat) : Prop := NotInt K H v ∨ ∃ i : Int, v = .int i ∧ (i < 0 ∨ n ≤ i)
def sp_Row_getitem (K : PySem.W.Frag) : Sp := fun vs H Q E => ∃ (a : Addr) (v : V) (ss : List Str), vs = [.ref a, v] ∧ RowAt K H a ss ∧ ((BadPlace K H v ss.length ∧ Rz K "BadNumber" "value" v H E) ∨ ∃ (i : Nat) (s : Str), v = .int i ∧ ss[i]? = some s ∧ Q (.str s) H)
theorem len_Row_getitem {K : PySem.W.Frag} : ∀ vs H Q E, sp_Row_getitem K vs H Q E → vs.length = 2 := by rintro _ _ _ _ ⟨_, _, _, rfl, _⟩; rfl
/-! ### rows, repeated -/
theorem same_refl {H : Hp} : Same H H := fun _ _ e => e
def sp_Row_len (K : PySem.W.Frag) : Sp := fun vs H Q _ => ∃ (a : Addr) (ss : List Str), vs = [.ref a] ∧ RowAt K H a ss ∧ Q (.int ss.length) H
theorem len_Row_len {K : PySem.W.Frag} : ∀ vs H Q E, sp_Row_len K vs H Q E → vs.length = 1 := by rintro _ _ _ _ ⟨_, _, rfl, _⟩; rfl
def BadNum (K : PySem.W.Frag) (H : Hp) (v : V) : Prop := NotInt K H v ∨ ∃ i : Int, v = .int i ∧ i < 0
theorem BadNum.same {K : PySem.W.Frag} {H H' : Hp} {v : V} (h : BadNum K H v) (s : Same H H') : BadNum K H' v := h.imp (fun h => h.same s) id
def sp_repeated (K : PySem.W.Frag) : Sp := fun vs H Q E => ∃ (t : Addr) (v : V) (xs : List V), vs = [.ref t, v] ∧ TupAt H t xs ∧ xs.length ≤ 1000 ∧ ((BadNum K H v ∧ Rz K "BadNumber" "value" v H E) ∨
  ∃ k : Nat, v = .int k ∧ k ≤ 1000 ∧ ∀ (t' : Addr) (H' : Hp), TupAt H' t' (List.replicate k xs).flatten → Same H H' → Q (.ref t') H')
theorem len_repeated {K : PySem.W.Frag} : ∀ vs H Q E, sp_repeated K vs H Q E → vs.length = 2 := by rintro _ _ _ _ ⟨_, _, _, rfl, _⟩; rfl
def sp_Row_mul (K : PySem.W.Frag) : Sp := fun vs H Q E => ∃ (a : Addr) (v : V) (ss : List Str), vs = [.ref a, v] ∧ RowAt K H a ss ∧ (∀ s ∈ ss, isNm s) ∧ ss.length ≤ 1000 ∧ ((BadNum K H v ∧ Rz K "BadNumber" "value" v H E) ∨
  ∃ k : Nat, v = .int k ∧ k ≤ 1000 ∧ ∀ (b : Addr) (H' : Hp), RowAt K H' b (List.replicate k ss).flatten → Same H H' → Q (.ref b) H')
theorem len_Row_mul {K : PySem.W.Frag} : ∀ vs H Q E, sp_Row_mul K vs H Q E → vs.length = 2 := by rintro _ _ _ _ ⟨_, _, _, rfl, _⟩; rfl
/-! ### what stands, stands on a greater heap -/
theorem SqL.same {K : PySem.W.Frag} {H H' : Hp} {a : Addr} {xs : List V} (h : SqL K H a xs) (s : Same H H') : SqL K H' a xs := by
  rcases h with (h | ⟨o, h⟩) | h
  · exact .inl (.inl (s _ _ h))
  · exact .inl (.inr ⟨o, s _ _ h⟩)
  · exact .inr h
theorem SqT.same {K : PySem.W.Frag} {H H' : Hp} {a : Addr} {xs : List V} (h : SqT K H a xs) (s : Same H H') : SqT K H' a xs := by
  rcases h with (h | ⟨o, h⟩) | h
  · exact .inl (.inl (s _ _ h))
  · exact .inl (.inr ⟨o, s _ _ h⟩)
  · exact .inr h
mutual
theorem Dp.same {K : PySem.W.Frag} {H H' : Hp} (s : Same H H') : ∀ {v : V} {d : PyData}, Dp K H v d → Dp K H' v d
  | _, _, .non => .non
  | _, _, .bl b => .bl b
  | _, _, .int i => .int i
  | _, _, .str x => .str x
  | _, _, .lst h hs => .lst (SqL.same h s) (DpAll.same s hs)
  | _, _, .tup h hs => .tup (SqT.same h s) (DpAll.same s hs)
theorem DpAll.same {K : PySem.W.Frag} {H H' : Hp} (s : Same H H') : ∀ {vs : List V} {ds : List PyData}, DpAll K H vs ds → DpAll K H' vs ds
  | _, _, .nil => .nil
  | _, _, .cons h hs => .cons (Dp.same s h) (DpAll.same s hs)
end
/-- with p new in H, all of H stands -/
theorem But.same {H0 H H' : Hp} {p : Addr} (hp : H0 p = none) (s : Same H0 H) (b : But p H H') : Same H0 H' := fun a u e => b a u (ne_of_none e hp) (s a u e)
theorem Alt.same {H0 H H' : Hp} {p : Addr} (hp : H0 p = none) (s : Same H0 H) (b : Alt p H H') : Same H0 H' := But.same hp s b.but
theorem PoolAt.same {H H' : Hp} {p : Addr} {n : Nat} (h : PoolAt H p n) (s : Same H H') : PoolAt H' p n := h.keep (s p)
theorem PoolAt.ne {H : Hp} {p a : Addr} {n : Nat} (h : PoolAt H p n) (e : H a = none) : a ≠ p := by
  obtain ⟨u, hu⟩ := h.ex
  exact Ne.symm (ne_of_none hu e)
theorem PoolAt.lst {H : Hp} {p : Addr} {n : Nat} (h : PoolAt H p n) : ∃ xs, H p = some (.lst xs) := by
  obtain ⟨x, y, z, a, _⟩ := h
  exact ⟨_, a⟩
/-- a thing that one may tell apart from others by == -/
def Eqs (K : PySem.W.Frag) (H : Hp) (v : V) (d : PyData) : Prop := Dp K H v d ∧ SeqAt.shaped (.list [.list [.str "number", d], .list [.str "number", d]]) = true ∧ SeqAt.shaped (.list [.str "number", d]) = true ∧ PyData.eqv d d = true
section
variable {K : PySem.W.Frag} {H : Hp}
theorem sh_num {d : PyData} (h : PyData.canLay0 d = true) (h2 : PyData.depth d ≤ 10) : SeqAt.shaped (.list [.list [.str "number", d], .list [.str "number", d]]) = true ∧ SeqAt.shaped (.list [.str "number", d]) = true := by
  have e : PyData.strOk "number" = true := by decide +kernel
  constructor
  · show (PyData.canLayAll0 [.list [.str "number", d], .list [.str "number", d]] && decide (PyData.depthAll [.list [.str "number", d], .list [.str "number", d]] + 1 ≤ 64)) = true
    have c : PyData.canLayAll0 [.list [.str "number", d], .list [.str "number", d]] = true := by
      show ((PyData.strOk "number" && (PyData.canLay0 d && true)) && ((PyData.strOk "number" && (PyData.canLay0 d && true)) && true)) = true
      rw [e, h]; rfl
    have dd : PyData.depthAll [.list [.str "number", d], .list [.str "number", d]] + 1 ≤ 64 := by
      show max (max 0 (max (PyData.depth d) 0) + 1) (max (max 0 (max (PyData.depth d) 0) + 1) 0) + 1 ≤ 64
      omega
    rw [c, decide_eq_true dd]; rfl
  · show (PyData.canLayAll0 [.str "number", d] && decide (PyData.depthAll [.str "number", d] + 1 ≤ 64)) = true
    have c : PyData.canLayAll0 [.str "number", d] = true := by
      show (PyData.strOk "number" && (PyData.canLay0 d && true)) = true
      rw [e, h]; rfl
    have dd : PyData.depthAll [.str "number", d] + 1 ≤ 64 := by
      show max 0 (max (PyData.depth d) 0) + 1 ≤ 64
      omega
    rw [c, decide_eq_true dd]; rfl
theorem eqs_of {v : V} {d : PyData} (h : Dp K H v d) (h1 : PyData.canLay0 d = true) (h2 : PyData.depth d ≤ 10) (h3 : PyData.eqv d d = true) : Eqs K H v d := ⟨h, (sh_num h1 h2).1, (sh_num h1 h2).2, h3⟩
theorem eqs_int (i : Int) : Eqs K H (.int i) (.int i) := eqs_of (.int i) rfl (Nat.zero_le _) (by simp [PyData.eqv])
theorem eqs_bl (b : Bool) : Eqs K H (.bl b) (.bool b) := eqs_of (.bl b) rfl (Nat.zero_le _) (by simp [PyData.eqv])
theorem eqs_non : Eqs K H .non .none := eqs_of .non rfl (by decide) rfl
theorem eqs_str {s : Str} (h : PyData.strOk s = true) : Eqs K H (.str s) (.str s) := eqs_of (.str s) h (Nat.zero_le _) (by simp [PyData.eqv])
theorem eqs_tup1 {t : Addr} {i : Int} (h : SqT K H t [.int i]) : Eqs K H (.ref t) (.tuple [.int i]) := eqs_of (.tup h (.cons (.int i) .nil)) rfl (show max 0 0 + 1 ≤ 10 by decide) (by simp [PyData.eqv, PyData.eqvAll])
theorem notInt_bl (b : Bool) : NotInt K H (.bl b) := ⟨"bool", true, true, .base (.bl b), rfl, rfl, rfl⟩
theorem notInt_str (s : Str) : NotInt K H (.str s) := ⟨"str", false, false, .base (.str s), rfl, rfl, rfl⟩
theorem notInt_non : NotInt K H .non := ⟨"NoneType", false, false, .base .non, rfl, rfl, rfl⟩
theorem notInt_tup {t : Addr} {xs : List V} (h : H t = some (.tup xs)) : NotInt K H (.ref t) := ⟨"tuple", false, false, .base (.tup h), rfl, rfl, rfl⟩
end
theorem sh_file {s : Str} (h : isNm s) : SeqAt.shaped (.list [.str "file", .str s]) = true := by
  have e : PyData.strOk "file" = true := by decide +kernel
  show ((PyData.strOk "file" && (PyData.strOk s && true)) && decide (max 0 (max 0 0) + 1 ≤ 64)) = true
  rw [e, strOk_nm h]; rfl
theorem eq_file {s t : Str} : PyData.eqv (.list [.str "file", .str s]) (.list [.str "file", .str t]) = decide (s = t) := by
  by_cases h : s = t
  · subst h; simp [PyData.eqv, PyData.eqvAll]
  · simp [PyData.eqv, PyData.eqvAll, h]
theorem eqv_strs : ∀ ss : List Str, PyData.eqvAll (ss.map PyData.str) (ss.map PyData.str) = true
  | [] => rfl
  | s :: ss => by
    show (PyData.eqv (.str s) (.str s) && PyData.eqvAll (ss.map PyData.str) (ss.map PyData.str)) = true
    rw [eqv_strs ss]; simp [PyData.eqv]
/-! ### rows: the other methods -/
theorem tup2 {K : PySem.W.Frag} {H : Hp} {T : Addr} {x y : V} {σ : St} {i j : Nat} {Q : St → Hp → Prop} (q : Q ((σ.set i (some x)).set j (some y)) (upd H T (.tup [x, y]))) : gTup K 2 (gCons (gName i) (gCons (gName j) gNil)) (.ref T) σ (upd H T (.tup [x, y])) Q :=
  ⟨T, _, rfl, SqT.of upd_same, rfl, _, _, rfl, _, _, rfl, rfl, q⟩
theorem walk_enumT {K : PySem.W.Frag} {a : Addr} {xs : List V} : Walk (IteT K a) xs.length (fun H => SqT K H a xs) (YPair (fun i => some (.int (i : Nat))) (fun i => xs[i]?)) := by
  refine ⟨fun i _ hi q => ⟨xs, xs[i], q, by simp [hi]⟩, fun _ q => ⟨xs, q, Nat.le_refl _⟩, fun i H v H' _ q y => ?_⟩
  obtain ⟨T, x, h1, h2, h3, h4⟩ := y
  exact ⟨T, .int (i : Nat), x, h1, h2, h3, rfl, h4 xs q⟩
theorem isiO {K : PySem.W.Frag} {H : Hp} {Q : VK} {v : V} {t : Value} {C : Addr} {r : Bool} (ty : TyX K H v t) (hk : PySem.W.kitOne K t (.ref C) = some r) (q : Q (.bl r) H) : rIsi K [v, .ref C] H Q := ⟨v, .ref C, _, _, r, rfl, .own C, ty, hk, q⟩
theorem addT {K : PySem.W.Frag} {H : Hp} {Q : VK} {a b : Addr} {xs ys : List V} (ha : TupAt H a xs) (hb : TupAt H b ys) (hz : xs.length + ys.length ≤ sizeLine) (q : ∀ t H', TupAt H' t (xs ++ ys) → Same H H' → Q (.ref t) H') : oAdd K (.ref a) (.ref b) H Q := by
  refine .inr (.inr (.inr ⟨a, b, xs, ys, rfl, rfl, ha.sq, hb.sq, hz, fun e => q b H (by subst e; exact hb) same_refl, fun _ e => q a H (by subst e; rw [List.append_nil]; exact ha) same_refl, fun _ _ => .inr fun l ob hl hd _ => q l _ ⟨ob, upd_same, hd⟩ (Same.new hl)⟩))
theorem eqv_strs2 : ∀ ss tt : List Str, PyData.eqvAll (ss.map PyData.str) (tt.map PyData.str) = decide (ss = tt)
  | [], [] => rfl
  | [], _ :: _ => rfl
  | _ :: _, [] => rfl
  | s :: ss, t :: tt => by
    show (PyData.eqv (.str s) (.str t) && PyData.eqvAll (ss.map PyData.str) (tt.map PyData.str)) = _
    rw [eqv_strs2 ss tt]
    by_cases e : s = t
    · subst e
      by_cases e2 : ss = tt
      · subst e2; simp [PyData.eqv]
      · simp [PyData.eqv, e2]
    · simp [PyData.eqv, e]
/-- the different ones among the first n, in the order of their first places -/
def dstN (ss : List Str) : Nat → List Str
  | 0 => []
  | n + 1 => dstN ss n ++ match ss[n]? with
    | some s => if s ∈ ss.take n then [] else [s]
    | none => []
def dst (ss : List Str) : List Str := dstN ss ss.length
theorem dstN_len (ss : List Str) : ∀ n, (dstN ss n).length ≤ n
  | 0 => Nat.le_refl _
  | n + 1 => by
    have := dstN_len ss n
    show (dstN ss n ++ _).length ≤ n + 1
    rw [List.length_append]
    split
    · split <;> simp only [List.length_nil, List.length_singleton] <;> omega
    · simp only [List.length_nil]; omega
theorem dstN_mem (ss : List Str) : ∀ n, ∀ s ∈ dstN ss n, s ∈ ss
  | 0, s, h => absurd h List.not_mem_nil
  | n + 1, s, h => by
    rcases List.mem_append.mp h with h | h
    · exact dstN_mem ss n s h
    · split at h
      · rename_i t e
        split at h
        · exact absurd h List.not_mem_nil
        · rw [List.mem_singleton] at h; subst h; exact List.mem_of_getElem? e
      · exact absurd h List.not_mem_nil
theorem cutV_hi {xs : List V} {k : Nat} : cutV xs none (some (k : Int)) = xs.take k := by
  unfold cutV
  rw [HT.sIx_none, HT.sIx_nat, List.drop_zero, Nat.sub_zero, List.take_eq_take_iff]
  omega

def sp_Row_contains (K : PySem.W.Frag) : Sp := fun vs H Q _ => ∃ (a : Addr) (s : Str) (ss : List Str), vs = [.ref a, .str s] ∧ RowAt K H a ss ∧ Q (.bl (decide (s ∈ ss))) H
theorem len_Row_contains {K : PySem.W.Frag} : ∀ vs H Q E, sp_Row_contains K vs H Q E → vs.length = 2 := by rintro _ _ _ _ ⟨_, _, _, rfl, _⟩; rfl
theorem inV_strs {s : Str} {ss : List Str} : inV (.str s) (ss.map V.str) = decide (s ∈ ss) := by
  by_cases h : s ∈ ss
  · rw [in_strs.mpr h, decide_eq_true h]
  · rw [in_strs_no h, decide_eq_false h]
def sp_Row_add (K : PySem.W.Frag) : Sp := fun vs H Q E => ∃ (a b : Addr) (ss tt : List Str), vs = [.ref a, .ref b] ∧ RowAt K H a ss ∧ RowAt K H b tt ∧ (∀ s ∈ ss, isNm s) ∧ (∀ s ∈ tt, isNm s) ∧ ss.length ≤ 1000 ∧ tt.length ≤ 1000 ∧
  ∀ (c : Addr) (H' : Hp), RowAt K H' c (ss ++ tt) → Same H H' → Q (.ref c) H'
theorem len_Row_add {K : PySem.W.Frag} : ∀ vs H Q E, sp_Row_add K vs H Q E → vs.length = 2 := by rintro _ _ _ _ ⟨_, _, _, _, rfl, _⟩; rfl
/-- Row(a tuple of names that just was made) -/
theorem row_of {K : PySem.W.Frag} {H : Hp} {P : Addr → Hp → Prop} {E : XK} {t : Addr} {ss : List Str} (ht : TupAt H t (ss.map V.str)) (hs : ∀ s ∈ ss, isNm s) (q : ∀ (c : Addr) (H' : Hp), RowAt K H' c ss → Same H H' → P c H') :
    ∀ x dx, H x = none → H dx = none → dx ≠ x → sp_Row_init K [.ref x, .ref t] (upd (upd H dx (.own x)) x (.ins (He.ga K "Row") dx [])) (fun v H2 => v = .non ∧ P x H2) E := by
  intro x dx1 hx hdx hne
  have s2 : Same H (upd (upd H dx1 (.own x)) x (.ins (He.ga K "Row") dx1 [])) := made_same hx hdx But.refl
  exact ⟨x, t, dx1, ss, rfl, upd_same, hs, .inr (ht.same s2), fun H' t2 h1 h2 h3 => ⟨rfl, q x H' ⟨dx1, t2, h1, h2⟩ (made_same hx hdx h3)⟩⟩
theorem row_ofL {K : PySem.W.Frag} {H : Hp} {P : Addr → Hp → Prop} {E : XK} {t : Addr} {ss : List Str} (ht : SqL K H t (ss.map V.str)) (hs : ∀ s ∈ ss, isNm s) (q : ∀ (c : Addr) (H' : Hp), RowAt K H' c ss → Same H H' → P c H') :
    ∀ x dx, H x = none → H dx = none → dx ≠ x → sp_Row_init K [.ref x, .ref t] (upd (upd H dx (.own x)) x (.ins (He.ga K "Row") dx [])) (fun v H2 => v = .non ∧ P x H2) E := by
  intro x dx1 hx hdx hne
  have s2 : Same H (upd (upd H dx1 (.own x)) x (.ins (He.ga K "Row") dx1 [])) := made_same hx hdx But.refl
  exact ⟨x, t, dx1, ss, rfl, upd_same, hs, .inl (SqL.same ht s2), fun H' t2 h1 h2 h3 => ⟨rfl, q x H' ⟨dx1, t2, h1, h2⟩ (made_same hx hdx h3)⟩⟩
theorem pu_Row_add {K : PySem.W.Frag} (R : RowK K) (C : ClsI K (He.ga K "Row")) : ∀ vs H Q E, sp_Row_add K vs H Q E → t_Row_add K (sp_Row_init K) E { nx := fun _ H' => Q .non H', rt := Q } (start n_Row_add vs) H := by
  rintro _ H Q E ⟨a, b, ss, tt, rfl, ⟨dx, t, ha, ht⟩, ⟨dy, t2, hb, ht2⟩, hs, hs2, l1, l2, q⟩
  unfold t_Row_add n_Row_add
  walk_at "rd"
  refine isiO (C.ty hb) C.self ?_
  walk_at "rd"
  refine ⟨a, _, dx, _, _, rfl, ha, R.cls, R.looks, rfl, b, _, dy, _, _, rfl, hb, R.cls, R.looks, rfl, ?_⟩
  have z : (2000 : Nat) ≤ sizeLine := by decide
  refine addT ht ht2 (by rw [List.length_map, List.length_map]; omega) fun t3 H1 ht3 s1 => ?_
  rw [← List.map_append] at ht3
  refine row_of ht3 (fun s h => (List.mem_append.mp h).elim (hs s) (hs2 s)) fun c H' hc s2 => q c H' hc (s1.trans s2)
def sp_Row_neg (K : PySem.W.Frag) : Sp := fun vs H Q E => ∃ (a : Addr) (ss : List Str), vs = [.ref a] ∧ RowAt K H a ss ∧ (∀ s ∈ ss, isNm s) ∧ ∀ (c : Addr) (H' : Hp), RowAt K H' c ss.reverse → Same H H' → Q (.ref c) H'
theorem len_Row_neg {K : PySem.W.Frag} : ∀ vs H Q E, sp_Row_neg K vs H Q E → vs.length = 1 := by rintro _ _ _ _ ⟨_, _, rfl, _⟩; rfl
def sp_Row_eq (K : PySem.W.Frag) : Sp := fun vs H Q E => ∃ (a : Addr) (y : V) (ss : List Str), vs = [.ref a, y] ∧ RowAt K H a ss ∧ (∀ s ∈ ss, isNm s) ∧ ((∃ (b : Addr) (tt : List Str), y = .ref b ∧ RowAt K H b tt ∧ (∀ s ∈ tt, isNm s) ∧ Q (.bl (decide (ss = tt))) H) ∨
  ∃ t, TyX K H y (.type t) ∧ PySem.W.kitOne K (.type t) (.ref (He.ga K "Row")) = some false ∧ Q (.bl false) H)
theorem len_Row_eq {K : PySem.W.Frag} : ∀ vs H Q E, sp_Row_eq K vs H Q E → vs.length = 2 := by rintro _ _ _ _ ⟨_, _, _, rfl, _⟩; rfl
def sp_Row_files (K : PySem.W.Frag) : Sp := fun vs H Q E => ∃ (a : Addr) (ss : List Str), vs = [.ref a] ∧ RowAt K H a ss ∧ ss.length ≤ 2000 ∧ ∀ (t : Addr) (H' : Hp), TupAt H' t ((dst ss).map V.str) → Same H H' → Q (.ref t) H'
theorem len_Row_files {K : PySem.W.Frag} : ∀ vs H Q E, sp_Row_files K vs H Q E → vs.length = 1 := by rintro _ _ _ _ ⟨_, _, rfl, _⟩; rfl
theorem pu_Row_files {K : PySem.W.Frag} (R : RowK K) : ∀ vs H Q E, sp_Row_files K vs H Q E → t_Row_files K E { nx := fun _ H' => Q .non H', rt := Q } (start n_Row_files vs) H := by
  rintro _ H Q E ⟨a, ss, rfl, ⟨dx, t, ha, ht⟩, hl, q⟩
  unfold t_Row_files n_Row_files
  walk_at "rd"
  refine ⟨a, _, dx, _, _, rfl, ha, R.cls, R.looks, rfl, t, _, rfl, ht.sq, ?_⟩
  have z : (2000 : Nat) ≤ sizeLine := by decide
  refine lg walk_enumT (fun D i H' => Same H H' ∧ H' D = some (.lst ((dstN ss i).map V.str))) (fun D hD => ⟨Same.new hD, upd_same⟩) (fun D hD i H' _ h => SqT.same ht.sq h.1) ?_ ?_
  · rintro D hD i x H1 _ hi ⟨s1, h1⟩ ⟨T, x1, x2, rfl, hT, rfl, e1, e2⟩
    cases e1
    have e2 : (ss.map V.str)[i]? = some x2 := e2
    rw [List.getElem?_map] at e2
    obtain ⟨s, es, rfl⟩ := Option.map_eq_some_iff.mp e2
    have s2 := Same.new2 (o := .tup [.int i, .str s]) s1 hT
    have h2 := at_new (o := .tup [.int i, .str s]) hT h1
    have hD2 : D ≠ T := ne_of_none h1 hT
    have hi2 : i < ss.length := by rw [List.length_map] at hi; exact hi
    refine tup2 ?_
    revert s2 h2
    generalize upd H1 T (.tup [.int i, .str s]) = H2
    intro s2 h2
    unfold t_Row_files_i1 t_Row_files_e1
    walk_at "rd"
    refine ⟨a, _, dx, _, _, rfl, s2 _ _ ha, R.cls, R.looks, rfl, ?_⟩
    have key : ∀ (p : Addr) (H3 : Hp), SqT K H3 p ((ss.take i).map V.str) → Same H H3 → H3 D = some (.lst ((dstN ss i).map V.str)) → oIn K true (.str s) (.ref p) H3 fun x H' => ∃ k, x = V.bl k ∧ if k = true then ∃ acc, H' D = some (.lst acc) ∧ acc.length < sizeLine ∧ Same H (upd H' D (.lst (acc ++ [.str s]))) ∧ upd H' D (.lst (acc ++ [.str s])) D = some (.lst ((dstN ss (i + 1)).map V.str)) else Same H H' ∧ H' D = some (.lst ((dstN ss (i + 1)).map V.str)) := by
      intro p H3 hp s3 h3
      refine inT hp rfl (flat_strs _) ⟨_, rfl, ?_⟩
      have ed : dstN ss (i + 1) = dstN ss i ++ (if s ∈ ss.take i then [] else [s]) := by
        show dstN ss i ++ _ = _
        rw [es]
      by_cases c : s ∈ ss.take i
      · rw [if_neg (by rw [in_strs.mpr c]; decide), ed, if_pos c, List.append_nil]
        exact ⟨s3, h3⟩
      · rw [if_pos (by rw [in_strs_no c]; rfl), ed, if_neg c]
        refine ⟨_, h3, by have := dstN_len ss i; rw [List.length_map]; omega, fun b u e => at_set (ne_of_none e hD) (s3 _ _ e), ?_⟩
        rw [upd_same, List.map_append]; rfl
    refine .inr (.inl ⟨t, _, rfl, SqT.same ht.sq s2, fun e => ?_, fun _ p hp => ?_⟩)
    · exfalso
      have e2 := e.2
      rw [HT.sIx_nat, List.length_map] at e2
      omega
    · rw [cutV_hi, ← List.map_take]
      have := key p _ (SqT.of upd_same) (Same.new2 s2 hp) (at_new hp h2)
      revert this
      walk_at "rd" <;> exact id
  · rintro D hD H1 ⟨s1, h1⟩
    rw [List.length_map] at h1
    refine ⟨D, _, rfl, .inl ⟨SqL.of h1, .inr fun l ob hl hd _ => ?_⟩⟩
    exact q l _ ⟨ob, upd_same, hd⟩ (Same.new2 s1 hl)
def sp_l_distinct (K : PySem.W.Frag) : Sp := fun vs H Q E => ∃ (a : Addr) (ss : List Str), vs = [.ref a] ∧ SqL K H a (ss.map V.str) ∧ ss.length ≤ 2000 ∧ ∀ (t : Addr) (H' : Hp), TupAt H' t ((dst ss).map V.str) → Same H H' → Q (.ref t) H'
theorem len_l_distinct {K : PySem.W.Frag} : ∀ vs H Q E, sp_l_distinct K vs H Q E → vs.length = 1 := by rintro _ _ _ _ ⟨_, _, rfl, _⟩; rfl
theorem eqRow {K : PySem.W.Frag} {H : Hp} {Q : VK} {a b : Addr} {ss tt : List Str} (C : ClsI K (He.ga K "Row")) (ha : RowAt K H a ss) (hb : RowAt K H b tt) (hs : ∀ s ∈ ss, isNm s) (ht : ∀ s ∈ tt, isNm s) (q : Q (.bl (decide (ss = tt))) H) :
    rCmpO K (He.ga K "Row") (sp_Row_eq K) (.ref a) (.ref b) H Q := by
  obtain ⟨dx, t, e, _⟩ := id ha
  obtain ⟨dx2, t2, e2, _⟩ := id hb
  exact ⟨a, dx, _, _, rfl, e, C.ty e2, C.nf, a, _, ss, rfl, ha, hs, .inl ⟨b, tt, rfl, hb, ht, q⟩⟩
theorem eqOther {K : PySem.W.Frag} {H : Hp} {Q : VK} {a : Addr} {y : V} {ss : List Str} {t : String} (ha : RowAt K H a ss) (hs : ∀ s ∈ ss, isNm s) (ty : TyX K H y (.type t)) (nf : PySem.W.notFirst K (He.ga K "Row") (.type t) = true)
    (kt : PySem.W.kitOne K (.type t) (.ref (He.ga K "Row")) = some false) (q : Q (.bl false) H) : rCmpO K (He.ga K "Row") (sp_Row_eq K) (.ref a) y H Q := by
  obtain ⟨dx, t0, e, _⟩ := id ha
  exact ⟨a, dx, _, _, rfl, e, ty, nf, a, y, ss, rfl, ha, hs, .inr ⟨t, ty, kt, q⟩⟩
theorem isB {H : Hp} {Q : VK} {a b : Bool} (q : Q (.bl (a == b)) H) : rIsB (.bl a) (.bl b) H Q := ⟨a, b, rfl, rfl, q⟩
/-! ### first and last looks -/
/-- some look at x stands before some look at y -/
def Bf (ss : List Str) (x y : Str) : Prop := ∃ i j : Nat, i < j ∧ ss[i]? = some x ∧ ss[j]? = some y
theorem first_at {α : Type} [DecidableEq α] {x : α} : ∀ {l : List α}, x ∈ l → ∃ j : Nat, l[j]? = some x ∧ ∀ m : Nat, m < j → l[m]? ≠ some x
  | [], h => absurd h List.not_mem_nil
  | a :: l, h => by
    by_cases e : a = x
    · subst e
      exact ⟨0, rfl, fun m hm => absurd hm (Nat.not_lt_zero _)⟩
    · have h2 : x ∈ l := (List.mem_cons.mp h).resolve_left fun q => e q.symm
      obtain ⟨j, h1, h3⟩ := first_at h2
      refine ⟨j + 1, h1, fun m hm => ?_⟩
      cases m with
      | zero => intro q; cases q; exact e rfl
      | succ m => exact h3 m (by omega)
def sp_first_look (K : PySem.W.Frag) : Sp := fun vs H Q _ => ∃ (t : Addr) (s : Str) (ss : List Str), vs = [.ref t, .str s] ∧ TupAt H t (ss.map V.str) ∧ s ∈ ss ∧ ∀ j : Nat, ss[j]? = some s → (∀ m : Nat, m < j → ss[m]? ≠ some s) → Q (.int j) H
theorem len_first_look {K : PySem.W.Frag} : ∀ vs H Q E, sp_first_look K vs H Q E → vs.length = 2 := by rintro _ _ _ _ ⟨_, _, _, rfl, _⟩; rfl
theorem pu_first_look {K : PySem.W.Frag} : ∀ vs H Q E, sp_first_look K vs H Q E → t_first_look K E { nx := fun _ H' => Q .non H', rt := Q } (start n_first_look vs) H := by
  rintro _ H Q E ⟨t, s, ss, rfl, ht, hs, q⟩
  unfold t_first_look n_first_look
  walk_at "rd"
  obtain ⟨j, h1, h2⟩ := first_at hs
  obtain ⟨ob, e, d⟩ := id ht
  exact ⟨t, ob, rfl, ⟨_, e⟩, d, ss, s, j, rfl, ht.sq, h1, h2, q j h1 h2⟩
def sp_last_look (K : PySem.W.Frag) : Sp := fun vs H Q _ => ∃ (t : Addr) (s : Str) (ss : List Str), vs = [.ref t, .str s] ∧ TupAt H t (ss.map V.str) ∧ s ∈ ss ∧ ∀ (j : Nat) (H' : Hp), ss[j]? = some s → (∀ m : Nat, j < m → ss[m]? ≠ some s) → Same H H' → Q (.int j) H'
theorem len_last_look {K : PySem.W.Frag} : ∀ vs H Q E, sp_last_look K vs H Q E → vs.length = 2 := by rintro _ _ _ _ ⟨_, _, _, rfl, _⟩; rfl
theorem pu_last_look {K : PySem.W.Frag} : ∀ vs H Q E, sp_last_look K vs H Q E → t_last_look K E { nx := fun _ H' => Q .non H', rt := Q } (start n_last_look vs) H := by
  rintro _ H Q E ⟨t, s, ss, rfl, ht, hs, q⟩
  unfold t_last_look n_last_look
  walk_at "rd"
  refine lenT ht.sq ?_
  rw [List.length_map]
  walk_at "rd"
  refine ⟨t, _, rfl, .inr ⟨ht.sq, .inr fun l ob hl hd _ => ?_⟩⟩
  obtain ⟨j, h1, h2⟩ := first_at (List.mem_reverse.mpr hs)
  have hj : j < ss.length := by have := (List.getElem?_eq_some_iff.mp h1).1; rw [List.length_reverse] at this; exact this
  refine ⟨l, ob, rfl, ⟨_, upd_same⟩, hd, ss.reverse, s, j, rfl, by rw [List.map_reverse]; exact .inl (.inr ⟨ob, upd_same⟩), h1, h2, ?_⟩
  have e : (ss.length : Int) - 1 - (j : Int) = ((ss.length - 1 - j : Nat) : Int) := by omega
  walk_at "rd"
  rw [e]
  rw [List.getElem?_reverse hj] at h1
  refine q _ _ h1 (fun m hm e2 => ?_) (Same.new hl)
  have hml : m < ss.length := (List.getElem?_eq_some_iff.mp e2).1
  have := h2 (ss.length - 1 - m) (by omega)
  rw [List.getElem?_reverse (by omega)] at this
  rw [show ss.length - 1 - (ss.length - 1 - m) = m by omega] at this
  exact this e2
theorem bf_iff {ss : List Str} {x y : Str} {i j : Nat} (h1 : ss[i]? = some x) (h2 : ∀ m : Nat, m < i → ss[m]? ≠ some x) (h3 : ss[j]? = some y) (h4 : ∀ m : Nat, j < m → ss[m]? ≠ some y) : i < j ↔ Bf ss x y := by
  constructor
  · intro h
    exact ⟨i, j, h, h1, h3⟩
  · rintro ⟨a, b, hab, ha, hb⟩
    have e1 : i ≤ a := Nat.le_of_not_lt fun h => h2 a h ha
    have e2 : b ≤ j := Nat.le_of_not_lt fun h => h4 b h hb
    omega
def sp_is_before (K : PySem.W.Frag) : Sp := fun vs H Q _ => ∃ (t : Addr) (x y : Str) (ss : List Str), vs = [.ref t, .str x, .str y] ∧ TupAt H t (ss.map V.str) ∧ x ∈ ss ∧ y ∈ ss ∧ ∀ (b : Bool) (H' : Hp), (b = true ↔ Bf ss x y) → Same H H' → Q (.bl b) H'
theorem len_is_before {K : PySem.W.Frag} : ∀ vs H Q E, sp_is_before K vs H Q E → vs.length = 3 := by rintro _ _ _ _ ⟨_, _, _, _, rfl, _⟩; rfl
theorem pu_is_before {K : PySem.W.Frag} : ∀ vs H Q E, sp_is_before K vs H Q E → t_is_before K (sp_first_look K) (sp_last_look K) E { nx := fun _ H' => Q .non H', rt := Q } (start n_is_before vs) H := by
  rintro _ H Q E ⟨t, x, y, ss, rfl, ht, hx, hy, q⟩
  unfold t_is_before n_is_before
  walk_at "rd"
  refine ⟨t, x, ss, rfl, ht, hx, fun i h1 h2 => ⟨t, y, ss, rfl, ht, hy, fun j H' h3 h4 s => ?_⟩⟩
  walk_at "rd"
  refine q _ _ ?_ s
  rw [decide_eq_true_eq, ← bf_iff h1 h2 h3 h4]
  omega
def sp_Row_before (K : PySem.W.Frag) : Sp := fun vs H Q E => ∃ (a : Addr) (s1 s2 : Str) (ss : List Str), vs = [.ref a, .str s1, .str s2] ∧ RowAt K H a ss ∧ ((s1 ∉ ss ∧ Rz K "NoFile" "name" (.str s1) H E) ∨ (s1 ∈ ss ∧ s2 ∉ ss ∧ Rz K "NoFile" "name" (.str s2) H E) ∨
  (s1 ∈ ss ∧ s2 ∈ ss ∧ ∀ (b : Bool) (H' : Hp), (b = true ↔ Bf ss s1 s2) → Same H H' → Q (.bl b) H'))
theorem len_Row_before {K : PySem.W.Frag} : ∀ vs H Q E, sp_Row_before K vs H Q E → vs.length = 3 := by rintro _ _ _ _ ⟨_, _, _, _, rfl, _⟩; rfl
theorem pu_Row_before {K : PySem.W.Frag} (R : RowK K) : ∀ vs H Q E, sp_Row_before K vs H Q E → t_Row_before K (sp_first_look K) (sp_last_look K) E { nx := fun _ H' => Q .non H', rt := Q } (start n_Row_before vs) H := by
  rintro _ H Q E ⟨a, s1, s2, ss, rfl, hr, h⟩
  unfold t_Row_before n_Row_before
  walk_at "rd"
  refine ⟨by decide, fun tp htp => ⟨⟨_, SqT.of upd_same⟩, ?_⟩⟩
  have s0 : Same H (upd H tp (.tup [.str s1, .str s2])) := Same.new htp
  obtain ⟨dx, t, ha, ht⟩ := hr.same s0
  refine fg (walk_tup (xs := [.str s1, .str s2])) (fun i σ H' => H' = upd H tp (.tup [.str s1, .str s2]) ∧ (∃ x3, σ = [some (.ref a), some (.str s1), some (.str s2), x3]) ∧ ((0 < i → s1 ∈ ss) ∧ (1 < i → s2 ∈ ss))) ⟨rfl, ⟨_, rfl⟩, fun h => absurd h (by decide), fun h => absurd h (by decide)⟩ (fun i σ H' _ h => h.1 ▸ SqT.of upd_same) ?_ ?_
  · rintro i v _ _ _ hi ⟨rfl, ⟨x3, rfl⟩, m1, m2⟩ ⟨rfl, hv⟩
    unfold t_Row_before_b1
    walk_at "rd"
    refine ⟨a, _, dx, _, _, rfl, ha, R.cls, R.looks, rfl, ?_⟩
    have go : ∀ s : Str, v = .str s → (s ∉ ss → Rz K "NoFile" "name" (.str s) H E) → (s ∈ ss → (0 < i + 1 → s1 ∈ ss) ∧ (1 < i + 1 → s2 ∈ ss)) → oIn K true v (V.ref t) (upd H tp (.tup [.str s1, .str s2])) fun x H' => ∃ k, x = V.bl k ∧ if k = true then ∀ d, H' d = none → E (.ref (He.ga K "NoFile")) (some d) (upd H' d (.xd [("name", v)])) else H' = upd H tp (.tup [.str s1, .str s2]) ∧ (∃ x3, [some (V.ref a), some (.str s1), some (.str s2), some v] = [some (V.ref a), some (.str s1), some (.str s2), x3]) ∧ (0 < i + 1 → s1 ∈ ss) ∧ (1 < i + 1 → s2 ∈ ss) := by
      rintro s rfl hz hin
      refine inT ht.sq rfl (flat_strs ss) ⟨_, rfl, ?_⟩
      by_cases c : s ∈ ss
      · rw [if_neg (by simp [in_strs.mpr c])]
        exact ⟨rfl, ⟨_, rfl⟩, hin c⟩
      · rw [if_pos (by rw [in_strs_no c]; rfl)]
        exact fun d hd => hz c _ d s0 hd
    have hi2 : i = 0 ∨ i = 1 := by simp at hi; omega
    rcases hi2 with rfl | rfl
    · cases hv
      refine go s1 rfl (fun c => ?_) (fun c => ⟨fun _ => c, fun h => absurd h (by decide)⟩)
      rcases h with h | h | h
      · exact h.2
      · exact absurd h.1 c
      · exact absurd h.1 c
    · cases hv
      refine go s2 rfl (fun c => ?_) (fun c => ⟨fun _ => m1 (by decide), fun _ => c⟩)
      rcases h with h | h | h
      · exact absurd (m1 (by decide)) h.1
      · exact h.2.2
      · exact absurd h.2.1 c
  · rintro _ _ ⟨rfl, ⟨x3, rfl⟩, m1, m2⟩
    have k1 := m1 (by simp)
    have k2 := m2 (by simp)
    rcases h with h | h | h
    · exact absurd k1 h.1
    · exact absurd k2 h.2.1
    · walk_at "rd"
      refine ⟨a, _, dx, _, _, rfl, ha, R.cls, R.looks, rfl, t, s1, ss, rfl, ht, k1, fun i h1 h2 => ⟨a, _, dx, _, _, rfl, ha, R.cls, R.looks, rfl, t, s2, ss, rfl, ht, k2, fun j H' h3 h4 s => ?_⟩⟩
      walk_at "rd"
      refine h.2.2 _ _ ?_ (s0.trans s)
      rw [decide_eq_true_eq, ← bf_iff h1 h2 h3 h4]
      omega
/-! ### sorted texts -/
theorem risingS_pw : ∀ (p : Str) (l : List Str), risingS p l = true → (p :: l).Pairwise (fun a b => cl a ≤ cl b)
  | p, [], _ => List.pairwise_singleton _ _
  | p, x :: r, h => by
    have h : (!Spec.ltCps x.cps.toList p.cps.toList && risingS x r) = true := h
    rw [Bool.and_eq_true, Bool.not_eq_true', ltCps_eq, decide_eq_false_iff_not] at h
    have h2 := risingS_pw x r h.2
    have px : cl p ≤ cl x := h.1
    refine List.pairwise_cons.mpr ⟨fun y hy => ?_, h2⟩
    rcases List.mem_cons.mp hy with e | hy
    · subst e; exact px
    · exact List.le_trans px ((List.pairwise_cons.mp h2).1 y hy)
theorem sortedS_pw : ∀ (l : List Str), sortedS l = true → l.Pairwise (fun a b => cl a ≤ cl b)
  | [], _ => .nil
  | x :: r, h => risingS_pw x r h
theorem sorted_eq {a b : List Str} (ha : sortedS a = true) (hb : sortedS b = true) (p : a.Perm b) : a = b :=
  List.Perm.eq_of_pairwise (le := fun a b => cl a ≤ cl b) (fun x y _ _ h1 h2 => cl_inj (List.le_antisymm h1 h2)) (sortedS_pw a ha) (sortedS_pw b hb) p
/-! ### the different ones -/
theorem dstN_take (ss : List Str) : ∀ n, n ≤ ss.length → ∀ s, s ∈ dstN ss n ↔ s ∈ ss.take n
  | 0, _, s => by simp [dstN]
  | n + 1, h, s => by
    have hn : n < ss.length := h
    show s ∈ dstN ss n ++ _ ↔ _
    rw [List.mem_append, dstN_take ss n (by omega) s, List.getElem?_eq_getElem hn, List.take_succ_eq_append_getElem hn, List.mem_append, List.mem_singleton]
    show _ ∨ s ∈ (if ss[n] ∈ ss.take n then [] else [ss[n]]) ↔ _
    split
    · rename_i c
      constructor
      · rintro (h | h)
        · exact .inl h
        · exact absurd h List.not_mem_nil
      · rintro (h | h)
        · exact .inl h
        · subst h; exact .inl c
    · rw [List.mem_singleton]
theorem mem_dst {ss : List Str} {s : Str} : s ∈ dst ss ↔ s ∈ ss := by
  unfold dst
  rw [dstN_take ss _ (Nat.le_refl _), List.take_length]
theorem dstN_nodup (ss : List Str) : ∀ n, n ≤ ss.length → (dstN ss n).Nodup
  | 0, _ => List.nodup_nil
  | n + 1, h => by
    have hn : n < ss.length := h
    show (dstN ss n ++ _).Nodup
    rw [List.getElem?_eq_getElem hn]
    show (dstN ss n ++ (if ss[n] ∈ ss.take n then [] else [ss[n]])).Nodup
    split
    · rw [List.append_nil]; exact dstN_nodup ss n (by omega)
    · rename_i c
      rw [List.nodup_append]
      refine ⟨dstN_nodup ss n (by omega), List.nodup_cons.mpr ⟨List.not_mem_nil, List.nodup_nil⟩, fun a ha b hb e => ?_⟩
      rw [List.mem_singleton] at hb
      subst hb; subst e
      exact c ((dstN_take ss n (by omega) _).mp ha)
theorem dst_nodup (ss : List Str) : (dst ss).Nodup := dstN_nodup ss _ (Nat.le_refl _)
theorem nodup_perm {a b : List Str} (ha : a.Nodup) (hb : b.Nodup) (h : ∀ s, s ∈ a ↔ s ∈ b) : a.Perm b := (List.perm_ext_iff_of_nodup ha hb).mpr h
def SameF (ss tt : List Str) : Prop := ∀ s, s ∈ ss ↔ s ∈ tt
def sp_same_files (K : PySem.W.Frag) : Sp := fun vs H Q _ => ∃ (a b : Addr) (ss tt : List Str), vs = [.ref a, .ref b] ∧ RowAt K H a ss ∧ RowAt K H b tt ∧ (∀ s ∈ ss, isNm s) ∧ (∀ s ∈ tt, isNm s) ∧ ss.length ≤ 60 ∧ tt.length ≤ 60 ∧
  ∀ (b : Bool) (H' : Hp), (b = true ↔ SameF ss tt) → Same H H' → Q (.bl b) H'
theorem len_same_files {K : PySem.W.Frag} : ∀ vs H Q E, sp_same_files K vs H Q E → vs.length = 2 := by rintro _ _ _ _ ⟨_, _, _, _, rfl, _⟩; rfl
theorem pu_same_files {K : PySem.W.Frag} (R : RowK K) : ∀ vs H Q E, sp_same_files K vs H Q E → t_same_files K (sp_Row_files K) E { nx := fun _ H' => Q .non H', rt := Q } (start n_same_files vs) H := by
  rintro _ H Q E ⟨a, b, ss, tt, rfl, ha, hb, hs, ht, l1, l2, q⟩
  have z : (2000 : Nat) ≤ sizeLine := by decide
  unfold t_same_files n_same_files
  walk_at "rd"
  obtain ⟨dx, t, ea, _⟩ := id ha
  refine ⟨a, dx, _, rfl, ea, a, ss, rfl, ha, by omega, fun t1 H1 ht1 s1 => ?_⟩
  walk_at "rd"
  refine .inr ⟨⟨_, ht1.sq⟩, ?_⟩
  have dl : ∀ l : List Str, (dst l).length ≤ l.length := fun l => dstN_len l _
  have cp : ∀ (l : List Str) (t : Addr) (Hb : Hp) (e : TE) (x : List (Option V)) (Q' : VK), l.length ≤ 60 → TupAt Hb t ((dst l).map V.str) → (∀ (i : Nat) (s : Str) (H' : Hp) (Q2 : VK), Q2 (.str s) H' → e ((wipe x [2]).set 2 (some (.str s))) H' Q2) →
      (∀ v, wipe ((wipe x [2]).set 2 v) [2] = wipe x [2]) → (∀ (D : Addr) (H' : Hp), H' D = some (.lst ((dst l).map V.str)) → Same Hb H' → Q' (.ref D) H') → LG (Itt K t) (gName 2) tYes e [2] x Hb Q' := by
    intro l t Hb e x Q' hl ht he hw hq
    refine lg walk_tup (fun D i H' => Same Hb H' ∧ H' D = some (.lst (((dst l).take i).map V.str))) (fun D hD => ⟨Same.new hD, upd_same⟩) (fun D hD i H' _ h => SqT.same ht.sq h.1) ?_ ?_
    · rintro D hD i v _ H2 hi ⟨s2, h2⟩ ⟨rfl, hv⟩
      rw [List.getElem?_map] at hv
      obtain ⟨s, es, rfl⟩ := Option.map_eq_some_iff.mp hv
      have hi2 := (List.getElem?_eq_some_iff.mp es).1
      refine ⟨hw _, ?_⟩
      simp only [tYes, if_true]
      refine he i s _ _ ⟨_, h2, by rw [List.length_map, List.length_take]; have := dl l; omega, fun b u e => at_set (ne_of_none e hD) (s2 _ _ e), ?_⟩
      rw [upd_same, List.take_add_one, es, List.map_append]
      rfl
    · rintro D hD H2 ⟨s2, h2⟩
      rw [List.length_map, List.take_length] at h2
      exact hq D H2 h2 s2
  refine cp ss t1 H1 _ _ _ l1 ht1 (fun i s H' Q2 q2 => ?_) (fun v => rfl) fun D1 H2 hD1 s2 => ?_
  · unfold t_same_files_e1
    walk_at "rd"
    exact .inr ⟨s, rfl, q2⟩
  · refine ⟨D1, dst ss, rfl, SqL.of hD1, by have := dl ss; omega, fun ys p py sy hp => ?_⟩
    have s3 : Same H (upd H2 p (.lst (ys.map V.str))) := Same.new2 (s1.trans s2) hp
    have h3 : upd H2 p (.lst (ys.map V.str)) p = some (.lst (ys.map V.str)) := upd_same
    revert s3 h3
    generalize upd H2 p (.lst (ys.map V.str)) = H3
    intro s3 h3
    obtain ⟨dx2, t2, eb, _⟩ := id (hb.same s3)
    walk_at "rd"
    refine ⟨b, dx2, _, rfl, eb, b, tt, rfl, hb.same s3, by omega, fun t4 H4 ht4 s4 => ?_⟩
    refine .inr ⟨t4, rfl, ⟨_, ht4.sq⟩, ?_⟩
    refine cp tt t4 H4 _ _ _ l2 ht4 (fun i s H' Q2 q2 => ?_) (fun v => rfl) fun D5 H5 hD5 s5 => ?_
    · unfold t_same_files_e2
      walk_at "rd"
      exact .inr ⟨s, rfl, q2⟩
    · refine ⟨D5, dst tt, rfl, SqL.of hD5, by have := dl tt; omega, fun zs p2 pz sz hp2 => ?_⟩
      have ny : ∀ s ∈ ys, isNm s := fun s h => hs s (mem_dst.mp (py.mem_iff.mp h))
      have nz : ∀ s ∈ zs, isNm s := fun s h => ht s (mem_dst.mp (pz.mem_iff.mp h))
      refine eqD (.lst (SqL.of (at_new hp2 (s5 _ _ (s4 _ _ h3)))) (DpAll.strs ys)) (.lst (SqL.of upd_same) (DpAll.strs zs)) (shaped_strs ny) (shaped_strs nz) ?_
      rw [show PyData.eqv (.list (ys.map PyData.str)) (.list (zs.map PyData.str)) = decide (ys = zs) from eqv_strs2 ys zs]
      refine q _ _ ?_ (Same.new2 (s3.trans (s4.trans s5)) hp2)
      rw [decide_eq_true_eq]
      constructor
      · rintro rfl s
        rw [← mem_dst, ← py.mem_iff, pz.mem_iff, mem_dst]
      · intro h
        exact sorted_eq sy sz (py.trans ((nodup_perm (dst_nodup ss) (dst_nodup tt) fun s => by rw [mem_dst, mem_dst]; exact h s).trans pz.symm))
/-! ### law k30 -/
def sp_fewer_before (K : PySem.W.Frag) : Sp := fun vs H Q _ => ∃ (a b : Addr) (ss tt : List Str), vs = [.ref a, .ref b] ∧ RowAt K H a ss ∧ RowAt K H b tt ∧ SameF ss tt ∧ ss.length ≤ 60 ∧ tt.length ≤ 60 ∧
  ∀ (b : Bool) (H' : Hp), (b = true ↔ ∀ x y, x ∈ ss → y ∈ ss → x ≠ y → Bf ss x y → Bf tt x y) → Same H H' → Q (.bl b) H'
theorem len_fewer_before {K : PySem.W.Frag} : ∀ vs H Q E, sp_fewer_before K vs H Q E → vs.length = 2 := by rintro _ _ _ _ ⟨_, _, _, _, rfl, _⟩; rfl
theorem pu_fewer_before {K : PySem.W.Frag} (R : RowK K) : ∀ vs H Q E, sp_fewer_before K vs H Q E → t_fewer_before K (sp_Row_files K) (sp_is_before K) E { nx := fun _ H' => Q .non H', rt := Q } (start n_fewer_before vs) H := by
  rintro _ H Q E ⟨a, b, ss, tt, rfl, ha, hb, hsf, l1, l2, q⟩
  unfold t_fewer_before n_fewer_before
  walk_at "rd"
  obtain ⟨dx, t, ea, ht⟩ := id ha
  obtain ⟨dy, t', eb, ht'⟩ := id hb
  refine ⟨a, dx, _, rfl, ea, a, ss, rfl, ha, by omega, fun t1 H1 ht1 s1 => ?_⟩
  refine .inr ⟨t1, rfl, ⟨_, ht1.sq⟩, ?_⟩
  let P : Str → Str → Prop := fun x y => x ≠ y → Bf ss x y → Bf tt x y
  refine fg walk_tup (fun i σ H' => Same H1 H' ∧ (∃ x2 x3, σ = [some (.ref a), some (.ref b), x2, x3]) ∧ ∀ j x, j < i → (dst ss)[j]? = some x → ∀ y ∈ ss, P x y) ⟨same_refl, ⟨_, _, rfl⟩, fun j x h => absurd h (Nat.not_lt_zero _)⟩ (fun i σ H' _ h => SqT.same ht1.sq h.1) ?_ ?_
  · rintro i v _ _ H2 hi ⟨s2, ⟨x2, x3, rfl⟩, hj⟩ ⟨rfl, hv⟩
    rw [List.getElem?_map] at hv
    obtain ⟨x, ex, rfl⟩ := Option.map_eq_some_iff.mp hv
    have hx : x ∈ ss := mem_dst.mp (List.mem_of_getElem? ex)
    unfold t_fewer_before_b2
    have s02 := s1.trans s2
    walk_at "rd"
    refine ⟨a, dx, _, rfl, s02 _ _ ea, a, ss, rfl, ha.same s02, by omega, fun t3 H3 ht3 s3 => ?_⟩
    refine .inr ⟨t3, rfl, ⟨_, ht3.sq⟩, ?_⟩
    refine fg walk_tup (fun k σ H' => Same H3 H' ∧ (∃ x3, σ = [some (.ref a), some (.ref b), some (.str x), x3]) ∧ ∀ j y, j < k → (dst ss)[j]? = some y → P x y) ⟨same_refl, ⟨_, rfl⟩, fun j x h => absurd h (Nat.not_lt_zero _)⟩ (fun i σ H' _ h => SqT.same ht3.sq h.1) ?_ ?_
    · rintro k v _ _ H4 hk ⟨s4, ⟨x3, rfl⟩, hm⟩ ⟨rfl, hv⟩
      rw [List.getElem?_map] at hv
      obtain ⟨y, ey, rfl⟩ := Option.map_eq_some_iff.mp hv
      have hy : y ∈ ss := mem_dst.mp (List.mem_of_getElem? ey)
      unfold t_fewer_before_b1
      have s04 := s02.trans (s3.trans s4)
      have nx : ∀ H', Same H3 H' → P x y → Same H3 H' ∧ (∃ x3, [some (V.ref a), some (.ref b), some (.str x), some (.str y)] = [some (.ref a), some (.ref b), some (.str x), x3]) ∧ ∀ j y, j < k + 1 → (dst ss)[j]? = some y → P x y := by
        intro H' s' hp
        refine ⟨s', ⟨_, rfl⟩, fun j w hj2 hw => ?_⟩
        by_cases e : j = k
        · subst e; rw [ey] at hw; cases hw; exact hp
        · exact hm j w (by omega) hw
      walk_at "rd"
      refine neF rfl ?_
      walk_at "rd"
      by_cases exy : x = y
      · rw [if_neg (by rw [decide_eq_true exy]; decide)]
        exact nx _ s4 fun ne => absurd exy ne
      · rw [if_pos (by rw [decide_eq_false exy]; rfl)]
        refine ⟨a, _, dx, _, _, rfl, s04 _ _ ea, R.cls, R.looks, rfl, t, x, y, ss, rfl, ht.same s04, hx, hy, fun b1 H5 hb1 s5 => ?_⟩
        have s05 := s04.trans s5
        walk_at "rd"
        cases b1 with
        | false =>
          walk_at "rd"
          exact nx _ (s4.trans s5) fun _ h => absurd (hb1.mpr h) (by decide)
        | true =>
          walk_at "rd"
          refine ⟨b, _, dy, _, _, rfl, s05 _ _ eb, R.cls, R.looks, rfl, t', x, y, tt, rfl, ht'.same s05, (hsf x).mp hx, (hsf y).mp hy, fun b2 H6 hb2 s6 => ?_⟩
          walk_at "rd"
          cases b2 with
          | false =>
            walk_at "rd"
            refine q false _ ⟨fun h => absurd h (by decide), fun h => ?_⟩ (s05.trans s6)
            exact hb2.mpr (h x y hx hy exy (hb1.mp rfl))
          | true =>
            walk_at "rd"
            exact nx _ (s4.trans (s5.trans s6)) fun _ _ => hb2.mp rfl
    · rintro _ H4 ⟨s4, ⟨x3, rfl⟩, hm⟩
      refine ⟨s2.trans (s3.trans s4), ⟨_, _, rfl⟩, fun j w hj2 hw y hy => ?_⟩
      by_cases e : j = i
      · subst e
        rw [ex] at hw; cases hw
        obtain ⟨m, hm1, hm2⟩ := List.getElem_of_mem (mem_dst.mpr hy)
        exact hm m y (by rw [List.length_map]; exact hm1) (by rw [List.getElem?_eq_getElem hm1, hm2])
      · exact hj j w (by omega) hw y hy
  · rintro _ H2 ⟨s2, ⟨x2, x3, rfl⟩, hj⟩
    walk_at "rd"
    refine q true _ ⟨fun _ x y hx hy => ?_, fun _ => rfl⟩ (s1.trans s2)
    obtain ⟨m, hm1, hm2⟩ := List.getElem_of_mem (mem_dst.mpr hx)
    exact hj m x (by rw [List.length_map]; exact hm1) (by rw [List.getElem?_eq_getElem hm1, hm2]) y hy

def sp_Row_le (K : PySem.W.Frag) : Sp := fun vs H Q _ => ∃ (a b : Addr) (ss tt : List Str), vs = [.ref a, .ref b] ∧ RowAt K H a ss ∧ RowAt K H b tt ∧ (∀ s ∈ ss, isNm s) ∧ (∀ s ∈ tt, isNm s) ∧ ss.length ≤ 60 ∧ tt.length ≤ 60 ∧
  ∀ (b : Bool) (H' : Hp), (b = true ↔ SameF ss tt ∧ ∀ x y, x ∈ ss → y ∈ ss → x ≠ y → Bf ss x y → Bf tt x y) → Same H H' → Q (.bl b) H'
theorem len_Row_le {K : PySem.W.Frag} : ∀ vs H Q E, sp_Row_le K vs H Q E → vs.length = 2 := by rintro _ _ _ _ ⟨_, _, _, _, rfl, _⟩; rfl
theorem pu_Row_le {K : PySem.W.Frag} (R : RowK K) (C : ClsI K (He.ga K "Row")) : ∀ vs H Q E, sp_Row_le K vs H Q E → t_Row_le K (sp_same_files K) (sp_fewer_before K) E { nx := fun _ H' => Q .non H', rt := Q } (start n_Row_le vs) H := by
  rintro _ H Q E ⟨a, b, ss, tt, rfl, ha, hb, hs, ht, l1, l2, q⟩
  unfold t_Row_le n_Row_le
  walk_at "rd"
  obtain ⟨dy, t', eb, _⟩ := id hb
  refine isiO (C.ty eb) C.self ?_
  walk_at "rd"
  refine ⟨a, b, ss, tt, rfl, ha, hb, hs, ht, l1, l2, fun b1 H1 hb1 s1 => ?_⟩
  walk_at "rd"
  cases b1 with
  | false =>
    walk_at "rd"
    exact q false _ ⟨fun h => absurd h (by decide), fun h => hb1.mpr h.1⟩ s1
  | true =>
    walk_at "rd"
    have sf := hb1.mp rfl
    refine ⟨a, b, ss, tt, rfl, ha.same s1, hb.same s1, sf, l1, l2, fun b2 H2 hb2 s2 => ?_⟩
    exact q b2 _ ⟨fun h => ⟨sf, hb2.mp h⟩, fun h => hb2.mpr h.2⟩ (s1.trans s2)
theorem cutV_lo {xs : List V} {k : Nat} : cutV xs (some (k : Int)) none = xs.drop k := by
  unfold cutV
  rw [HT.sIx_none, HT.sIx_nat]
  by_cases h : k ≤ xs.length
  · rw [Nat.min_eq_left h, List.take_of_length_le]
    rw [List.length_drop]; omega
  · rw [Nat.min_eq_right (by omega), List.drop_eq_nil_of_le (by omega : xs.length ≤ xs.length), List.drop_eq_nil_of_le (by omega : xs.length ≤ k), List.take_nil]
def sp_l_before (K : PySem.W.Frag) : Sp := fun vs H Q _ => ∃ (l : Addr) (x y : Str) (ss : List Str), vs = [.ref l, .str x, .str y] ∧ SqL K H l (ss.map V.str) ∧ ss.length ≤ 60 ∧ ∀ (b : Bool) (H' : Hp), (b = true ↔ Bf ss x y) → Same H H' → Q (.bl b) H'
theorem len_l_before {K : PySem.W.Frag} : ∀ vs H Q E, sp_l_before K vs H Q E → vs.length = 3 := by rintro _ _ _ _ ⟨_, _, _, _, rfl, _⟩; rfl
theorem pu_l_before {K : PySem.W.Frag} : ∀ vs H Q E, sp_l_before K vs H Q E → t_l_before K E { nx := fun _ H' => Q .non H', rt := Q } (start n_l_before vs) H := by
  rintro _ H Q E ⟨l, x, y, ss, rfl, hl, hz, q⟩
  have z : (2000 : Nat) ≤ sizeLine := by decide
  unfold t_l_before n_l_before
  walk_at "rd"
  refine ⟨l, _, rfl, hl, ?_⟩
  refine lg walk_enum (fun D i H' => Same H H' ∧ ∃ ps : List Nat, ps.length ≤ i ∧ (∀ k, k ∈ ps ↔ k < i ∧ ss[k]? = some x) ∧ H' D = some (.lst (ps.map fun k => V.int (k : Nat)))) (fun D hD => ⟨Same.new hD, [], Nat.le_refl _, fun k => ⟨fun h => absurd h List.not_mem_nil, fun h => absurd h.1 (Nat.not_lt_zero _)⟩, upd_same⟩) (fun D hD i H' _ h => SqL.same hl h.1) ?_ ?_
  · rintro D hD i v H1 _ hi ⟨s1, ps, p1, p2, h1⟩ ⟨T, x1, x2, rfl, hT, rfl, e1, e2⟩
    cases e1
    have e2 : (ss.map V.str)[i]? = some x2 := e2
    rw [List.getElem?_map] at e2
    obtain ⟨s, es, rfl⟩ := Option.map_eq_some_iff.mp e2
    have s2 := Same.new2 (o := .tup [.int i, .str s]) s1 hT
    have h2 := at_new (o := .tup [.int i, .str s]) hT h1
    have hi2 : i < ss.length := by rw [List.length_map] at hi; exact hi
    refine tup2 ?_
    revert s2 h2
    generalize upd H1 T (.tup [.int i, .str s]) = H2
    intro s2 h2
    unfold t_l_before_i1 t_l_before_e1
    walk_at "rd"
    refine eqF rfl ?_
    walk_at "rd"
    by_cases c : s = x
    · subst c
      rw [if_pos rfl]
      refine ⟨_, h2, by rw [List.length_map]; omega, fun b u e => at_set (ne_of_none e hD) (s2 _ _ e), ps ++ [i], by rw [List.length_append]; simp only [List.length_singleton]; omega, fun k => ?_, ?_⟩
      · rw [List.mem_append, List.mem_singleton, p2]
        constructor
        · rintro (h | h)
          · exact ⟨by omega, h.2⟩
          · subst h; exact ⟨by omega, es⟩
        · rintro ⟨h1, h2⟩
          by_cases e : k = i
          · exact .inr e
          · exact .inl ⟨by omega, h2⟩
      · rw [upd_same, List.map_append]; rfl
    · rw [if_neg c]
      refine ⟨s2, ps, by omega, fun k => ?_, h2⟩
      rw [p2]
      constructor
      · rintro ⟨h1, h2⟩; exact ⟨by omega, h2⟩
      · rintro ⟨h1, h2⟩
        refine ⟨?_, h2⟩
        by_cases e : k = i
        · subst e; rw [es] at h2; cases h2; exact absurd rfl c
        · omega
  · rintro D hD H1 ⟨s1, ps, p1, p2, h1⟩
    rw [List.length_map] at p2
    walk_at "rd"
    refine .inl ⟨⟨_, SqL.of h1⟩, ?_⟩
    refine fg walk_list (fun i σ H' => Same H H' ∧ H' D = some (.lst (ps.map fun k => V.int (k : Nat))) ∧ (∃ x4, σ = [some (.ref l), some (.str x), some (.str y), some (.ref D), x4, none, none]) ∧ ∀ j k, j < i → ps[j]? = some k → y ∉ ss.drop (k + 1)) ⟨s1, h1, ⟨_, rfl⟩, fun j k h => absurd h (Nat.not_lt_zero _)⟩ (fun i σ H' _ h => SqL.of h.2.1) ?_ ?_
    · rintro i v _ _ H2 hi ⟨s2, h2, ⟨x4, rfl⟩, hj⟩ ⟨rfl, hv⟩
      rw [List.getElem?_map] at hv
      obtain ⟨k, ek, rfl⟩ := Option.map_eq_some_iff.mp hv
      unfold t_l_before_b1
      walk_at "rd"
      refine slL (SqL.same hl s2) fun p hp => ?_
      have ec : cutV (ss.map V.str) (some ((k : Int) + 1)) none = (ss.drop (k + 1)).map V.str := by
        rw [show ((k : Int) + 1) = ((k + 1 : Nat) : Int) by omega, cutV_lo, List.map_drop]
      rw [ec]
      refine inL (SqL.of upd_same) rfl (flat_strs _) ?_
      walk_at "rd"
      have s3 := Same.new2 (o := .lst ((ss.drop (k + 1)).map V.str)) s2 hp
      have hk := (p2 k).mp (List.mem_of_getElem? ek)
      by_cases c : y ∈ ss.drop (k + 1)
      · rw [if_pos (by rw [in_strs.mpr c])]
        refine q true _ ⟨fun _ => ?_, fun _ => rfl⟩ s3
        obtain ⟨m, hm1, hm2⟩ := List.getElem_of_mem c
        refine ⟨k, k + 1 + m, by omega, hk.2, ?_⟩
        rw [← List.getElem?_drop, List.getElem?_eq_getElem hm1, hm2]
      · rw [if_neg (by rw [in_strs_no c]; decide)]
        refine ⟨s3, at_new hp h2, ⟨_, rfl⟩, fun j k' hj2 hk' => ?_⟩
        by_cases e : j = i
        · subst e; rw [ek] at hk'; cases hk'; exact c
        · exact hj j k' (by omega) hk'
    · rintro _ H2 ⟨s2, h2, ⟨x4, rfl⟩, hj⟩
      walk_at "rd"
      refine q false _ ⟨fun h => absurd h (by decide), fun h => ?_⟩ s2
      exfalso
      obtain ⟨i, j, hij, hi, hjj⟩ := h
      have hil := (List.getElem?_eq_some_iff.mp hi).1
      obtain ⟨m, hm1, hm2⟩ := List.getElem_of_mem ((p2 i).mpr ⟨hil, hi⟩)
      refine hj m i (by rw [List.length_map]; exact hm1) (by rw [List.getElem?_eq_getElem hm1, hm2]) ?_
      refine List.mem_of_getElem? (i := j - (i + 1)) ?_
      rw [List.getElem?_drop, show i + 1 + (j - (i + 1)) = j by omega]
      exact hjj
def sp_l_right (K : PySem.W.Frag) : Sp := fun vs H Q _ => ∃ (a l n : Addr) (ss nm : List Str), vs = [.ref a, .ref l, .ref n] ∧ RowAt K H a ss ∧ SqL K H l (ss.map V.str) ∧ SqL K H n (nm.map V.str) ∧ (∀ s ∈ nm, s ∈ ss) ∧ ss.length ≤ 60 ∧ ∀ (H' : Hp), Same H H' → Q (.bl true) H'
theorem len_l_right {K : PySem.W.Frag} : ∀ vs H Q E, sp_l_right K vs H Q E → vs.length = 3 := by rintro _ _ _ _ ⟨_, _, _, _, _, rfl, _⟩; rfl
theorem pu_l_right {K : PySem.W.Frag} : ∀ vs H Q E, sp_l_right K vs H Q E → t_l_right K (sp_Row_before K) (sp_l_before K) E { nx := fun _ H' => Q .non H', rt := Q } (start n_l_right vs) H := by
  rintro _ H Q E ⟨a, l, n, ss, nm, rfl, ha, hl, hn, hsub, hz, q⟩
  obtain ⟨dx, t, ea, _⟩ := id ha
  unfold t_l_right n_l_right
  walk_at "rd"
  refine ⟨⟨_, hn⟩, ?_⟩
  refine fg walk_list (fun i σ H' => Same H H' ∧ ∃ x3 x4 x5, σ = [some (.ref a), some (.ref l), some (.ref n), x3, x4, x5]) ⟨same_refl, _, _, _, rfl⟩ (fun i σ H' _ h => SqL.same hn h.1) ?_ ?_
  · rintro i v _ _ H1 hi ⟨s1, x3, x4, x5, rfl⟩ ⟨rfl, hv⟩
    rw [List.getElem?_map] at hv
    obtain ⟨x, ex, rfl⟩ := Option.map_eq_some_iff.mp hv
    have hx := hsub x (List.mem_of_getElem? ex)
    unfold t_l_right_b2
    walk_at "rd"
    refine ⟨⟨_, SqL.same hn s1⟩, ?_⟩
    refine fg walk_list (fun i σ H' => Same H H' ∧ ∃ x4 x5, σ = [some (.ref a), some (.ref l), some (.ref n), some (.str x), x4, x5]) ⟨s1, _, _, rfl⟩ (fun i σ H' _ h => SqL.same hn h.1) ?_ ?_
    · rintro k v _ _ H2 hk ⟨s2, x4, x5, rfl⟩ ⟨rfl, hv⟩
      rw [List.getElem?_map] at hv
      obtain ⟨y, ey, rfl⟩ := Option.map_eq_some_iff.mp hv
      have hy := hsub y (List.mem_of_getElem? ey)
      unfold t_l_right_b1
      walk_at "rd"
      refine ⟨a, dx, _, rfl, s2 _ _ ea, rfl, a, x, y, ss, rfl, ha.same s2, .inr (.inr ⟨hx, hy, fun b1 H3 hb1 s3 => ?_⟩)⟩
      have s03 := s2.trans s3
      refine ⟨l, x, y, ss, rfl, SqL.same hl s03, hz, fun b2 H4 hb2 s4 => ?_⟩
      have e : b1 = b2 := by
        cases b1 <;> cases b2
        · rfl
        · exact absurd (hb1.mpr (hb2.mp rfl)) (by decide)
        · exact absurd (hb2.mpr (hb1.mp rfl)) (by decide)
        · rfl
      subst e
      refine neF (by cases b1 <;> rfl) ?_
      rw [decide_eq_true rfl]
      walk_at "rd"
      refine isiF (t := "bool") (r := true) (.base (.bl _)) rfl ?_
      walk_at "rd"
      exact ⟨s03.trans s4, _, _, rfl⟩
    · rintro _ H2 ⟨s2, x4, x5, rfl⟩
      exact ⟨s2, _, _, _, rfl⟩
  · rintro _ H1 ⟨s1, x3, x4, x5, rfl⟩
    walk_at "rd"
    exact q _ s1
/-! ### lists of pairs -/
def PrL (H : Hp) : List V → List (Str × Str) → Prop
  | [], [] => True
  | v :: vs, p :: ps => (∃ t, v = .ref t ∧ H t = some (.tup [.str p.1, .str p.2])) ∧ PrL H vs ps
  | _, _ => False
theorem PrL.same {H H' : Hp} (s : Same H H') : ∀ {vs : List V} {ps : List (Str × Str)}, PrL H vs ps → PrL H' vs ps
  | [], [], _ => trivial
  | v :: vs, p :: ps, ⟨⟨t, e, h⟩, r⟩ => ⟨⟨t, e, s _ _ h⟩, PrL.same s r⟩
theorem PrL.set {H : Hp} {r : Addr} {xs : List V} {o : HO} (hr : H r = some (.lst xs)) : ∀ {vs : List V} {ps : List (Str × Str)}, PrL H vs ps → PrL (upd H r o) vs ps
  | [], [], _ => trivial
  | v :: vs, p :: ps, ⟨⟨t, e, h⟩, q⟩ => ⟨⟨t, e, at_set (fun e => by subst e; rw [hr] at h; cases h) h⟩, PrL.set hr q⟩
theorem PrL.snoc {H : Hp} {t : Addr} {x y : Str} (ht : H t = some (.tup [.str x, .str y])) : ∀ {vs : List V} {ps : List (Str × Str)}, PrL H vs ps → PrL H (vs ++ [.ref t]) (ps ++ [(x, y)])
  | [], [], _ => ⟨⟨t, rfl, ht⟩, trivial⟩
  | v :: vs, p :: ps, ⟨h, q⟩ => ⟨h, PrL.snoc ht q⟩
theorem PrL.len {H : Hp} : ∀ {vs : List V} {ps : List (Str × Str)}, PrL H vs ps → vs.length = ps.length
  | [], [], _ => rfl
  | v :: vs, p :: ps, ⟨_, q⟩ => congrArg (· + 1) (PrL.len q)
def prD (p : Str × Str) : PyData := .tuple [.str p.1, .str p.2]
theorem PrL.dp {K : PySem.W.Frag} {H : Hp} : ∀ {vs : List V} {ps : List (Str × Str)}, PrL H vs ps → DpAll K H vs (ps.map prD)
  | [], [], _ => .nil
  | v :: vs, p :: ps, ⟨⟨t, e, h⟩, q⟩ => by
    subst e
    exact .cons (.tup (SqT.of h) (.cons (.str _) (.cons (.str _) .nil))) (PrL.dp q)
theorem PrL.get {H : Hp} : ∀ {vs : List V} {ps : List (Str × Str)} {i : Nat} {v : V}, PrL H vs ps → vs[i]? = some v → ∃ (t : Addr) (p : Str × Str), v = .ref t ∧ ps[i]? = some p ∧ H t = some (.tup [.str p.1, .str p.2])
  | [], [], i, v, _, h => by cases h
  | w :: vs, p :: ps, 0, v, ⟨⟨t, e, h⟩, q⟩, hv => by cases hv; exact ⟨t, p, e, rfl, h⟩
  | w :: vs, p :: ps, i + 1, v, ⟨_, q⟩, hv => PrL.get (vs := vs) (ps := ps) (i := i) q hv
theorem prD_eq {p r : Str × Str} : PyData.eqv (prD p) (prD r) = decide (p = r) := by
  obtain ⟨a, b⟩ := p
  obtain ⟨c, d⟩ := r
  show (PyData.eqv (.str a) (.str c) && (PyData.eqv (.str b) (.str d) && true)) = _
  by_cases h1 : a = c <;> by_cases h2 : b = d <;> simp [PyData.eqv, h1, h2]
theorem prs_shaped : ∀ {ps : List (Str × Str)}, (∀ p ∈ ps, isNm p.1 ∧ isNm p.2) → PyData.canLayAll0 (ps.map prD) = true ∧ PyData.depthAll (ps.map prD) ≤ 1
  | [], _ => ⟨rfl, Nat.zero_le _⟩
  | p :: ps, h => by
    have h1 := h p List.mem_cons_self
    have h2 := prs_shaped fun q hq => h q (List.mem_cons_of_mem _ hq)
    constructor
    · show ((PyData.strOk p.1 && (PyData.strOk p.2 && true)) && PyData.canLayAll0 (ps.map prD)) = true
      rw [strOk_nm h1.1, strOk_nm h1.2, h2.1]; rfl
    · show max (max 0 (max 0 0) + 1) (PyData.depthAll (ps.map prD)) ≤ 1
      have := h2.2
      omega
theorem shaped_prs {ps : List (Str × Str)} (h : ∀ p ∈ ps, isNm p.1 ∧ isNm p.2) : SeqAt.shaped (.list (ps.map prD)) = true := by
  have := prs_shaped h
  show (PyData.canLayAll0 (ps.map prD) && decide (PyData.depthAll (ps.map prD) + 1 ≤ 64)) = true
  rw [this.1, decide_eq_true (by omega)]; rfl
theorem shaped_pr {p : Str × Str} (h : isNm p.1 ∧ isNm p.2) : SeqAt.shaped (prD p) = true := by
  show ((PyData.strOk p.1 && (PyData.strOk p.2 && true)) && decide (max 0 (max 0 0) + 1 ≤ 64)) = true
  rw [strOk_nm h.1, strOk_nm h.2]; rfl
def sp_l_pairs (K : PySem.W.Frag) : Sp := fun vs H Q _ => ∃ (l n : Addr) (ss nm : List Str), vs = [.ref l, .ref n] ∧ SqL K H l (ss.map V.str) ∧ SqL K H n (nm.map V.str) ∧ ss.length ≤ 60 ∧ nm.length ≤ 8 ∧
  ∀ (r : Addr) (vs : List V) (ps : List (Str × Str)) (H' : Hp), H' r = some (.lst vs) → PrL H' vs ps → (∀ x y, (x, y) ∈ ps ↔ x ∈ nm ∧ y ∈ nm ∧ x ≠ y ∧ Bf ss x y) → ps.length ≤ 64 → Same H H' → Q (.ref r) H'
theorem len_l_pairs {K : PySem.W.Frag} : ∀ vs H Q E, sp_l_pairs K vs H Q E → vs.length = 2 := by rintro _ _ _ _ ⟨_, _, _, _, rfl, _⟩; rfl
theorem pu_l_pairs {K : PySem.W.Frag} : ∀ vs H Q E, sp_l_pairs K vs H Q E → t_l_pairs K (sp_l_before K) E { nx := fun _ H' => Q .non H', rt := Q } (start n_l_pairs vs) H := by
  rintro _ H Q E ⟨l, n, ss, nm, rfl, hl, hn, z1, z2, q⟩
  have z : (2000 : Nat) ≤ sizeLine := by decide
  unfold t_l_pairs n_l_pairs
  walk_at "rd"
  refine ⟨by decide, fun r hr => ⟨⟨_, SqL.same hn (Same.new hr)⟩, ?_⟩⟩
  let G : Str → Str → Prop := fun x y => y ∈ nm ∧ x ≠ y ∧ Bf ss x y
  refine fg walk_list (fun i σ H' => Same H H' ∧ (∃ x3 x4, σ = [some (.ref l), some (.ref n), some (.ref r), x3, x4]) ∧ ∃ vs ps, H' r = some (.lst vs) ∧ PrL H' vs ps ∧ ps.length ≤ i * 8 ∧ ∀ x y, (x, y) ∈ ps ↔ x ∈ nm.take i ∧ G x y)
    ⟨Same.new hr, ⟨_, _, rfl⟩, [], [], upd_same, trivial, Nat.zero_le _, fun x y => ⟨fun h => absurd h List.not_mem_nil, fun h => absurd h.1 (by simp)⟩⟩ (fun i σ H' _ h => SqL.same hn h.1) ?_ ?_
  · rintro i v _ _ H1 hi ⟨s1, ⟨x3, x4, rfl⟩, vs, ps, h1, hp, hpl, hm⟩ ⟨rfl, hv⟩
    rw [List.getElem?_map] at hv
    obtain ⟨x, ex, rfl⟩ := Option.map_eq_some_iff.mp hv
    have hi2 := (List.getElem?_eq_some_iff.mp ex).1
    unfold t_l_pairs_b2
    walk_at "rd"
    refine ⟨⟨_, SqL.same hn s1⟩, ?_⟩
    refine fg walk_list (fun k σ H' => Same H H' ∧ (∃ x4, σ = [some (.ref l), some (.ref n), some (.ref r), some (.str x), x4]) ∧ ∃ vs ps, H' r = some (.lst vs) ∧ PrL H' vs ps ∧ ps.length ≤ i * 8 + k ∧ ∀ a b, (a, b) ∈ ps ↔ (a ∈ nm.take i ∧ G a b) ∨ (a = x ∧ b ∈ nm.take k ∧ G a b))
      ⟨s1, ⟨_, rfl⟩, vs, ps, h1, hp, hpl, fun a b => by rw [hm]; exact ⟨.inl, fun h => h.resolve_right fun h => absurd h.2.1 (by simp)⟩⟩ (fun i σ H' _ h => SqL.same hn h.1) ?_ ?_
    · rintro k v _ _ H2 hk ⟨s2, ⟨x4, rfl⟩, vs, ps, h2, hp, hpl, hm⟩ ⟨rfl, hv⟩
      rw [List.getElem?_map] at hv
      obtain ⟨y, ey, rfl⟩ := Option.map_eq_some_iff.mp hv
      have hk2 := (List.getElem?_eq_some_iff.mp ey).1
      have hy : y ∈ nm := List.mem_of_getElem? ey
      have tk : nm.take (k + 1) = nm.take k ++ [y] := by rw [List.take_add_one, ey]; rfl
      have no : ¬ (x ≠ y ∧ Bf ss x y) → ∀ a b, (a, b) ∈ ps ↔ (a ∈ nm.take i ∧ G a b) ∨ (a = x ∧ b ∈ nm.take (k + 1) ∧ G a b) := by
        intro hno a b
        rw [hm, tk]
        constructor
        · rintro (h | ⟨h1, h2, h3⟩)
          · exact .inl h
          · exact .inr ⟨h1, List.mem_append_left _ h2, h3⟩
        · rintro (h | ⟨h1, h2, h3⟩)
          · exact .inl h
          · rcases List.mem_append.mp h2 with h2 | h2
            · exact .inr ⟨h1, h2, h3⟩
            · rw [List.mem_singleton] at h2
              subst h1; subst h2
              exact absurd h3.2 hno
      unfold t_l_pairs_b1
      walk_at "rd"
      refine neF rfl ?_
      walk_at "rd"
      by_cases exy : x = y
      · rw [if_neg (by rw [decide_eq_true exy]; decide)]
        exact ⟨s2, ⟨_, rfl⟩, vs, ps, h2, hp, by omega, no fun h => h.1 exy⟩
      · rw [if_pos (by rw [decide_eq_false exy]; rfl)]
        refine ⟨l, x, y, ss, rfl, SqL.same hl s2, z1, fun b H3 hb s3 => ?_⟩
        have s03 := s2.trans s3
        walk_at "rd"
        cases b with
        | false =>
          walk_at "rd"
          exact ⟨s03, ⟨_, rfl⟩, vs, ps, s3 _ _ h2, hp.same s3, by omega, no fun h => absurd (hb.mpr h.2) (by decide)⟩
        | true =>
          walk_at "rd"
          refine ⟨ty_list (SqL.of (s3 _ _ h2)), by decide, fun t ht => ?_⟩
          have h4 := at_new (o := .tup [.str x, .str y]) ht (s3 _ _ h2)
          have hi8 : i < 8 := by omega
          refine ⟨r, _, _, rfl, rfl, h4, by rw [hp.len]; omega, ?_⟩
          refine ⟨fun a u e => at_set (ne_of_none e hr) (at_new ht (s03 _ _ e)), ⟨_, rfl⟩, vs ++ [.ref t], ps ++ [(x, y)], upd_same, PrL.set h4 (PrL.snoc upd_same ((hp.same s3).same (Same.new ht))), by rw [List.length_append]; simp only [List.length_singleton]; omega, fun a b => ?_⟩
          rw [List.mem_append, List.mem_singleton, hm, tk]
          have gxy : G x y := ⟨hy, exy, hb.mp rfl⟩
          constructor
          · rintro ((h | ⟨h1, h2, h3⟩) | h)
            · exact .inl h
            · exact .inr ⟨h1, List.mem_append_left _ h2, h3⟩
            · cases h; exact .inr ⟨rfl, List.mem_append_right _ (List.mem_singleton.mpr rfl), gxy⟩
          · rintro (h | ⟨h1, h2, h3⟩)
            · exact .inl (.inl h)
            · rcases List.mem_append.mp h2 with h2 | h2
              · exact .inl (.inr ⟨h1, h2, h3⟩)
              · rw [List.mem_singleton] at h2
                subst h1; subst h2
                exact .inr rfl
    · rintro _ H2 ⟨s2, ⟨x4, rfl⟩, vs, ps, h2, hp, hpl, hm⟩
      rw [List.length_map] at hpl hm
      refine ⟨s2, ⟨_, _, rfl⟩, vs, ps, h2, hp, by omega, fun a b => ?_⟩
      rw [hm, List.take_length, List.take_add_one, ex]
      constructor
      · rintro (h | ⟨h1, h2, h3⟩)
        · exact ⟨List.mem_append_left _ h.1, h.2⟩
        · subst h1; exact ⟨List.mem_append_right _ (List.mem_singleton.mpr rfl), h3⟩
      · rintro ⟨h, g⟩
        rcases List.mem_append.mp h with h | h
        · exact .inl ⟨h, g⟩
        · have : a = x := by simpa using h
          exact .inr ⟨this, g.1, g⟩
  · rintro _ H1 ⟨s1, ⟨x3, x4, rfl⟩, vs, ps, h1, hp, hpl, hm⟩
    rw [List.length_map] at hpl hm
    walk_at "rd"
    refine q r vs ps _ h1 hp (fun x y => ?_) (by omega) s1
    rw [hm, List.take_length]
def sp_l_second (K : PySem.W.Frag) : Sp := fun vs H Q _ => ∃ (p l n : Addr) (m : Nat) (ss nm : List Str), vs = [.ref p, .ref l, .ref n] ∧ PoolAt H p m ∧ m ≤ 999900 ∧ p ≠ l ∧ p ≠ n ∧ H l = some (.lst (ss.map V.str)) ∧ H n = some (.lst (nm.map V.str)) ∧ SameF ss nm ∧ (∀ s ∈ nm, isNm s) ∧ ss.length ≤ 20 ∧ nm.length ≤ 8 ∧
  ∀ (r : Addr) (os : List Str) (H' : Hp), H' r = some (.lst (os.map V.str)) → H r = none → SameF os nm → os.length ≤ 30 → PoolAt H' p (m + 20) → But p H H' → Q (.ref r) H'
theorem len_l_second {K : PySem.W.Frag} : ∀ vs H Q E, sp_l_second K vs H Q E → vs.length = 3 := by rintro _ _ _ _ ⟨_, _, _, _, _, _, rfl, _⟩; rfl
theorem eq_nil {K : PySem.W.Frag} {H : Hp} {a e : Addr} {ss : List Str} (ha : SqL K H a (ss.map V.str)) (he : SqL K H e []) (hs : ∀ s ∈ ss, isNm s) {Q : VK} (q : Q (.bl (decide (ss = []))) H) : oEq K (.ref a) (.ref e) H Q := by
  refine eqD (.lst ha (DpAll.strs ss)) (.lst he .nil) (shaped_strs hs) rfl ?_
  rw [show PyData.eqv (.list (ss.map PyData.str)) (.list []) = decide (ss = []) from eqv_strs2 ss []]
  exact q
theorem ne_nil {K : PySem.W.Frag} {H : Hp} {a e : Addr} {ss : List Str} (ha : SqL K H a (ss.map V.str)) (he : SqL K H e []) (hs : ∀ s ∈ ss, isNm s) {Q : VK} (q : Q (.bl (!decide (ss = []))) H) : oNe K (.ref a) (.ref e) H Q := by
  refine neD (.lst ha (DpAll.strs ss)) (.lst he .nil) (shaped_strs hs) rfl ?_
  rw [show PyData.eqv (.list (ss.map PyData.str)) (.list []) = decide (ss = []) from eqv_strs2 ss []]
  exact q
theorem fresh_of {H H' : Hp} {p a : Addr} {k : Nat} (b : But p H H') (hp : PoolAt H' p k) (e : H' a = none) : H a = none := by
  cases h : H a with
  | none => rfl
  | some u =>
    have h2 := b a u (hp.ne e) h
    rw [e] at h2
    cases h2
section
variable {K : PySem.W.Frag} {H : Hp} {Q : VK} {a b l : Addr} {xs ys ss : List Str} {k : Nat}
theorem slHi (h : H a = some (.lst (xs.map V.str))) (q : ∀ (r : Addr) (H' : Hp), H' r = some (.lst ((xs.take k).map V.str)) → Same H H' → H r = none → Q (.ref r) H') : oSl K (.ref a) none (some (k : Int)) H Q :=
  slL (SqL.of h) fun r hr => q r _ (by rw [upd_same, cutV_hi, List.map_take]) (Same.new hr) hr
theorem slLo (h : H a = some (.lst (xs.map V.str))) (q : ∀ (r : Addr) (H' : Hp), H' r = some (.lst ((xs.drop k).map V.str)) → Same H H' → H r = none → Q (.ref r) H') : oSl K (.ref a) (some (k : Int)) none H Q :=
  slL (SqL.of h) fun r hr => q r _ (by rw [upd_same, cutV_lo, List.map_drop]) (Same.new hr) hr
theorem catS (h : H a = some (.lst (xs.map V.str))) (h2 : H b = some (.lst (ys.map V.str))) (hz : xs.length + ys.length ≤ 1000) (q : ∀ (r : Addr) (H' : Hp), H' r = some (.lst ((xs ++ ys).map V.str)) → Same H H' → H r = none → Q (.ref r) H') : oAdd K (.ref a) (.ref b) H Q :=
  addL h h2 (by have : (2000 : Nat) ≤ sizeLine := by decide
                rw [List.length_map, List.length_map]; omega) fun r hr => q r _ (by rw [upd_same, List.map_append]) (Same.new hr) hr
theorem getStr {s : Str} (h : H l = some (.lst (ss.map V.str))) (hk : ss[k]? = some s) (q : Q (.str s) H) : oGet K (.ref l) (.int k) H Q :=
  getL (SqL.of h) (atI_nat (by rw [List.getElem?_map, hk]; rfl)) q
theorem insL {s : Str} {i : Nat} (h : H a = some (.lst (xs.map V.str))) (hl : H l = some (.lst (ss.map V.str))) (hk : ss[k]? = some s) (hz : xs.length ≤ 100)
    (q : ∀ (r : Addr) (H' : Hp), H' r = some (.lst ((xs.take i ++ [s] ++ xs.drop i).map V.str)) → Same H H' → H r = none → Q (.ref r) H') :
    oSl K (.ref a) none (some (i : Int)) H fun x H1 => oGet K (.ref l) (.int k) H1 fun y H1 => 1 ≤ sizeLine ∧ ∀ p, H1 p = none → oAdd K x (.ref p) (upd H1 p (.lst [y])) fun x H1 => oSl K (.ref a) (some (i : Int)) none H1 fun z H2 => oAdd K x z H2 Q := by
  refine slHi h fun r1 H1 h1 s1 _ => getStr (s1 _ _ hl) hk ⟨by decide, fun p hp => ?_⟩
  have hp1 : upd H1 p (.lst [.str s]) p = some (.lst (([s] : List Str).map V.str)) := upd_same
  have s2 := Same.new2 (o := .lst [.str s]) s1 hp
  have l1 : (xs.take i).length ≤ 100 := by rw [List.length_take]; omega
  have l2 : (xs.drop i).length ≤ 100 := by rw [List.length_drop]; omega
  refine catS (at_new hp h1) hp1 (by simp only [List.length_singleton]; omega) fun r3 H3 h3 s3 _ => ?_
  have s03 := s2.trans s3
  refine slLo (s03 _ _ h) fun r4 H4 h4 s4 _ => ?_
  have s04 := s03.trans s4
  refine catS (s4 _ _ h3) h4 (by rw [List.length_append]; simp only [List.length_singleton]; omega) fun r5 H5 h5 s5 e5 => q r5 H5 h5 (s04.trans s5) ?_
  cases hh : H r5 with
  | none => rfl
  | some u => rw [s04 _ _ hh] at e5; cases e5
end
theorem pu_l_second {K : PySem.W.Frag} : ∀ vs H Q E, sp_l_second K vs H Q E → t_l_second K sp_l_take E { nx := fun _ H' => Q .non H', rt := Q } (start n_l_second vs) H := by
  rintro _ H Q E ⟨p, l, n, m, ss, nm, rfl, hp, hm, hpl, hpn, hl, hn, sf, hnm, z1, z2, q⟩
  have z : (2000 : Nat) ≤ sizeLine := by decide
  have hsm : ∀ s ∈ ss, isNm s := fun s h => hnm s ((sf s).mp h)
  unfold t_l_second n_l_second
  walk_at "rd"
  refine ⟨p, 4, m, rfl, hp, by omega, by decide, by decide, fun kd H1 k0 k1 p1 a1 => ?_⟩
  have hl1 := a1.but _ _ (Ne.symm hpl) hl
  have hn1 := a1.but _ _ (Ne.symm hpn) hn
  walk_at "rd"
  have first : ∀ (H2 : Hp), But p H H2 → PoolAt H2 p (m + 1) → tRevA K (tVar 2) [some (.ref p), some (.ref l), some (.ref n), some (.int kd), none, none, none, none] H2 (fun x H1 => tLc (iRng1 (tCons (tCW sp_l_take [] (WD E) (tCons (tVar 0) (tCons (tC (.int 6)) (tNil)))) (tNil))) (gName 7) ((t_l_second_i1 K sp_l_take E)) (t_l_second_e1 K sp_l_take E) [7] [some (.ref p), some (.ref l), some (.ref n), some (.int kd), none, none, none, none] H1 fun y H2 => oAdd K x y H2 Q) := by
    intro H2 b2 p2
    walk_at "rd"
    refine ⟨n, _, rfl, .inl ⟨SqL.of (b2 _ _ (Ne.symm hpn) hn), fun rv hrv => ?_⟩⟩
    have e3 := fresh_of b2 p2 hrv
    have b3 : But p H (upd H2 rv (.lst (nm.map V.str).reverse)) := b2.new hrv
    have p3 : PoolAt (upd H2 rv (.lst (nm.map V.str).reverse)) p (m + 1) := p2.new hrv
    have h3 : upd H2 rv (.lst (nm.map V.str).reverse) rv = some (.lst (nm.reverse.map V.str)) := by rw [upd_same, List.map_reverse]
    revert b3 p3 h3
    generalize upd H2 rv (.lst (nm.map V.str).reverse) = H3
    intro b3 p3 h3
    have nrv : rv ≠ p := p2.ne hrv
    refine ⟨p, 6, m + 1, rfl, p3, by omega, by decide, by decide, fun c H4 c0 c1 p4 a4 => ⟨_, rfl, by omega, by omega, ?_⟩⟩
    have b4 := b3.trans a4.but
    have h4 := a4.but _ _ nrv h3
    refine lg walk_range (fun D i H' => ∃ xs : List Str, xs.length ≤ i ∧ (∀ s ∈ xs, s ∈ nm) ∧ H' D = some (.lst (xs.map V.str)) ∧ PoolAt H' p (m + 2 + i) ∧ But p H4 H') (fun D hD => ⟨[], Nat.le_refl _, fun _ h => absurd h List.not_mem_nil, upd_same, p4.new hD, But.refl.new hD⟩) (fun _ _ _ _ _ _ => trivial) ?_ ?_
    · rintro D hD i v _ H5 hi ⟨xs, x1, x2, h5, p5, b5⟩ ⟨rfl, rfl⟩
      have nDp : D ≠ p := p4.ne hD
      unfold t_l_second_i1 t_l_second_e1
      walk_at "rd"
      refine ⟨by decide, fun e he => ?_⟩
      have hn5 := (b4.trans b5) _ _ (Ne.symm hpn) hn
      have hn6 := at_new (o := .lst []) he hn5
      refine ne_nil (SqL.of hn6) (SqL.of upd_same) hnm ?_
      walk_at "rd"
      have h6 := at_new (o := .lst []) he h5
      have p6 := p5.new (o := .lst []) he
      have b6 : But p H4 (upd H5 e (.lst [])) := b5.new he
      revert hn6 h6 p6 b6
      generalize upd H5 e (.lst []) = H6
      intro hn6 h6 p6 b6
      by_cases c : nm = []
      · rw [if_neg (by rw [decide_eq_true c]; decide)]
        exact ⟨xs, by omega, x2, h6, p6.mono (by omega), b6⟩
      · rw [if_pos (by rw [decide_eq_false c]; rfl)]
        have hpos : 0 < nm.length := List.length_pos_iff.mpr c
        refine lenL (SqL.of hn6) ?_
        refine ⟨p, _, m + 2 + i, rfl, p6, by omega, by rw [List.length_map]; omega, by rw [List.length_map]; omega, fun r H7 r0 r1 p7 a7 => ?_⟩
        rw [List.length_map] at r1
        have hr : r.toNat < nm.length := by omega
        refine getL (v := .str (nm[r.toNat])) (SqL.of (a7.but _ _ (Ne.symm hpn) hn6)) (at_nat (n := 0) r0 (by rw [List.getElem?_map, List.getElem?_eq_getElem hr]; rfl)) ?_
        refine ⟨_, a7.but _ _ nDp h6, by rw [List.length_map]; omega, xs ++ [nm[r.toNat]], by rw [List.length_append]; simp only [List.length_singleton]; omega, ?_, ?_, p7.set (Ne.symm nDp), (b6.trans a7.but).mut hD⟩
        · intro s hs
          rcases List.mem_append.mp hs with h | h
          · exact x2 s h
          · rw [List.mem_singleton] at h; subst h; exact List.getElem_mem hr
        · rw [upd_same, List.map_append]; rfl
    · rintro D hD H5 ⟨xs, x1, x2, h5, p5, b5⟩
      have b05 := b4.trans b5
      refine addL (b5 _ _ nrv h4) h5 (by rw [List.length_map, List.length_map, List.length_reverse]; omega) fun r hr => ?_
      refine q r (nm.reverse ++ xs) _ (by rw [upd_same, List.map_append]) (fresh_of b05 p5 hr) (fun s => ?_) (by rw [List.length_append, List.length_reverse]; omega) ((p5.new hr).mono (by omega)) (b05.new hr)
      rw [List.mem_append, List.mem_reverse]
      exact ⟨fun h => h.elim id (x2 s), .inl⟩
  refine eqI ?_
  walk_at "rd"
  by_cases c0 : kd = 0
  · rw [if_pos c0]
    have k := first H1 a1.but p1
    revert k
    walk_at "rd" <;> exact id
  rw [if_neg c0]
  refine ⟨by decide, fun e he => ?_⟩
  have hl2 := at_new (o := .lst []) he hl1
  have hn2 := at_new (o := .lst []) he hn1
  have p2 := p1.new (o := .lst []) he
  have b2 : But p H (upd H1 e (.lst [])) := a1.but.new he
  refine eq_nil (SqL.of hl2) (SqL.of upd_same) hsm ?_
  revert hl2 hn2 p2 b2
  generalize upd H1 e (.lst []) = H2
  intro hl2 hn2 p2 b2
  walk_at "rd"
  by_cases c1 : ss = []
  · rw [if_pos c1]
    have k := first H2 b2 p2
    revert k
    walk_at "rd" <;> exact id
  rw [if_neg c1]
  have hpos : 0 < ss.length := List.length_pos_iff.mpr c1
  refine lenL (SqL.of hl2) ?_
  refine ⟨p, _, m + 1, rfl, p2, by omega, by rw [List.length_map]; omega, by rw [List.length_map]; omega, fun r H3 r0 r1 p3 a3 => ?_⟩
  rw [List.length_map] at r1
  obtain ⟨k, rfl⟩ : ∃ k : Nat, r = k := ⟨r.toNat, by omega⟩
  have hk : k < ss.length := by omega
  have b3 := b2.trans a3.but
  have hl3 := a3.but _ _ (Ne.symm hpl) hl2
  have split : ∀ s, s ∈ ss ↔ s ∈ ss.take k ∨ s = ss[k] ∨ s ∈ ss.drop (k + 1) := by
    intro s
    have e : ss = ss.take k ++ ss[k] :: ss.drop (k + 1) := by rw [← List.drop_eq_getElem_cons hk, List.take_append_drop]
    constructor
    · intro h
      rw [e] at h
      rcases List.mem_append.mp h with h | h
      · exact .inl h
      · exact .inr (List.mem_cons.mp h)
    · rintro (h | h | h)
      · exact List.mem_of_mem_take h
      · subst h; exact List.getElem_mem hk
      · exact List.mem_of_mem_drop h
  walk_at "rd"
  have gk : ss[k]? = some ss[k] := List.getElem?_eq_getElem hk
  have fr : ∀ {H' : Hp} {r : Addr}, Same H3 H' → H' r = none → H r = none := fun s e => fresh_of (b3.trans (But.of s)) (p3.same s) e
  refine slHi hl3 fun r4 H4 h4 s4 _ => ?_
  rw [show ((k : Int) + 1) = ((k + 1 : Nat) : Int) by omega]
  refine slLo (s4 _ _ hl3) fun r5 H5 h5 s5 _ => ?_
  have s35 := s4.trans s5
  have lz : (ss.take k ++ ss.drop (k + 1)).length ≤ 20 := by rw [List.length_append, List.length_take, List.length_drop]; omega
  refine catS (s5 _ _ h4) h5 (by rw [List.length_append] at lz; omega) fun r6 H6 h6 s6 e6 => ?_
  have s36 := s35.trans s6
  have hl6 := s36 _ _ hl3
  have e06 := fr s35 e6
  generalize hrest : ss.take k ++ ss.drop (k + 1) = rest at h6 lz
  have mrest : ∀ s, s ∈ rest ↔ s ∈ ss.take k ∨ s ∈ ss.drop (k + 1) := fun s => by rw [← hrest, List.mem_append]
  have p6 := p3.same s36
  have fin : ∀ (r : Addr) (os : List Str) (H' : Hp) (n' : Nat), H' r = some (.lst (os.map V.str)) → H r = none → (∀ s, s ∈ os ↔ s ∈ ss) → os.length ≤ 30 → PoolAt H' p n' → n' ≤ m + 20 → But p H H' → Q (.ref r) H' := fun r os H' n' h1 h2 h3 h4 h5 h6 h7 => q r os H' h1 h2 (fun s => (h3 s).trans (sf s)) h4 (h5.mono h6) h7
  have b6 := b3.trans (But.of s36)
  have last : ∀ (kd' : Prop), oEq K (V.int kd) (V.int 2) H6 fun x_4 H' => ∃ k_3, x_4 = V.bl k_3 ∧ if k_3 = true then
        oSl K (V.ref l) none (some ↑k) H' fun x H1 => oGet K (V.ref l) (V.int ↑k) H1 fun x_5 H1 => 1 ≤ sizeLine ∧ ∀ (p : Addr), H1 p = none → oAdd K x (V.ref p) (upd H1 p (HO.lst [x_5])) fun x H1 => oSl K (V.ref l) (some ↑k) none H1 fun y H2 => oAdd K x y H2 Q
      else oLen K [.ref r6] H' fun x_5 H1 => oAdd K x_5 (V.int 1) H1 fun x_6 H1 => sp_l_take [V.ref p, x_6] H1 (fun x_7 H1 => ∃ i, x_7 = V.int i ∧ oSl K (.ref r6) none (some i) H1 fun x_8 H1 => oGet K (V.ref l) (V.int ↑k) H1 fun x_9 H1 => 1 ≤ sizeLine ∧ ∀ (p : Addr), H1 p = none →
        oAdd K x_8 (V.ref p) (upd H1 p (HO.lst [x_9])) fun x_10 H1 => ∃ i, x_7 = V.int i ∧ oSl K (.ref r6) (some i) none H1 fun y H2 => oAdd K x_10 y H2 Q) (WE (WD E) [some (V.ref p), some (V.ref l), some (V.ref n), some (V.int kd), some (V.int ↑k), some (.ref r6), none, none]) := by
    intro _
    refine eqI ⟨_, rfl, ?_⟩
    by_cases c2 : kd = 2
    · rw [if_pos (by rw [decide_eq_true c2])]
      refine insL hl6 hl6 gk (by omega) fun r7 H7 h7 s7 e7 => fin r7 _ H7 _ h7 (fr s36 e7) (fun s => ?_) (by rw [List.length_append, List.length_append, List.length_take, List.length_drop]; simp only [List.length_singleton]; omega) (p6.same s7) (by omega) (b6.trans (But.of s7))
      rw [List.mem_append, List.mem_append, List.mem_singleton, split]
      constructor
      · rintro ((h | h) | h)
        · exact .inl h
        · exact .inr (.inl h)
        · exact (split s).mp (List.mem_of_mem_drop h)
      · rintro (h | h | h)
        · exact .inl (.inl h)
        · exact .inl (.inr h)
        · refine .inr ?_
          rw [List.drop_eq_getElem_cons hk]
          exact List.mem_cons_of_mem _ h
    · rw [if_neg (by rw [decide_eq_false c2]; decide)]
      refine lenL (SqL.of h6) ?_
      rw [List.length_map]
      refine addI ⟨p, _, m + 2, rfl, p6, by omega, by omega, by omega, fun i H7 i0 i1 p7 a7 => ⟨i, rfl, ?_⟩⟩
      obtain ⟨j, rfl⟩ : ∃ j : Nat, i = j := ⟨i.toNat, by omega⟩
      have nr6 : r6 ≠ p := fun e => by subst e; obtain ⟨u, hu⟩ := hp.ex; rw [e06] at hu; cases hu
      have b7 := b6.trans a7.but
      have ii := insL (K := K) (Q := Q) (i := j) (a7.but _ _ nr6 h6) (a7.but _ _ (Ne.symm hpl) hl6) gk (by omega) fun r8 H8 h8 s8 e8 => fin r8 _ H8 _ h8 (fresh_of b7 p7 e8) (fun s => by
        have e : rest = rest.take j ++ rest.drop j := (List.take_append_drop j rest).symm
        rw [List.mem_append, List.mem_append, List.mem_singleton, split]
        have mr := mrest s
        rw [e, List.mem_append] at mr
        constructor
        · rintro ((h | h) | h)
          · exact (mr.mp (.inl h)).elim .inl fun h => .inr (.inr h)
          · exact .inr (.inl h)
          · exact (mr.mp (.inr h)).elim .inl fun h => .inr (.inr h)
        · rintro (h | h | h)
          · exact (mr.mpr (.inl h)).elim (fun h => .inl (.inl h)) .inr
          · exact .inl (.inr h)
          · exact (mr.mpr (.inr h)).elim (fun h => .inl (.inl h)) .inr) (by rw [List.length_append, List.length_append, List.length_take, List.length_drop]; simp only [List.length_singleton]; omega) (p7.same s8) (by omega) (b7.trans (But.of s8))
      revert ii
      walk_at "rd" <;> exact id
  refine eqI ⟨_, rfl, ?_⟩
  by_cases c2 : kd = 1
  · rw [if_pos (by rw [decide_eq_true c2])]
    refine getStr hl6 gk ?_
    refine inL (SqL.of h6) rfl (flat_strs rest) ⟨_, rfl, ?_⟩
    by_cases c3 : ss[k] ∈ rest
    · rw [if_pos (by rw [in_strs.mpr c3]; rfl)]
      refine fin r6 rest H6 _ h6 e06 (fun s => ?_) (by omega) p6 (by omega) b6
      rw [split, mrest]
      constructor
      · rintro (h | h)
        · exact .inl h
        · exact .inr (.inr h)
      · rintro (h | h | h)
        · exact .inl h
        · subst h; exact (mrest _).mp c3
        · exact .inr h
    · rw [if_neg (by rw [in_strs_no c3]; decide)]
      exact last True
  · rw [if_neg (by rw [decide_eq_false c2]; decide)]
    exact last True
theorem leRow {K : PySem.W.Frag} {H : Hp} {Q : VK} {a b : Addr} {ss tt : List Str} (C : ClsI K (He.ga K "Row")) (ha : RowAt K H a ss) (hb : RowAt K H b tt) (hs : ∀ s ∈ ss, isNm s) (ht : ∀ s ∈ tt, isNm s) (l1 : ss.length ≤ 60) (l2 : tt.length ≤ 60)
    (q : ∀ (b : Bool) (H' : Hp), (b = true ↔ SameF ss tt ∧ ∀ x y, x ∈ ss → y ∈ ss → x ≠ y → Bf ss x y → Bf tt x y) → Same H H' → Q (.bl b) H') : rCmpO K (He.ga K "Row") (sp_Row_le K) (.ref a) (.ref b) H Q := by
  obtain ⟨dx, t, e, _⟩ := id ha
  obtain ⟨dx2, t2, e2, _⟩ := id hb
  exact ⟨a, dx, _, _, rfl, e, C.ty e2, C.nf, a, b, ss, tt, rfl, ha, hb, hs, ht, l1, l2, q⟩
theorem any_prs {p : Str × Str} {ps : List (Str × Str)} : ((ps.map prD).any fun z => PyData.eqv z (prD p)) = decide (p ∈ ps) := by
  by_cases h : p ∈ ps
  · rw [decide_eq_true h, List.any_eq_true]
    exact ⟨prD p, List.mem_map.mpr ⟨p, h, rfl⟩, by rw [prD_eq, decide_eq_true rfl]⟩
  · rw [decide_eq_false h, List.any_eq_false]
    intro d hd
    obtain ⟨r, hr, rfl⟩ := List.mem_map.mp hd
    rw [prD_eq, decide_eq_true_eq]
    rintro rfl
    exact h hr
def sp_law (K : PySem.W.Frag) : Sp := fun vs H Q _ => ∃ (a : Addr) (ns : List Int), vs = [.ref a] ∧ SqL K H a (ns.map V.int) ∧ ∀ H', Q (.bl true) H'
theorem len_law {K : PySem.W.Frag} : ∀ vs H Q E, sp_law K vs H Q E → vs.length = 1 := by rintro _ _ _ _ ⟨_, _, rfl, _⟩; rfl
theorem pu_law {K : PySem.W.Frag} (R : RowK K) (C : ClsI K (He.ga K "Row")) : ∀ vs H Q E, sp_law K vs H Q E → t_law K sp_l_pool (sp_l_cell K) sp_l_names sp_l_take (sp_l_second K) (sp_Row_init K) (sp_l_right K) (sp_l_pairs K) (sp_Row_le K) (sp_l_stranger K) (sp_Row_add K) E { nx := fun _ H' => Q .non H', rt := Q } (start n_law vs) H := by
  rintro _ H Q E ⟨a, ns, rfl, ha, q⟩
  have z : (2000 : Nat) ≤ sizeLine := by decide
  unfold t_law n_law
  walk_at "rd"
  refine ⟨a, ns, 0, rfl, ha, fun i0 => ?_⟩
  refine ⟨i0, rfl, fun p o hp hpo => ?_⟩
  walk_at "rd"
  have s1 : Same H (upd H p o) := Same.new hp
  revert hpo s1
  generalize upd H p o = H1
  intro p1 s1
  refine ⟨p, 5, 0, rfl, p1, by decide, by decide, by decide, fun r H2 r0 r1 p2 a2 => ?_⟩
  walk_at "rd"
  have s2 := a2.same hp s1
  refine ⟨p, r.toNat, 1, by rw [show (r.toNat : Int) = r by omega], p2, by decide, by omega, fun st nm H3 st0 hst sl nd hnm p3 b3 => ?_⟩
  have s3 := b3.same hp s2
  have nst : st ≠ p := p2.ne st0
  have hnl : nm.length ≤ 4 := by omega
  walk_at "rd"
  refine ⟨p, 2, _, rfl, p3, by decide, by decide, by decide, fun k H4 k0 k1 p4 a4 => ?_⟩
  walk_at "rd"
  obtain ⟨k, rfl⟩ : ∃ j : Nat, k = j := ⟨k.toNat, by omega⟩
  have s4 := a4.same hp s3
  have hst4 := a4.but _ _ nst hst
  refine slLo hst4 fun lk H5 h5 s45 e45 => ?_
  have s5 := s4.trans s45
  have hst5 := s45 _ _ hst4
  have p5 := p4.same s45
  have nlk : lk ≠ p := p4.ne e45
  walk_at "rd"
  refine ⟨p, 7, _, rfl, p5, by decide, by decide, by decide, fun c H6 c0 c1 p6 a6 => ?_⟩
  walk_at "rd"
  refine ⟨_, rfl, by omega, by omega, ?_⟩
  have s6 := a6.same hp s5
  have hst6 := a6.but _ _ nst hst5
  have h6 := a6.but _ _ nlk h5
  refine fg walk_range (fun i σ H' => ∃ (lk : Addr) (ls : List Str) (x4 x5 : Option V), σ = [some (.ref a), some (.ref p), some (.ref st), some (.ref lk), x4, x5, none, none, none, none, none, none, none, none, none, none, none, none, none, none] ∧ H' lk = some (.lst (ls.map V.str)) ∧ lk ≠ p ∧ ls.length ≤ 4 + i ∧ (∀ s ∈ ls, s ∈ nm) ∧ PoolAt H' p (23 + 2 * i) ∧ But p H6 H')
    ⟨lk, nm.drop k, _, _, rfl, h6, nlk, by rw [List.length_drop]; omega, fun s h => List.mem_of_mem_drop h, p6, But.refl⟩ (fun _ _ _ _ _ => trivial) ?_ ?_
  · rintro i v _ _ H7 hi ⟨lk, ls, x4, x5, rfl, h7, nlk, lz, lsub, p7, b7⟩ ⟨rfl, rfl⟩
    have hst7 := b7 _ _ nst hst6
    unfold t_law_b1
    walk_at "rd"
    refine ⟨by decide, fun e he => ?_⟩
    refine ne_nil (SqL.of (at_new he hst7)) (SqL.of upd_same) hnm ?_
    have h8 := at_new (o := .lst []) he h7
    have hst8 := at_new (o := .lst []) he hst7
    have p8 := p7.new (o := .lst []) he
    have b8 : But p H6 (upd H7 e (.lst [])) := b7.new he
    revert h8 hst8 p8 b8
    generalize upd H7 e (.lst []) = H8
    intro h8 hst8 p8 b8
    walk_at "rd"
    by_cases cn : nm = []
    · rw [if_neg (by rw [decide_eq_true cn]; decide)]
      exact ⟨lk, ls, _, _, rfl, h8, nlk, by omega, lsub, p8.mono (by omega), b8⟩
    · rw [if_pos (by rw [decide_eq_false cn]; rfl)]
      have hpos : 0 < nm.length := List.length_pos_iff.mpr cn
      refine lenL (SqL.of h8) ?_
      rw [List.length_map]
      refine addI ?_
      refine ⟨p, _, _, rfl, p8, by omega, by omega, by omega, fun at_ H9 t0 t1 p9 a9 => ?_⟩
      obtain ⟨j, rfl⟩ : ∃ j : Nat, at_ = j := ⟨at_.toNat, by omega⟩
      have h9 := a9.but _ _ nlk h8
      have hst9 := a9.but _ _ nst hst8
      have b9 := b8.trans a9.but
      walk_at "rd"
      refine slHi h9 fun r10 H10 h10 s10 e10 => ?_
      have hst10 := s10 _ _ hst9
      have nr10 : r10 ≠ p := p9.ne e10
      refine lenL (SqL.of hst10) ?_
      rw [List.length_map]
      refine ⟨p, _, _, rfl, p9.same s10, by omega, by omega, by omega, fun w H11 w0 w1 p11 a11 => ?_⟩
      obtain ⟨w, rfl⟩ : ∃ j : Nat, w = j := ⟨w.toNat, by omega⟩
      have hw : w < nm.length := by omega
      refine getStr (a11.but _ _ nst hst10) (List.getElem?_eq_getElem hw) ⟨by decide, fun e1 he1 => ?_⟩
      have h11 := a11.but _ _ nr10 h10
      have b11 : But p H6 H11 := (b9.trans (But.of s10)).trans a11.but
      have l1 : (ls.take j).length ≤ 20 := by rw [List.length_take]; omega
      have l2 : (ls.drop j).length ≤ 20 := by rw [List.length_drop]; omega
      refine catS (ys := [nm[w]]) (at_new he1 h11) upd_same (by simp only [List.length_singleton]; omega) fun r12 H12 h12 s12 e12 => ?_
      have s1112 := Same.trans (Same.new (o := .lst [.str nm[w]]) he1) s12
      have h9' : H12 lk = some (.lst (ls.map V.str)) := s1112 _ _ (a11.but _ _ nlk (s10 _ _ h9))
      refine slLo h9' fun r13 H13 h13 s13 e13 => ?_
      refine catS (s13 _ _ h12) h13 (by rw [List.length_append]; simp only [List.length_singleton]; omega) fun r14 H14 h14 s14 e14 => ?_
      have s1114 := (s1112.trans s13).trans s14
      refine ⟨r14, _, _, _, rfl, h14, (p11.same (s1112.trans s13)).ne e14, ?_, fun s hs => ?_, (p11.same s1114).mono (by omega), b11.trans (But.of s1114)⟩
      · rw [List.length_append, List.length_append, List.length_take, List.length_drop]; simp only [List.length_singleton]; omega
      · rw [List.mem_append, List.mem_append, List.mem_singleton] at hs
        rcases hs with (h | h) | h
        · exact lsub s (List.mem_of_mem_take h)
        · subst h; exact List.getElem_mem hw
        · exact lsub s (List.mem_of_mem_drop h)
  rintro _ H7 ⟨lk, ls, x4, x5, rfl, h7, nlk, lz, lsub, p7, b7⟩
  have hst7 := b7 _ _ nst hst6
  walk_at "rd"
  refine ⟨⟨_, SqL.of hst7⟩, ?_⟩
  have s7 := b7.same hp s6
  have lz7 : ls.length ≤ 10 := by omega
  refine lg walk_list (fun D i H' => Same H7 H' ∧ H' D = some (.lst (((nm.take i).filter fun s => decide (s ∉ ls)).map V.str))) (fun D hD => ⟨Same.new hD, upd_same⟩) (fun D hD i H' _ h => SqL.of (h.1 _ _ hst7)) ?_ ?_
  · rintro D hD i v _ H8 hi ⟨s8, h8⟩ ⟨rfl, hv⟩
    rw [List.getElem?_map] at hv
    obtain ⟨x, ex, rfl⟩ := Option.map_eq_some_iff.mp hv
    have hi2 := (List.getElem?_eq_some_iff.mp ex).1
    unfold t_law_i1 t_law_e1
    walk_at "rd"
    refine inL (SqL.of (s8 _ _ h7)) rfl (flat_strs ls) ?_
    walk_at "rd"
    have tk : nm.take (i + 1) = nm.take i ++ [x] := by rw [List.take_add_one, ex]; rfl
    by_cases c : x ∈ ls
    · rw [if_neg (by rw [in_strs.mpr c]; decide), tk, List.filter_append, List.filter_cons_of_neg (by simp [c]), List.filter_nil, List.append_nil]
      exact ⟨s8, h8⟩
    · rw [if_pos (by rw [in_strs_no c]; rfl), tk, List.filter_append, List.filter_cons_of_pos (by simp [c]), List.filter_nil]
      refine ⟨_, h8, by rw [List.length_map]; have := List.length_filter_le (fun s => decide (s ∉ ls)) (nm.take i); rw [List.length_take] at this; omega, fun b u e => at_set (ne_of_none e hD) (s8 _ _ e), ?_⟩
      rw [upd_same, List.map_append]; rfl
  rintro D hD H8 ⟨s8, h8⟩
  rw [List.length_map, List.take_length] at h8
  have fl : (nm.filter fun s => decide (s ∉ ls)).length ≤ 4 := by have := List.length_filter_le (fun s => decide (s ∉ ls)) nm; omega
  refine catS (s8 _ _ h7) h8 (by omega) fun lo H9 h9 s9 e9 => ?_
  have sH9 : Same H H9 := (s7.trans s8).trans s9
  have hst9 := s9 _ _ (s8 _ _ hst7)
  have sfl : SameF (ls ++ nm.filter fun s => decide (s ∉ ls)) nm := by
    intro s
    rw [List.mem_append, List.mem_filter]
    constructor
    · rintro (h | h)
      · exact lsub s h
      · exact h.1
    · intro h
      by_cases c : s ∈ ls
      · exact .inl c
      · exact .inr ⟨h, decide_eq_true c⟩
  have llz : (ls ++ nm.filter fun s => decide (s ∉ ls)).length ≤ 14 := by rw [List.length_append]; omega
  revert h9 sfl llz
  generalize (ls ++ nm.filter fun s => decide (s ∉ ls)) = lks
  intro h9 sfl llz
  clear h8 s8 h7 hst7 p7 b7 hst6 h6 p6 a6 h5 p5 e45 s45 hst5 hst4 p4 a4 s9 e9 fl lsub lz lz7 nlk hD p3 b3 st0 nst
  have lnm : ∀ s ∈ lks, isNm s := fun s h => hnm s ((sfl s).mp h)
  walk_at "rd"
  refine ⟨a, ns, 1, rfl, SqL.same ha sH9, fun i1 => ⟨i1, rfl, fun p' o' hp' hpo' => ?_⟩⟩
  have s10 : Same H9 (upd H9 p' o') := Same.new hp'
  revert hpo' s10
  generalize upd H9 p' o' = H10
  intro p10 s10
  have nlo : lo ≠ p' := ne_of_none h9 hp'
  have nst : st ≠ p' := ne_of_none hst9 hp'
  walk_at "rd"
  refine ⟨p', lo, st, 0, lks, nm, rfl, p10, by decide, Ne.symm nlo, Ne.symm nst, s10 _ _ h9, s10 _ _ hst9, sfl, hnm, by omega, by omega, fun ot os H11 h11 eot sfo oz p11 b11 => ?_⟩
  have onm : ∀ s ∈ os, isNm s := fun s h => hnm s ((sfo s).mp h)
  have hlo11 := b11 _ _ nlo (s10 _ _ h9)
  have hst11 := b11 _ _ nst (s10 _ _ hst9)
  have not_ : ot ≠ p' := p10.ne eot
  walk_at "rd"
  refine row_ofL (SqL.of hlo11) lnm fun one H12 r12 s12 => ?_
  refine row_ofL (SqL.of (s12 _ _ h11)) onm fun two H13 r13 s13 => ?_
  have s1113 := s12.trans s13
  have rA := r12.same s13
  walk_at "rd"
  refine ⟨one, lo, st, lks, nm, rfl, rA, SqL.of (s1113 _ _ hlo11), SqL.of (s1113 _ _ hst11), fun s h => (sfl s).mpr h, by omega, fun H14 s14 => ?_⟩
  walk_at "rd"
  have s1114 := s1113.trans s14
  refine ⟨two, ot, st, os, nm, rfl, r13.same s14, SqL.of (s1114 _ _ h11), SqL.of (s1114 _ _ hst11), fun s h => (sfo s).mpr h, by omega, fun H15 s15 => ?_⟩
  walk_at "rd"
  have s1115 := s1114.trans s15
  refine ⟨lo, st, lks, nm, rfl, SqL.of (s1115 _ _ hlo11), SqL.of (s1115 _ _ hst11), by omega, by omega, fun mi vm pm H16 h16 pr16 mm zm s16 => ?_⟩
  have s1116 := s1115.trans s16
  refine ⟨ot, st, os, nm, rfl, SqL.of (s1116 _ _ h11), SqL.of (s1116 _ _ hst11), by omega, by omega, fun yo vy py H17 h17 pr17 my zy s17 => ?_⟩
  have s1117 := s1116.trans s17
  have rA17 := rA.same (s14.trans (s15.trans (s16.trans s17)))
  have rB17 := r13.same (s14.trans (s15.trans (s16.trans s17)))
  have h16' := s17 _ _ h16
  have pr16' := pr16.same s17
  have hst17 := s1117 _ _ hst11
  have p17 := p11.same s1117
  clear h16 pr16 rA r13 r12 s14 s15 s16 s17 s12 s13 s1113 s1114 s1115 s1116 hst11 hlo11 h11
  walk_at "rd"
  have pnm : ∀ {l : List Str} {ps : List (Str × Str)}, (∀ x y, (x, y) ∈ ps ↔ x ∈ nm ∧ y ∈ nm ∧ x ≠ y ∧ Bf l x y) → ∀ p ∈ ps, isNm p.1 ∧ isNm p.2 := fun h p hp => by
    have := (h p.1 p.2).mp hp
    exact ⟨hnm _ this.1, hnm _ this.2.1⟩
  have body : ∀ (f s A B : Addr) (l k : List Str) (vA vB : List V) (pA pB : List (Str × Str)) (D : Ends) (H1 : Hp) (y11 y12 y13 y14 y15 y16 y17 y18 y19 : Option V), RowAt K H1 f l → RowAt K H1 s k → H1 A = some (.lst vA) → H1 B = some (.lst vB) → PrL H1 vA pA → PrL H1 vB pB → SameF l nm → SameF k nm → l.length ≤ 60 → k.length ≤ 60 → pA.length ≤ 64 →
      (∀ x y, (x, y) ∈ pA ↔ x ∈ nm ∧ y ∈ nm ∧ x ≠ y ∧ Bf l x y) → (∀ x y, (x, y) ∈ pB ↔ x ∈ nm ∧ y ∈ nm ∧ x ≠ y ∧ Bf k x y) →
      (∀ (H' : Hp) (x15 x19 : Option V), Same H1 H' → D.nx [some (V.ref a), some (V.ref p'), some (V.ref st), some (V.ref lo), x4, x5, some (V.ref ot), some (V.ref one), some (V.ref two), some (V.ref mi), some (V.ref yo), some (.ref f), some (.ref s), some (.ref A), some (.ref B), x15, y16, y17, y18, x19] H') →
      t_law_b2 K sp_l_pool (sp_l_cell K) sp_l_names sp_l_take (sp_l_second K) (sp_Row_init K) (sp_l_right K) (sp_l_pairs K) (sp_Row_le K) (sp_l_stranger K) (sp_Row_add K) E D [some (V.ref a), some (V.ref p'), some (V.ref st), some (V.ref lo), x4, x5, some (V.ref ot), some (V.ref one), some (V.ref two), some (V.ref mi), some (V.ref yo), some (.ref f), some (.ref s), some (.ref A), some (.ref B), y15, y16, y17, y18, y19] H1 := by
    intro f s A B l k vA vB pA pB D H1 y11 y12 y13 y14 y15 y16 y17 y18 y19 hf hs hA hB prA prB sl sk zl zk zA mA mB nx
    have nA := pnm mA
    have nB := pnm mB
    unfold t_law_b2
    walk_at "rd"
    refine leRow C hf hs (fun x h => hnm x ((sl x).mp h)) (fun x h => hnm x ((sk x).mp h)) zl zk fun b H2 hb s2 => ?_
    walk_at "rd"
    refine .inl ⟨⟨_, SqL.of (s2 _ _ hA)⟩, ?_⟩
    refine lg walk_list (fun D i H' => Same H2 H' ∧ ∃ (vs : List V) (ps : List (Str × Str)), H' D = some (.lst vs) ∧ PrL H' vs ps ∧ ps.length ≤ i ∧ (∀ p ∈ ps, p ∈ pA) ∧ (ps = [] ↔ ∀ (j : Nat) (p : Str × Str), j < i → pA[j]? = some p → p ∈ pB)) (fun D hD => ⟨Same.new hD, [], [], upd_same, trivial, Nat.le_refl _, fun _ h => absurd h List.not_mem_nil, fun _ j p h => absurd h (Nat.not_lt_zero _), fun _ => rfl⟩) (fun D hD i H' _ h => SqL.of (h.1 _ _ (s2 _ _ hA))) ?_ ?_
    · rintro D hD i v _ H3 hi ⟨s3, vs, ps, h3, pr3, z3, sub3, iff3⟩ ⟨rfl, hv⟩
      have s13 := s2.trans s3
      obtain ⟨t, pp, rfl, ep, ht⟩ := PrL.get (prA.same s13) hv
      unfold t_law_i2 t_law_e2
      walk_at "rd"
      have hpA : pp ∈ pA := List.mem_of_getElem? ep
      have hi64 : i < 64 := by have := (List.getElem?_eq_some_iff.mp ep).1; omega
      refine .inr (.inr (.inr ⟨prD pp, _, .tup (SqT.of ht) (.cons (.str _) (.cons (.str _) .nil)), .lst (SqL.of (s13 _ _ hB)) (PrL.dp (prB.same s13)), shaped_pr (nA pp hpA), shaped_prs nB, ?_⟩))
      rw [any_prs]
      walk_at "rd"
      by_cases c : pp ∈ pB
      · rw [if_neg (by rw [decide_eq_true c]; decide)]
        refine ⟨s3, vs, ps, h3, pr3, by omega, sub3, iff3.trans ⟨fun h j p hj hp => ?_, fun h j p hj hp => h j p (by omega) hp⟩⟩
        by_cases e : j = i
        · subst e; rw [ep] at hp; cases hp; exact c
        · exact h j p (by omega) hp
      · rw [if_pos (by rw [decide_eq_false c]; rfl)]
        refine ⟨_, h3, by rw [pr3.len]; omega, fun b u e => at_set (ne_of_none e hD) (s3 _ _ e), vs ++ [.ref t], ps ++ [pp], upd_same, PrL.set h3 (PrL.snoc ht pr3), by rw [List.length_append]; simp only [List.length_singleton]; omega, fun p hp => ?_, fun h => absurd h (by simp), fun h => absurd (h i pp (by omega) ep) c⟩
        rcases List.mem_append.mp hp with h | h
        · exact sub3 p h
        · rw [List.mem_singleton] at h; subst h; exact hpA
    · rintro D hD H3 ⟨s3, vs, ps, h3, pr3, z3, sub3, iff3⟩
      walk_at "rd"
      refine ⟨by decide, fun e he => ?_⟩
      have pr4 := pr3.same (Same.new (o := .lst []) he)
      refine eqD (.lst (SqL.of (at_new he h3)) (PrL.dp pr4)) (.lst (SqL.of upd_same) .nil) (shaped_prs fun p hp => nA p (sub3 p hp)) rfl ?_
      have ee : PyData.eqv (.list (ps.map prD)) (.list []) = decide (ps = []) := by
        cases ps <;> simp [PyData.eqv, PyData.eqvAll]
      rw [ee]
      have eb : b = decide (ps = []) := by
        have hl := prA.len
        have key : b = true ↔ ps = [] := by
          rw [hb, iff3]
          constructor
          · rintro ⟨_, h⟩ j p _ hp
            have m := (mA p.1 p.2).mp (List.mem_of_getElem? hp)
            exact (mB p.1 p.2).mpr ⟨m.1, m.2.1, m.2.2.1, h _ _ ((sl _).mpr m.1) ((sl _).mpr m.2.1) m.2.2.1 m.2.2.2⟩
          · intro h
            refine ⟨fun x => (sl x).trans (sk x).symm, fun x y hx hy ne hbf => ?_⟩
            have m := (mA x y).mpr ⟨(sl x).mp hx, (sl y).mp hy, ne, hbf⟩
            obtain ⟨j, hj, ej⟩ := List.getElem_of_mem m
            exact ((mB x y).mp (h j (x, y) (by omega) (by rw [List.getElem?_eq_getElem hj, ej]))).2.2.2
        by_cases h : ps = []
        · rw [decide_eq_true h]; exact key.mpr h
        · rw [decide_eq_false h]; exact Bool.eq_false_iff.mpr fun e => h (key.mp e)
      rw [← eb]
      refine neF (by cases b <;> rfl) ?_
      rw [decide_eq_true rfl]
      walk_at "rd"
      refine isiF (t := "bool") (r := true) (.base (.bl _)) rfl ?_
      walk_at "rd"
      exact nx _ _ _ ((s2.trans s3).trans (Same.new he))
  refine ⟨by decide, fun t1 ht1 => ⟨by decide, fun t2 ht2 => ⟨by decide, fun t3 ht3 => ⟨by decide, fun t4 ht4 => ⟨⟨_, SqL.of upd_same⟩, ?_⟩⟩⟩⟩⟩
  have s18 := Same.new2 (Same.new2 (Same.new2 (Same.new (o := .tup [.ref one, .ref two, .ref mi, .ref yo]) ht1) (o := .tup [.ref two, .ref one, .ref yo, .ref mi]) ht2) (o := .tup [.ref one, .ref one, .ref mi, .ref mi]) ht3) (o := .lst [.ref t1, .ref t2, .ref t3]) ht4
  have g1 : upd (upd (upd (upd H17 t1 (.tup [.ref one, .ref two, .ref mi, .ref yo])) t2 (.tup [.ref two, .ref one, .ref yo, .ref mi])) t3 (.tup [.ref one, .ref one, .ref mi, .ref mi])) t4 (.lst [.ref t1, .ref t2, .ref t3]) t1 = some (.tup [.ref one, .ref two, .ref mi, .ref yo]) := at_new ht4 (at_new ht3 (at_new ht2 upd_same))
  have g2 : upd (upd (upd (upd H17 t1 (.tup [.ref one, .ref two, .ref mi, .ref yo])) t2 (.tup [.ref two, .ref one, .ref yo, .ref mi])) t3 (.tup [.ref one, .ref one, .ref mi, .ref mi])) t4 (.lst [.ref t1, .ref t2, .ref t3]) t2 = some (.tup [.ref two, .ref one, .ref yo, .ref mi]) := at_new ht4 (at_new ht3 upd_same)
  have g3 : upd (upd (upd (upd H17 t1 (.tup [.ref one, .ref two, .ref mi, .ref yo])) t2 (.tup [.ref two, .ref one, .ref yo, .ref mi])) t3 (.tup [.ref one, .ref one, .ref mi, .ref mi])) t4 (.lst [.ref t1, .ref t2, .ref t3]) t3 = some (.tup [.ref one, .ref one, .ref mi, .ref mi]) := at_new ht4 upd_same
  have g4 : upd (upd (upd (upd H17 t1 (.tup [.ref one, .ref two, .ref mi, .ref yo])) t2 (.tup [.ref two, .ref one, .ref yo, .ref mi])) t3 (.tup [.ref one, .ref one, .ref mi, .ref mi])) t4 (.lst [.ref t1, .ref t2, .ref t3]) t4 = some (.lst [.ref t1, .ref t2, .ref t3]) := upd_same
  revert s18 g1 g2 g3 g4
  generalize upd (upd (upd (upd H17 t1 (.tup [.ref one, .ref two, .ref mi, .ref yo])) t2 (.tup [.ref two, .ref one, .ref yo, .ref mi])) t3 (.tup [.ref one, .ref one, .ref mi, .ref mi])) t4 (.lst [.ref t1, .ref t2, .ref t3]) = H18
  intro s18 g1 g2 g3 g4
  have tup4 : ∀ {H' : Hp} {T w x y u : Addr} {σ : St} {Q' : St → Hp → Prop}, H' T = some (.tup [.ref w, .ref x, .ref y, .ref u]) → Q' ((((σ.set 11 (some (.ref w))).set 12 (some (.ref x))).set 13 (some (.ref y))).set 14 (some (.ref u))) H' → gTup K 4 (gCons (gName 11) (gCons (gName 12) (gCons (gName 13) (gCons (gName 14) gNil)))) (.ref T) σ H' Q' :=
    fun h q => ⟨_, _, rfl, SqT.of h, rfl, _, _, rfl, _, _, rfl, _, _, rfl, _, _, rfl, rfl, q⟩
  refine fg (walk_list (xs := [.ref t1, .ref t2, .ref t3])) (fun i σ H' => Same H18 H' ∧ ∃ y11 y12 y13 y14 y15 y19, σ = [some (V.ref a), some (V.ref p'), some (V.ref st), some (V.ref lo), x4, x5, some (V.ref ot), some (V.ref one), some (V.ref two), some (V.ref mi), some (V.ref yo), y11, y12, y13, y14, y15, none, none, none, y19]) ⟨same_refl, _, _, _, _, _, _, rfl⟩ (fun i σ H' _ h => SqL.of (h.1 _ _ g4)) ?_ ?_
  · rintro i v _ _ H19 hi ⟨s19, y11, y12, y13, y14, y15, y19, rfl⟩ ⟨rfl, hv⟩
    have s1719 := s18.trans s19
    have hi3 : i = 0 ∨ i = 1 ∨ i = 2 := by simp at hi; omega
    rcases hi3 with rfl | rfl | rfl
    · cases hv
      refine tup4 (s19 _ _ g1) ?_
      refine body one two mi yo lks os vm vy pm py _ H19 none none none none _ _ _ _ _ (rA17.same s1719) (rB17.same s1719) (s1719 _ _ h16') (s1719 _ _ h17) (pr16'.same s1719) (pr17.same s1719) sfl sfo (by omega) (by omega) zm mm my fun H' x15 x19 s' => ?_
      exact ⟨s19.trans s', _, _, _, _, _, _, rfl⟩
    · cases hv
      refine tup4 (s19 _ _ g2) ?_
      refine body two one yo mi os lks vy vm py pm _ H19 none none none none _ _ _ _ _ (rB17.same s1719) (rA17.same s1719) (s1719 _ _ h17) (s1719 _ _ h16') (pr17.same s1719) (pr16'.same s1719) sfo sfl (by omega) (by omega) zy my mm fun H' x15 x19 s' => ?_
      exact ⟨s19.trans s', _, _, _, _, _, _, rfl⟩
    · cases hv
      refine tup4 (s19 _ _ g3) ?_
      refine body one one mi mi lks lks vm vm pm pm _ H19 none none none none _ _ _ _ _ (rA17.same s1719) (rA17.same s1719) (s1719 _ _ h16') (s1719 _ _ h16') (pr16'.same s1719) (pr16'.same s1719) sfl sfl (by omega) (by omega) zm mm mm fun H' x15 x19 s' => ?_
      exact ⟨s19.trans s', _, _, _, _, _, _, rfl⟩
  rintro _ H19 ⟨s19, y11, y12, y13, y14, y15, y19, rfl⟩
  have s1719 := s18.trans s19
  have p19 := p17.same s1719
  have hst19 := s1719 _ _ hst17
  have rA19 := rA17.same s1719
  clear body g1 g2 g3 g4 s18 s19 rA17 rB17 p17 hst17 pr16' pr17 h16' h17
  walk_at "rd"
  refine ⟨p', st, _, nm, rfl, p19, by omega, Ne.symm nst, hst19, hnm, by omega, fun nw H20 nnw new p20 b20 => ?_⟩
  obtain ⟨xs19, hxs19⟩ := p19.lst
  have rA20 := rA19.but hxs19 b20
  walk_at "rd"
  refine ⟨by decide, fun e1 he1 => ?_⟩
  have n1 : ∀ s ∈ [nw], isNm s := fun s h => by rw [List.mem_singleton] at h; subst h; exact nnw
  have rA21 := rA20.same (Same.new (o := .lst [.str nw]) he1)
  refine row_ofL (ss := [nw]) (SqL.of upd_same) n1 fun rn H22 hrn s22 => ?_
  have rA22 := rA21.same s22
  obtain ⟨dx, t, ea, _⟩ := id rA22
  obtain ⟨dy, t', eb, _⟩ := id hrn
  refine ⟨one, dx, _, rn, dy, _, rfl, rfl, ea, eb, one, rn, lks, [nw], rfl, rA22, hrn, lnm, n1, by omega, by simp, fun mo H23 hmo s23 => ?_⟩
  have rA23 := rA22.same s23
  have monm : ∀ s ∈ lks ++ [nw], isNm s := fun s h => (List.mem_append.mp h).elim (lnm s) (n1 s)
  have mz : (lks ++ [nw]).length ≤ 60 := by rw [List.length_append]; simp only [List.length_singleton]; omega
  have notin : nw ∉ lks := fun h => new ((sfl nw).mp h)
  walk_at "rd"
  refine leRow C rA23 hmo lnm monm (by omega) mz fun b1 H24 hb1 s24 => ?_
  obtain rfl : b1 = false := Bool.eq_false_iff.mpr fun e => notin (((hb1.mp e).1 nw).mpr (List.mem_append_right _ (List.mem_singleton.mpr rfl)))
  walk_at "rd"
  refine leRow C (hmo.same s24) (rA23.same s24) monm lnm mz (by omega) fun b2 H25 hb2 s25 => ?_
  obtain rfl : b2 = false := Bool.eq_false_iff.mpr fun e => notin (((hb2.mp e).1 nw).mp (List.mem_append_right _ (List.mem_singleton.mpr rfl)))
  walk_at "rd"
  have hmo25 := (hmo.same s24).same s25
  refine leRow C hmo25 hmo25 monm monm mz mz fun b3 H26 hb3 s26 => ?_
  obtain rfl : b3 = true := hb3.mpr ⟨fun _ => Iff.rfl, fun _ _ _ _ _ h => h⟩
  walk_at "rd"
  refine ⟨by decide, fun e2 he2 => ?_⟩
  have n0 : ∀ s ∈ ([] : List Str), isNm s := fun s h => absurd h List.not_mem_nil
  refine row_ofL (ss := []) (SqL.of upd_same) n0 fun ra H27 hra s27 => ?_
  refine ⟨by decide, fun e3 he3 => ?_⟩
  refine row_ofL (ss := []) (SqL.of upd_same) n0 fun rb H28 hrb s28 => ?_
  refine leRow C (hra.same (Same.trans (Same.new he3) s28)) hrb n0 n0 (by simp) (by simp) fun b4 H29 hb4 s29 => ?_
  obtain rfl : b4 = true := hb4.mpr ⟨fun _ => Iff.rfl, fun _ _ _ _ _ h => h⟩
  exact q _
end
/-! ## derivations -/
def top (i : Nat) : Stmt := PySem.Challenge.pw_lookrows_k30_before_and_weaker_rows.main.body.getD i (.Pass ⟨0, 0, 0, 0⟩)
structure Txt (K : PySem.W.Frag) (mg : Str → Option Value) : Prop where
  g_l_cell : mg "_law_cell" = some (.ref (He.ga K "_law_cell"))
  g_l_pool : mg "_law_pool" = some (.ref (He.ga K "_law_pool"))
  g_l_take : mg "_law_take" = some (.ref (He.ga K "_law_take"))
  g_l_names : mg "_law_names" = some (.ref (He.ga K "_law_names"))
  z_range : mg "range" = none
  z_len : mg "len" = none
  g_l_second : mg "_law_second" = some (.ref (He.ga K "_law_second"))
  k_Row : Mk K (He.ga K "Row") (He.ma K (He.ga K "Row") "__init__")
  g_Row : mg "Row" = some (.ref (He.ga K "Row"))
  g_l_right : mg "_law_right" = some (.ref (He.ga K "_law_right"))
  g_l_pairs : mg "_law_pairs" = some (.ref (He.ga K "_law_pairs"))
  nf_Row_tuple : PySem.W.notFirst K (He.ga K "Row") (.type "tuple") = true
  kt_tuple_Row : PySem.W.kitOne K (.type "tuple") (.ref (He.ga K "Row")) = some false
  nf_Row_list : PySem.W.notFirst K (He.ga K "Row") (.type "list") = true
  kt_list_Row : PySem.W.kitOne K (.type "list") (.ref (He.ga K "Row")) = some false
  nf_Row_int : PySem.W.notFirst K (He.ga K "Row") (.type "int") = true
  kt_int_Row : PySem.W.kitOne K (.type "int") (.ref (He.ga K "Row")) = some false
  c_Row : ClsI K (He.ga K "Row")
  m_Row_le : Meth K (He.ga K "Row") "__le__" (He.ma K (He.ga K "Row") "__le__") ∧ PySem.W.fnIn K (He.ma K (He.ga K "Row") "__le__") = true
  z_isinstance : mg "isinstance" = none
  z_bool : mg "bool" = none
  g_l_stranger : mg "_law_stranger" = some (.ref (He.ga K "_law_stranger"))
  m_Row_add : Meth K (He.ga K "Row") "__add__" (He.ma K (He.ga K "Row") "__add__") ∧ PySem.W.fnIn K (He.ma K (He.ga K "Row") "__add__") = true
  z_int : mg "int" = none
  g_is_name : mg "is_name" = some (.ref (He.ga K "is_name"))
  x_BadName : XC K (He.ga K "BadName") (He.ma K (He.ga K "BadName") "__init__")
  g_BadName : mg "BadName" = some (.ref (He.ga K "BadName"))
  z_tuple : mg "tuple" = none
  n_Row_looks : NoAttr K (He.ga K "Row") "looks"
  z_str : mg "str" = none
  i_LONGEST : ∃ t, mg "LONGEST" = some (.int 8 t)
  s_LETTERS : ∃ t, mg "LETTERS" = some (.str "abcdefghijklmnopqrstuvwxyz" t)
  s_SIGNS : ∃ t, mg "SIGNS" = some (.str "abcdefghijklmnopqrstuvwxyz0123456789" t)
  m_Row_before : Meth K (He.ga K "Row") "before" (He.ma K (He.ga K "Row") "before") ∧ PySem.W.fnIn K (He.ma K (He.ga K "Row") "before") = true
  g_l_before : mg "_law_before" = some (.ref (He.ga K "_law_before"))
  x_NoFile : XC K (He.ga K "NoFile") (He.ma K (He.ga K "NoFile") "__init__")
  g_NoFile : mg "NoFile" = some (.ref (He.ga K "NoFile"))
  g_first_look : mg "first_look" = some (.ref (He.ga K "first_look"))
  g_last_look : mg "last_look" = some (.ref (He.ga K "last_look"))
  z_enumerate : mg "enumerate" = none
  g_same_files : mg "same_files" = some (.ref (He.ga K "same_files"))
  g_fewer_before : mg "fewer_before" = some (.ref (He.ga K "fewer_before"))
  z_sorted : mg "sorted" = none
  p_Row_files : PropOf K (He.ga K "Row") "files" (He.ma K (He.ga K "Row") "files") (pAd K "Row" "files")
  g_is_before : mg "is_before" = some (.ref (He.ga K "is_before"))
  g_law : mg "law" = some (.ref (He.ga K "law"))
  nx_BadName_name : PySem.W.findIn K (.ref (He.ga K "BadName")) "name" = some none
  nx_NoFile_name : PySem.W.findIn K (.ref (He.ga K "NoFile")) "name" = some none
section
variable {P : Program} {w : World} {K : PySem.W.Frag} {mg : Str → Option Value} {base : Heap}
abbrev s_l_pool : Stmt := top 23
theorem sc_l_pool : FnScope n_l_pool ["_law_cell_here"] (defScope s_l_pool) := ⟨rfl, rfl, rfl, by decide +kernel, rfl, by decide +kernel, by decide +kernel⟩
theorem ok_l_pool {sp : Sp} {fd : FuncData} (T : Txt K mg) (F : FunD K "_law_pool" "_law_pool" (defArgs s_l_pool) (defBody s_l_pool) (defScope s_l_pool) [] [] (He.ga K "_law_pool") fd) 
    (len : ∀ vs H Q E, sp vs H Q E → vs.length = 1) (pu : ∀ vs H Q E, sp vs H Q E → t_l_pool K  E { nx := fun _ H' => Q .non H', rt := Q } (start n_l_pool vs) H) : Df P w K mg base 1 (He.ga K "_law_pool") ["_law_cell_here"] sp [] := by
  refine df_of (t := fun E => t_l_pool K  E) F sc_l_pool len (fun _ _ _ _ _ _ us hl => match us, hl with | [_], _ => rfl) (fun cdv A outer s H E hr => ?_) pu
  exact (pss_cons (ps_set (i := 1) sc_l_pool.nd rfl (Or.inl rfl) (pe_op op_mulA pe_int (pv 0)))
    (pss_cons (ps_if (pt_cmpR op_lt (pv 0) pe_int (nomark _)) (pss_one (ps_set (i := 1) sc_l_pool.nd rfl (Or.inl rfl) (pe_op op_sub (pe_op op_sub pe_int (pe_op op_mulA pe_int (pv 0))) pe_int))) pss_nil)
    (pss_cons (ps_if (pt_cmpR op_ge (pv 1) (pe_op op_pow pe_int pe_int) (nomark _)) (pss_one (ps_ret (pe_lst (pa_cons (pv 1) (pa_cons (pe_op op_mod (pe_callTy c_int rfl T.z_int boot_int (pa_cons (pv 1) pa_nil)) pe_int) (pa_cons pe_int pa_nil)))))) pss_nil)
    (pss_one (ps_ret (pe_lst (pa_cons pe_int (pa_cons (pe_op op_mod (pe_callTy c_int rfl T.z_int boot_int (pa_cons (pv 1) pa_nil)) pe_int) (pa_cons pe_int pa_nil)))))))))
abbrev s_l_cell : Stmt := top 22
theorem sc_l_cell : FnScope n_l_cell ["_law_script", "_law_k"] (defScope s_l_cell) := ⟨rfl, rfl, rfl, by decide +kernel, rfl, by decide +kernel, by decide +kernel⟩
theorem ok_l_cell {sp : Sp} {fd : FuncData} (T : Txt K mg) (F : FunD K "_law_cell" "_law_cell" (defArgs s_l_cell) (defBody s_l_cell) (defScope s_l_cell) [] [] (He.ga K "_law_cell") fd) 
    (len : ∀ vs H Q E, sp vs H Q E → vs.length = 2) (pu : ∀ vs H Q E, sp vs H Q E → t_l_cell K  E { nx := fun _ H' => Q .non H', rt := Q } (start n_l_cell vs) H) : Df P w K mg base 1 (He.ga K "_law_cell") ["_law_script", "_law_k"] sp [] := by
  refine df_of (t := fun E => t_l_cell K  E) F sc_l_cell len (fun _ _ _ _ _ _ us hl => match us, hl with | [_, _], _ => rfl) (fun cdv A outer s H E hr => ?_) pu
  exact (pss_cons (ps_if (pt_cmpR op_lt (pv 1) (pe_callB call_lenU rfl T.z_len boot_len (pa_cons (pv 0) pa_nil)) (nomark _)) (pss_one (ps_ret (pe_ix (ix_U (hu1 hr)) (pv 0) (pv 1) (fun _ _ => rfl)))) pss_nil)
    (pss_one (ps_ret pe_int)))
abbrev s_l_take : Stmt := top 24
theorem sc_l_take : FnScope n_l_take ["_law_pool_here", "_law_many"] (defScope s_l_take) := ⟨rfl, rfl, rfl, by decide +kernel, rfl, by decide +kernel, by decide +kernel⟩
theorem ok_l_take {sp : Sp} {fd : FuncData} (T : Txt K mg) (F : FunD K "_law_take" "_law_take" (defArgs s_l_take) (defBody s_l_take) (defScope s_l_take) [] [] (He.ga K "_law_take") fd) 
    (len : ∀ vs H Q E, sp vs H Q E → vs.length = 2) (pu : ∀ vs H Q E, sp vs H Q E → t_l_take K  E { nx := fun _ H' => Q .non H', rt := Q } (start n_l_take vs) H) : Df P w K mg base 1 (He.ga K "_law_take") ["_law_pool_here", "_law_many"] sp [] := by
  refine df_of (t := fun E => t_l_take K  E) F sc_l_take len (fun _ _ _ _ _ _ us hl => match us, hl with | [_, _], _ => rfl) (fun cdv A outer s H E hr => ?_) pu
  exact (pss_cons (ps_if (pt_cmpR op_gt (pe_ix (ix_U (hu1 hr)) (pv 0) pe_int (fun _ _ => rfl)) pe_int (nomark _)) (pss_cons (ps_set (i := 2) sc_l_take.nd rfl (Or.inl rfl) (pe_op op_mod (pe_callTy c_int rfl T.z_int boot_int (pa_cons (pe_ix (ix_U (hu1 hr)) (pv 0) pe_int (fun _ _ => rfl)) pa_nil)) (pv 1)))
    (pss_cons (ps_asg (pe_op op_fdiv (pe_ix (ix_U (hu1 hr)) (pv 0) pe_int (fun _ _ => rfl)) (pv 1)) (pg_sub (pv 0) pe_int (set_U (hu1 hr))))
    (pss_one (ps_ret (pv 2))))) pss_nil)
    (pss_cons (ps_asg (pe_op op_addU (pe_ix (ix_U (hu1 hr)) (pv 0) pe_int (fun _ _ => rfl)) pe_int) (pg_sub (pv 0) pe_int (set_U (hu1 hr))))
    (pss_cons (ps_set (i := 3) sc_l_take.nd rfl (Or.inl rfl) (pe_op op_mod (pe_callTy c_int rfl T.z_int boot_int (pa_cons (pe_op op_pow (pe_op op_addU (pe_op op_addU (pe_ix (ix_U (hu1 hr)) (pv 0) pe_int (fun _ _ => rfl)) (pe_op op_mulA pe_int (pe_ix (ix_U (hu1 hr)) (pv 0) pe_int (fun _ _ => rfl)))) pe_int) pe_int) pa_nil)) pe_int))
    (pss_one (ps_ret (pe_op op_mod (pe_op op_mod (pe_callTy c_int rfl T.z_int boot_int (pa_cons (pe_op op_mulA (pe_op op_addU (pv 3) (pe_ix (ix_U (hu1 hr)) (pv 0) pe_int (fun _ _ => rfl))) pe_int) pa_nil)) pe_int) (pv 1)))))))
abbrev s_l_names : Stmt := top 25
theorem sc_l_names : FnScope n_l_names ["_law_pool_here", "_law_many"] (defScope s_l_names) := ⟨rfl, rfl, rfl, by decide +kernel, rfl, by decide +kernel, by decide +kernel⟩
theorem ok_l_names {sp_l_take sp : Sp} {fd : FuncData} (T : Txt K mg) (F : FunD K "_law_names" "_law_names" (defArgs s_l_names) (defBody s_l_names) (defScope s_l_names) [] [] (He.ga K "_law_names") fd) (D_l_take : Df P w K mg base 1 (He.ga K "_law_take") ["_law_pool_here", "_law_many"] sp_l_take [])
    (len : ∀ vs H Q E, sp vs H Q E → vs.length = 2) (pu : ∀ vs H Q E, sp vs H Q E → t_l_names K sp_l_take E { nx := fun _ H' => Q .non H', rt := Q } (start n_l_names vs) H) : Df P w K mg base 2 (He.ga K "_law_names") ["_law_pool_here", "_law_many"] sp [] := by
  refine df_of (t := fun E => t_l_names K sp_l_take E) F sc_l_names len (fun _ _ _ _ _ _ us hl => match us, hl with | [_, _], _ => rfl) (fun cdv A outer s H E hr => ?_) pu
  exact (pss_cons (ps_set (i := 2) sc_l_names.nd rfl (Or.inl rfl) pe_str)
    (pss_cons (ps_set (i := 3) sc_l_names.nd rfl (Or.inl rfl) (pe_op op_addU (pv 2) pe_str))
    (pss_cons (ps_set (i := 4) sc_l_names.nd rfl (Or.inr rfl) (pe_ix (ix_U (hu1 hr)) (pv 2) (pe_c D_l_take hr (takes_of rfl rfl rfl rfl) T.g_l_take (pa_cons (pv 0) (pa_cons pe_int pa_nil))) (fun _ _ => rfl)))
    (pss_cons (ps_for (passes_of rfl) rfl (pi_range1 rfl T.z_range (pa_cons pe_int pa_nil)) (pg_name (i := 5) sc_l_names.nd rfl (by first | exact Or.inl rfl | exact Or.inr rfl)) (pss_one (ps_set (i := 4) sc_l_names.nd rfl (Or.inr rfl) (pe_op op_addU (pv 4) (pe_ix (ix_U (hu1 hr)) (pv 3) (pe_c D_l_take hr (takes_of rfl rfl rfl rfl) T.g_l_take (pa_cons (pv 0) (pa_cons pe_int pa_nil))) (fun _ _ => rfl))))))
    (pss_cons (ps_if (pt_cmpR (op_eqU (hu64 hr)) (pe_c D_l_take hr (takes_of rfl rfl rfl rfl) T.g_l_take (pa_cons (pv 0) (pa_cons pe_int pa_nil))) pe_int (nomark _)) (pss_one (ps_ret (pe_lc (own := [("_law_k", 5)]) (g := gName 5) (tt := tYes) rfl sc_l_names.nd (pi_range1 rfl T.z_range (pa_cons (pv 1) pa_nil)) (blkOk_by (own := [("_law_k", 5)]) (N := n_l_names) (sc := defScope s_l_names) (by decide +kernel)) (fun _ _ _ _ _ => (pg_name (i := 5) sc_l_names.nd rfl (by first | exact Or.inl rfl | exact Or.inr rfl))) (fun _ _ _ _ _ => pts_nil) (fun _ _ _ _ _ => (pe_slice sl_U (pv 4) po_none (po_some (pe_op op_addU (pv 5) pe_int))))))) pss_nil)
    (pss_cons (ps_set (i := 6) sc_l_names.nd rfl (Or.inl rfl) (pe_slice sl_U (pv 4) po_none (po_some (pe_c D_l_take hr (takes_of rfl rfl rfl rfl) T.g_l_take (pa_cons (pv 0) (pa_cons pe_int pa_nil))))))
    (pss_cons (ps_set (i := 7) sc_l_names.nd rfl (Or.inl rfl) (pe_c D_l_take hr (takes_of rfl rfl rfl rfl) T.g_l_take (pa_cons (pv 0) (pa_cons (pe_op op_addU (pe_callB call_lenU rfl T.z_len boot_len (pa_cons (pv 6) pa_nil)) pe_int) pa_nil))))
    (pss_cons (ps_set (i := 8) sc_l_names.nd rfl (Or.inl rfl) (pe_ifExp (pt_cmpR (op_eqU (hu64 hr)) (pv 7) pe_int (nomark _)) (pv 2) (pv 3)))
    (pss_cons (ps_set (i := 9) sc_l_names.nd rfl (Or.inl rfl) (pe_c D_l_take hr (takes_of rfl rfl rfl rfl) T.g_l_take (pa_cons (pv 0) (pa_cons pe_int pa_nil))))
    (pss_cons (ps_set (i := 10) sc_l_names.nd rfl (Or.inl rfl) (pe_lst pa_nil))
    (pss_cons (ps_for (passes_of rfl) rfl (pi_range1 rfl T.z_range (pa_cons (pv 1) pa_nil)) (pg_name (i := 5) sc_l_names.nd rfl (by first | exact Or.inl rfl | exact Or.inr rfl)) (pss_cons (ps_set (i := 11) sc_l_names.nd rfl (Or.inl rfl) (pe_ix (ix_U (hu1 hr)) (pv 8) (pe_op op_mod (pe_op op_addU (pv 9) (pe_op op_mulA pe_int (pv 5))) (pe_callB call_lenU rfl T.z_len boot_len (pa_cons (pv 8) pa_nil))) (fun _ _ => rfl)))
    (pss_one (ps_expr (pe_bm PySem.F.plainAttrs_list PySem.F.slot_list_append PySem.F.type_list_append mt_append (pv 10) (pa_cons (pe_op op_addU (pe_op op_addU (pe_slice sl_U (pv 6) po_none (po_some (pv 7))) (pv 11)) (pe_slice sl_U (pv 6) (po_some (pv 7)) po_none)) pa_nil))))))
    (pss_one (ps_ret (pv 10))))))))))))))
abbrev s_l_second : Stmt := top 30
theorem sc_l_second : FnScope n_l_second ["_law_pool_here", "_law_looks", "_law_names_here"] (defScope s_l_second) := ⟨rfl, rfl, rfl, by decide +kernel, rfl, by decide +kernel, by decide +kernel⟩
theorem ok_l_second {sp_l_take sp : Sp} {fd : FuncData} (T : Txt K mg) (F : FunD K "_law_second" "_law_second" (defArgs s_l_second) (defBody s_l_second) (defScope s_l_second) [] [] (He.ga K "_law_second") fd) (D_l_take : Df P w K mg base 1 (He.ga K "_law_take") ["_law_pool_here", "_law_many"] sp_l_take [])
    (len : ∀ vs H Q E, sp vs H Q E → vs.length = 3) (pu : ∀ vs H Q E, sp vs H Q E → t_l_second K sp_l_take E { nx := fun _ H' => Q .non H', rt := Q } (start n_l_second vs) H) : Df P w K mg base 2 (He.ga K "_law_second") ["_law_pool_here", "_law_looks", "_law_names_here"] sp [] := by
  refine df_of (t := fun E => t_l_second K sp_l_take E) F sc_l_second len (fun _ _ _ _ _ _ us hl => match us, hl with | [_, _, _], _ => rfl) (fun cdv A outer s H E hr => ?_) pu
  exact (pss_cons (ps_set (i := 3) sc_l_second.nd rfl (Or.inl rfl) (pe_c D_l_take hr (takes_of rfl rfl rfl rfl) T.g_l_take (pa_cons (pv 0) (pa_cons pe_int pa_nil))))
    (pss_cons (ps_if (PW.pt (pw_or (pt_cmpR (op_eqU (hu64 hr)) (pv 3) pe_int (nomark _)) (pw_or1 (pt_cmpR (op_eqU (hu64 hr)) (pv 1) (pe_lst pa_nil) (nomark _))))) (pss_one (ps_ret (pe_op op_addU (pe_revA (pv 2)) (pe_lc (own := [("_law_k", 7)]) (g := gName 7) (tt := (t_l_second_i1 K sp_l_take E)) rfl sc_l_second.nd (pi_range1 rfl T.z_range (pa_cons (pe_c D_l_take hr (takes_of rfl rfl rfl rfl) T.g_l_take (pa_cons (pv 0) (pa_cons pe_int pa_nil))) pa_nil)) (blkOk_by (own := [("_law_k", 7)]) (N := n_l_second) (sc := defScope s_l_second) (by decide +kernel)) (fun _ _ _ _ _ => (pg_name (i := 7) sc_l_second.nd rfl (by first | exact Or.inl rfl | exact Or.inr rfl))) (fun _ _ _ _ _ => (pts_one (pt_cmpR (op_neU (hu64 hr)) (pv 2) (pe_lst pa_nil) (nomark _)))) (fun _ _ _ _ _ => (pe_ix (ix_U (hu1 hr)) (pv 2) (pe_c D_l_take hr takes0 T.g_l_take (pa_cons (pv 0) (pa_cons (pe_callB call_lenU rfl T.z_len boot_len (pa_cons (pv 2) pa_nil)) pa_nil))) (fun _ _ => rfl))))))) pss_nil)
    (pss_cons (ps_set (i := 4) sc_l_second.nd rfl (Or.inl rfl) (pe_c D_l_take hr (takes_of rfl rfl rfl rfl) T.g_l_take (pa_cons (pv 0) (pa_cons (pe_callB call_lenU rfl T.z_len boot_len (pa_cons (pv 1) pa_nil)) pa_nil))))
    (pss_cons (ps_set (i := 5) sc_l_second.nd rfl (Or.inl rfl) (pe_op op_addU (pe_slice sl_U (pv 1) po_none (po_some (pv 4))) (pe_slice sl_U (pv 1) (po_some (pe_op op_addU (pv 4) pe_int)) po_none)))
    (pss_cons (ps_if (PW.pt (pw_and (pt_cmpR (op_eqU (hu64 hr)) (pv 3) pe_int (nomark _)) (pw_and1 (pt_cmpR (op_inU (hu65 hr)) (pe_ix (ix_U (hu1 hr)) (pv 1) (pv 4) (fun _ _ => rfl)) (pv 5) rfl)))) (pss_one (ps_ret (pv 5))) pss_nil)
    (pss_cons (ps_if (pt_cmpR (op_eqU (hu64 hr)) (pv 3) pe_int (nomark _)) (pss_one (ps_ret (pe_op op_addU (pe_op op_addU (pe_slice sl_U (pv 1) po_none (po_some (pv 4))) (pe_lst (pa_cons (pe_ix (ix_U (hu1 hr)) (pv 1) (pv 4) (fun _ _ => rfl)) pa_nil))) (pe_slice sl_U (pv 1) (po_some (pv 4)) po_none)))) pss_nil)
    (pss_cons (ps_set (i := 6) sc_l_second.nd rfl (Or.inl rfl) (pe_c D_l_take hr (takes_of rfl rfl rfl rfl) T.g_l_take (pa_cons (pv 0) (pa_cons (pe_op op_addU (pe_callB call_lenU rfl T.z_len boot_len (pa_cons (pv 5) pa_nil)) pe_int) pa_nil))))
    (pss_one (ps_ret (pe_op op_addU (pe_op op_addU (pe_slice sl_U (pv 5) po_none (po_some (pv 6))) (pe_lst (pa_cons (pe_ix (ix_U (hu1 hr)) (pv 1) (pv 4) (fun _ _ => rfl)) pa_nil))) (pe_slice sl_U (pv 5) (po_some (pv 6)) po_none)))))))))))
abbrev s_is_name : Stmt := top 10
theorem sc_is_name : FnScope n_is_name ["word"] (defScope s_is_name) := ⟨rfl, rfl, rfl, by decide +kernel, rfl, by decide +kernel, by decide +kernel⟩
theorem ok_is_name {sp : Sp} {fd : FuncData} (T : Txt K mg) (F : FunD K "is_name" "is_name" (defArgs s_is_name) (defBody s_is_name) (defScope s_is_name) [] [] (He.ga K "is_name") fd) 
    (len : ∀ vs H Q E, sp vs H Q E → vs.length = 1) (pu : ∀ vs H Q E, sp vs H Q E → t_is_name K  E { nx := fun _ H' => Q .non H', rt := Q } (start n_is_name vs) H) : Df P w K mg base 1 (He.ga K "is_name") ["word"] sp [] := by
  refine df_of (t := fun E => t_is_name K  E) F sc_is_name len (fun _ _ _ _ _ _ us hl => match us, hl with | [_], _ => rfl) (fun cdv A outer s H E hr => ?_) pu
  exact (pss_cons (ps_if (PW.pt (pw_or (pt_not (pt_val (pe_callB call_isi rfl T.z_isinstance boot_isinstance (pa_cons (pv 0) (pa_cons (pe_bltn (v := .ty "str") rfl T.z_str boot_str rfl) pa_nil))))) (pw_or (pt_cmpR op_lt (pe_callB call_lenU rfl T.z_len boot_len (pa_cons (pv 0) pa_nil)) pe_int (nomark _)) (pw_or1 (pt_cmpR op_gt (pe_callB call_lenU rfl T.z_len boot_len (pa_cons (pv 0) pa_nil)) (pe_gcU rfl (let ⟨t, h⟩ := T.i_LONGEST; ⟨_, h, ⟨t, rfl⟩⟩)) (nomark _)))))) (pss_one (ps_ret pe_bl)) pss_nil)
    (pss_cons (ps_if (pt_cmpR (op_notInU (hu65 hr)) (pe_ix (ix_U (hu1 hr)) (pv 0) pe_int (fun _ _ => rfl)) (pe_gcU rfl (let ⟨t, h⟩ := T.s_LETTERS; ⟨_, h, ⟨t, rfl⟩⟩)) rfl) (pss_one (ps_ret pe_bl)) pss_nil)
    (pss_cons (ps_for (passes_of rfl) rfl (pi_str (pv 0)) (pg_name (i := 1) sc_is_name.nd rfl (by first | exact Or.inl rfl | exact Or.inr rfl)) (pss_one (ps_if (pt_cmpR (op_notInU (hu65 hr)) (pv 1) (pe_gcU rfl (let ⟨t, h⟩ := T.s_SIGNS; ⟨_, h, ⟨t, rfl⟩⟩)) rfl) (pss_one (ps_ret pe_bl)) pss_nil)))
    (pss_one (ps_ret pe_bl)))))
abbrev s_BadName_init : Stmt := inClass (top 3) 0
theorem sc_BadName_init : FnScope n_BadName_init ["self", "name"] (defScope s_BadName_init) := ⟨rfl, rfl, rfl, by decide +kernel, rfl, by decide +kernel, by decide +kernel⟩
theorem ok_BadName_init {sp : Sp} {fd : FuncData} (T : Txt K mg) (F : FunD K "__init__" "BadName.__init__" (defArgs s_BadName_init) (defBody s_BadName_init) (defScope s_BadName_init) [] [] (He.ma K (He.ga K "BadName") "__init__") fd) 
    (len : ∀ vs H Q E, sp vs H Q E → vs.length = 2) (pu : ∀ vs H Q E, sp vs H Q E → t_BadName_init K  E { nx := fun _ H' => Q .non H', rt := Q } (start n_BadName_init vs) H) : Df P w K mg base 1 (He.ma K (He.ga K "BadName") "__init__") ["self", "name"] sp [] := by
  refine df_of (t := fun E => t_BadName_init K  E) F sc_BadName_init len (fun _ _ _ _ _ _ us hl => match us, hl with | [_, _], _ => rfl) (fun cdv A outer s H E hr => ?_) pu
  exact (pss_one (ps_ost (pv 0) (pv 1)))
abbrev s_Row_init : Stmt := inClass (top 14) 0
theorem sc_Row_init : FnScope n_Row_init ["self", "files"] (defScope s_Row_init) := ⟨rfl, rfl, rfl, by decide +kernel, rfl, by decide +kernel, by decide +kernel⟩
theorem ok_Row_init {sp_is_name sp : Sp} {fd : FuncData} (T : Txt K mg) (F : FunD K "__init__" "Row.__init__" (defArgs s_Row_init) (defBody s_Row_init) (defScope s_Row_init) [] [] (He.ma K (He.ga K "Row") "__init__") fd) (D_is_name : Df P w K mg base 1 (He.ga K "is_name") ["word"] sp_is_name []) (D_BadName_init : Df P w K mg base 1 (He.ma K (He.ga K "BadName") "__init__") ["self", "name"] (spX1 (He.ga K "BadName") "name") [])
    (len : ∀ vs H Q E, sp vs H Q E → vs.length = 2) (pu : ∀ vs H Q E, sp vs H Q E → t_Row_init K sp_is_name E { nx := fun _ H' => Q .non H', rt := Q } (start n_Row_init vs) H) : Df P w K mg base 3 (He.ma K (He.ga K "Row") "__init__") ["self", "files"] sp [] := by
  refine df_of (t := fun E => t_Row_init K sp_is_name E) F sc_Row_init len (fun _ _ _ _ _ _ us hl => match us, hl with | [_, _], _ => rfl) (fun cdv A outer s H E hr => ?_) pu
  exact (pss_cons (ps_for (passes_of rfl) rfl (pi_seq (pv 1)) (pg_name (i := 2) sc_Row_init.nd rfl (by first | exact Or.inl rfl | exact Or.inr rfl)) (pss_one (ps_if (pt_not (pt_val (pe_c D_is_name hr (takes_of rfl rfl rfl rfl) T.g_is_name (pa_cons (pv 2) pa_nil)))) (pss_one (ps_raise1 rfl T.x_BadName.x D_BadName_init hr (takes_of rfl rfl rfl rfl) T.g_BadName (pv 2))) pss_nil)))
    (pss_one (ps_fld (pv 0) (pe_callTy c_tuple rfl T.z_tuple boot_tuple (pa_cons (pv 1) pa_nil)) rfl)))
abbrev s_NoFile_init : Stmt := inClass (top 4) 0
theorem sc_NoFile_init : FnScope n_NoFile_init ["self", "name"] (defScope s_NoFile_init) := ⟨rfl, rfl, rfl, by decide +kernel, rfl, by decide +kernel, by decide +kernel⟩
theorem ok_NoFile_init {sp : Sp} {fd : FuncData} (T : Txt K mg) (F : FunD K "__init__" "NoFile.__init__" (defArgs s_NoFile_init) (defBody s_NoFile_init) (defScope s_NoFile_init) [] [] (He.ma K (He.ga K "NoFile") "__init__") fd) 
    (len : ∀ vs H Q E, sp vs H Q E → vs.length = 2) (pu : ∀ vs H Q E, sp vs H Q E → t_NoFile_init K  E { nx := fun _ H' => Q .non H', rt := Q } (start n_NoFile_init vs) H) : Df P w K mg base 1 (He.ma K (He.ga K "NoFile") "__init__") ["self", "name"] sp [] := by
  refine df_of (t := fun E => t_NoFile_init K  E) F sc_NoFile_init len (fun _ _ _ _ _ _ us hl => match us, hl with | [_, _], _ => rfl) (fun cdv A outer s H E hr => ?_) pu
  exact (pss_one (ps_ost (pv 0) (pv 1)))
abbrev s_first_look : Stmt := top 16
theorem sc_first_look : FnScope n_first_look ["looks", "file"] (defScope s_first_look) := ⟨rfl, rfl, rfl, by decide +kernel, rfl, by decide +kernel, by decide +kernel⟩
theorem ok_first_look {sp : Sp} {fd : FuncData} (T : Txt K mg) (F : FunD K "first_look" "first_look" (defArgs s_first_look) (defBody s_first_look) (defScope s_first_look) [] [] (He.ga K "first_look") fd) 
    (len : ∀ vs H Q E, sp vs H Q E → vs.length = 2) (pu : ∀ vs H Q E, sp vs H Q E → t_first_look K  E { nx := fun _ H' => Q .non H', rt := Q } (start n_first_look vs) H) : Df P w K mg base 1 (He.ga K "first_look") ["looks", "file"] sp [] := by
  refine df_of (t := fun E => t_first_look K  E) F sc_first_look len (fun _ _ _ _ _ _ us hl => match us, hl with | [_, _], _ => rfl) (fun cdv A outer s H E hr => ?_) pu
  exact (pss_one (ps_ret (pe_tix (pv 0) (pv 1))))
abbrev s_last_look : Stmt := top 17
theorem sc_last_look : FnScope n_last_look ["looks", "file"] (defScope s_last_look) := ⟨rfl, rfl, rfl, by decide +kernel, rfl, by decide +kernel, by decide +kernel⟩
theorem ok_last_look {sp : Sp} {fd : FuncData} (T : Txt K mg) (F : FunD K "last_look" "last_look" (defArgs s_last_look) (defBody s_last_look) (defScope s_last_look) [] [] (He.ga K "last_look") fd) 
    (len : ∀ vs H Q E, sp vs H Q E → vs.length = 2) (pu : ∀ vs H Q E, sp vs H Q E → t_last_look K  E { nx := fun _ H' => Q .non H', rt := Q } (start n_last_look vs) H) : Df P w K mg base 1 (He.ga K "last_look") ["looks", "file"] sp [] := by
  refine df_of (t := fun E => t_last_look K  E) F sc_last_look len (fun _ _ _ _ _ _ us hl => match us, hl with | [_, _], _ => rfl) (fun cdv A outer s H E hr => ?_) pu
  exact (pss_one (ps_ret (pe_op op_sub (pe_op op_sub (pe_callB call_lenU rfl T.z_len boot_len (pa_cons (pv 0) pa_nil)) pe_int) (pe_tix (pe_revA (pv 0)) (pv 1)))))
abbrev s_Row_before : Stmt := inClass (top 14) 2
theorem sc_Row_before : FnScope n_Row_before ["self", "first", "second"] (defScope s_Row_before) := ⟨rfl, rfl, rfl, by decide +kernel, rfl, by decide +kernel, by decide +kernel⟩
theorem ok_Row_before {sp_first_look sp_last_look sp : Sp} {fd : FuncData} (T : Txt K mg) (F : FunD K "before" "Row.before" (defArgs s_Row_before) (defBody s_Row_before) (defScope s_Row_before) [] [] (He.ma K (He.ga K "Row") "before") fd) (D_NoFile_init : Df P w K mg base 1 (He.ma K (He.ga K "NoFile") "__init__") ["self", "name"] (spX1 (He.ga K "NoFile") "name") []) (D_first_look : Df P w K mg base 1 (He.ga K "first_look") ["looks", "file"] sp_first_look []) (D_last_look : Df P w K mg base 1 (He.ga K "last_look") ["looks", "file"] sp_last_look [])
    (len : ∀ vs H Q E, sp vs H Q E → vs.length = 3) (pu : ∀ vs H Q E, sp vs H Q E → t_Row_before K sp_first_look sp_last_look E { nx := fun _ H' => Q .non H', rt := Q } (start n_Row_before vs) H) : Df P w K mg base 3 (He.ma K (He.ga K "Row") "before") ["self", "first", "second"] sp [] := by
  refine df_of (t := fun E => t_Row_before K sp_first_look sp_last_look E) F sc_Row_before len (fun _ _ _ _ _ _ us hl => match us, hl with | [_, _, _], _ => rfl) (fun cdv A outer s H E hr => ?_) pu
  exact (pss_cons (ps_for (passes_of rfl) rfl (pi_tup (pe_tup (pa_cons (pv 1) (pa_cons (pv 2) pa_nil)))) (pg_name (i := 3) sc_Row_before.nd rfl (by first | exact Or.inl rfl | exact Or.inr rfl)) (pss_one (ps_if (pt_cmpR (op_notInU (hu65 hr)) (pv 3) (pe_fld (pv 0) rfl) rfl) (pss_one (ps_raise1 rfl T.x_NoFile.x D_NoFile_init hr (takes_of rfl rfl rfl rfl) T.g_NoFile (pv 3))) pss_nil)))
    (pss_one (ps_ret (pe_cmpR op_lt (pe_c D_first_look hr (takes_of rfl rfl rfl rfl) T.g_first_look (pa_cons (pe_fld (pv 0) rfl) (pa_cons (pv 1) pa_nil))) (pe_c D_last_look hr (takes_of rfl rfl rfl rfl) T.g_last_look (pa_cons (pe_fld (pv 0) rfl) (pa_cons (pv 2) pa_nil))) (nomark _)))))
abbrev s_l_before : Stmt := top 27
theorem sc_l_before : FnScope n_l_before ["_law_looks", "_law_first", "_law_second_here"] (defScope s_l_before) := ⟨rfl, rfl, rfl, by decide +kernel, rfl, by decide +kernel, by decide +kernel⟩
theorem ok_l_before {sp : Sp} {fd : FuncData} (T : Txt K mg) (F : FunD K "_law_before" "_law_before" (defArgs s_l_before) (defBody s_l_before) (defScope s_l_before) [] [] (He.ga K "_law_before") fd) 
    (len : ∀ vs H Q E, sp vs H Q E → vs.length = 3) (pu : ∀ vs H Q E, sp vs H Q E → t_l_before K  E { nx := fun _ H' => Q .non H', rt := Q } (start n_l_before vs) H) : Df P w K mg base 1 (He.ga K "_law_before") ["_law_looks", "_law_first", "_law_second_here"] sp [] := by
  refine df_of (t := fun E => t_l_before K  E) F sc_l_before len (fun _ _ _ _ _ _ us hl => match us, hl with | [_, _, _], _ => rfl) (fun cdv A outer s H E hr => ?_) pu
  exact (pss_cons (ps_setLc (i := 3) (own := [("_law_k", 5), ("_law_file", 6)]) (g := gTup K 2 (gCons (gName 5) (gCons (gName 6) (gNil)))) (tt := (t_l_before_i1 K  E)) rfl sc_l_before.nd rfl rfl (sw_true rfl rfl rfl (by decide +kernel)) (pi_enum rfl T.z_enumerate (pa_cons (pv 0) pa_nil)) (blkOk_by (own := [("_law_k", 5), ("_law_file", 6)]) (N := n_l_before) (sc := defScope s_l_before) (by decide +kernel)) (fun _ _ _ _ _ => (pg_tup rfl (pgs_cons (pg_name (i := 5) sc_l_before.nd rfl (by first | exact Or.inl rfl | exact Or.inr rfl)) (pgs_cons (pg_name (i := 6) sc_l_before.nd rfl (by first | exact Or.inl rfl | exact Or.inr rfl)) pgs_nil)))) (fun _ _ _ _ _ => (pts_one (pt_cmpR (op_eqU (hu64 hr)) (pv 6) (pv 1) (nomark _)))) (fun _ _ _ _ _ => (pv 5)))
    (pss_cons (ps_for (passes_of rfl) rfl (pi_seq (pv 3)) (pg_name (i := 4) sc_l_before.nd rfl (by first | exact Or.inl rfl | exact Or.inr rfl)) (pss_one (ps_if (pt_cmpR (op_inU (hu65 hr)) (pv 2) (pe_slice sl_U (pv 0) (po_some (pe_op op_addU (pv 4) pe_int)) po_none) rfl) (pss_one (ps_ret pe_bl)) pss_nil)))
    (pss_one (ps_ret pe_bl))))
abbrev s_l_right : Stmt := top 29
theorem sc_l_right : FnScope n_l_right ["_law_row", "_law_looks", "_law_names_here"] (defScope s_l_right) := ⟨rfl, rfl, rfl, by decide +kernel, rfl, by decide +kernel, by decide +kernel⟩
theorem ok_l_right {sp_Row_before sp_l_before sp : Sp} {fd : FuncData} (T : Txt K mg) (F : FunD K "_law_right" "_law_right" (defArgs s_l_right) (defBody s_l_right) (defScope s_l_right) [] [] (He.ga K "_law_right") fd) (D_Row_before : Df P w K mg base 3 (He.ma K (He.ga K "Row") "before") ["self", "first", "second"] sp_Row_before []) (D_l_before : Df P w K mg base 1 (He.ga K "_law_before") ["_law_looks", "_law_first", "_law_second_here"] sp_l_before [])
    (len : ∀ vs H Q E, sp vs H Q E → vs.length = 3) (pu : ∀ vs H Q E, sp vs H Q E → t_l_right K sp_Row_before sp_l_before E { nx := fun _ H' => Q .non H', rt := Q } (start n_l_right vs) H) : Df P w K mg base 4 (He.ga K "_law_right") ["_law_row", "_law_looks", "_law_names_here"] sp [] := by
  refine df_of (t := fun E => t_l_right K sp_Row_before sp_l_before E) F sc_l_right len (fun _ _ _ _ _ _ us hl => match us, hl with | [_, _, _], _ => rfl) (fun cdv A outer s H E hr => ?_) pu
  exact (pss_cons (ps_for (passes_of rfl) rfl (pi_list (pv 2)) (pg_name (i := 3) sc_l_right.nd rfl (by first | exact Or.inl rfl | exact Or.inr rfl)) (pss_one (ps_for (passes_of rfl) rfl (pi_list (pv 2)) (pg_name (i := 4) sc_l_right.nd rfl (by first | exact Or.inl rfl | exact Or.inr rfl)) (pss_cons (ps_set (i := 5) sc_l_right.nd rfl (Or.inl rfl) (pe_m (pv 0) T.c_Row.cl T.m_Row_before.1 D_Row_before hr (takes_of rfl rfl rfl rfl) (pa_cons (pv 3) (pa_cons (pv 4) pa_nil))))
    (pss_one (ps_if (PW.pt (pw_or (pt_cmpR (op_neU (hu64 hr)) (pv 5) (pe_c D_l_before hr (takes_of rfl rfl rfl rfl) T.g_l_before (pa_cons (pv 1) (pa_cons (pv 3) (pa_cons (pv 4) pa_nil)))) (nomark _)) (pw_or1 (pt_not (pt_val (pe_callB call_isi rfl T.z_isinstance boot_isinstance (pa_cons (pv 5) (pa_cons (pe_bltn (v := .ty "bool") rfl T.z_bool boot_bool rfl) pa_nil)))))))) (pss_one (ps_ret pe_bl)) pss_nil))))))
    (pss_one (ps_ret pe_bl)))
abbrev s_l_pairs : Stmt := top 28
theorem sc_l_pairs : FnScope n_l_pairs ["_law_looks", "_law_names_here"] (defScope s_l_pairs) := ⟨rfl, rfl, rfl, by decide +kernel, rfl, by decide +kernel, by decide +kernel⟩
theorem ok_l_pairs {sp_l_before sp : Sp} {fd : FuncData} (T : Txt K mg) (F : FunD K "_law_pairs" "_law_pairs" (defArgs s_l_pairs) (defBody s_l_pairs) (defScope s_l_pairs) [] [] (He.ga K "_law_pairs") fd) (D_l_before : Df P w K mg base 1 (He.ga K "_law_before") ["_law_looks", "_law_first", "_law_second_here"] sp_l_before [])
    (len : ∀ vs H Q E, sp vs H Q E → vs.length = 2) (pu : ∀ vs H Q E, sp vs H Q E → t_l_pairs K sp_l_before E { nx := fun _ H' => Q .non H', rt := Q } (start n_l_pairs vs) H) : Df P w K mg base 2 (He.ga K "_law_pairs") ["_law_looks", "_law_names_here"] sp [] := by
  refine df_of (t := fun E => t_l_pairs K sp_l_before E) F sc_l_pairs len (fun _ _ _ _ _ _ us hl => match us, hl with | [_, _], _ => rfl) (fun cdv A outer s H E hr => ?_) pu
  exact (pss_cons (ps_set (i := 2) sc_l_pairs.nd rfl (Or.inl rfl) (pe_lst pa_nil))
    (pss_cons (ps_for (passes_of rfl) rfl (pi_list (pv 1)) (pg_name (i := 3) sc_l_pairs.nd rfl (by first | exact Or.inl rfl | exact Or.inr rfl)) (pss_one (ps_for (passes_of rfl) rfl (pi_list (pv 1)) (pg_name (i := 4) sc_l_pairs.nd rfl (by first | exact Or.inl rfl | exact Or.inr rfl)) (pss_one (ps_if (PW.pt (pw_and (pt_cmpR (op_neU (hu64 hr)) (pv 3) (pv 4) (nomark _)) (pw_and1 (pt_val (pe_c D_l_before hr (takes_of rfl rfl rfl rfl) T.g_l_before (pa_cons (pv 0) (pa_cons (pv 3) (pa_cons (pv 4) pa_nil)))))))) (pss_one (ps_expr (pe_bm PySem.F.plainAttrs_list PySem.F.slot_list_append PySem.F.type_list_append mt_append (pv 2) (pa_cons (pe_tup (pa_cons (pv 3) (pa_cons (pv 4) pa_nil))) pa_nil)))) pss_nil)))))
    (pss_one (ps_ret (pv 2)))))
abbrev s_Row_files : Stmt := inClass (top 14) 1
theorem sc_Row_files : FnScope n_Row_files ["self"] (defScope s_Row_files) := ⟨rfl, rfl, rfl, by decide +kernel, rfl, by decide +kernel, by decide +kernel⟩
theorem ok_Row_files {sp : Sp} {fd : FuncData} (T : Txt K mg) (F : FunD K "files" "Row.files" (defArgs s_Row_files) (defBody s_Row_files) (defScope s_Row_files) [] [] (pAd K "Row" "files") fd) 
    (len : ∀ vs H Q E, sp vs H Q E → vs.length = 1) (pu : ∀ vs H Q E, sp vs H Q E → t_Row_files K  E { nx := fun _ H' => Q .non H', rt := Q } (start n_Row_files vs) H) : Df P w K mg base 1 (pAd K "Row" "files") ["self"] sp [] := by
  refine df_of (t := fun E => t_Row_files K  E) F sc_Row_files len (fun _ _ _ _ _ _ us hl => match us, hl with | [_], _ => rfl) (fun cdv A outer s H E hr => ?_) pu
  exact (pss_one (ps_ret (pe_callTy c_tuple rfl T.z_tuple boot_tuple (pa_cons (pe_lc (own := [("place", 1), ("file", 2)]) (g := gTup K 2 (gCons (gName 1) (gCons (gName 2) (gNil)))) (tt := (t_Row_files_i1 K  E)) rfl sc_Row_files.nd (pi_enumT rfl T.z_enumerate (pa_cons (pe_fld (pv 0) rfl) pa_nil)) (blkOk_by (own := [("place", 1), ("file", 2)]) (N := n_Row_files) (sc := defScope s_Row_files) (by decide +kernel)) (fun _ _ _ _ _ => (pg_tup rfl (pgs_cons (pg_name (i := 1) sc_Row_files.nd rfl (by first | exact Or.inl rfl | exact Or.inr rfl)) (pgs_cons (pg_name (i := 2) sc_Row_files.nd rfl (by first | exact Or.inl rfl | exact Or.inr rfl)) pgs_nil)))) (fun _ _ _ _ _ => (pts_one (pt_cmpR (op_notInU (hu65 hr)) (pv 2) (pe_slice sl_U (pe_fld (pv 0) rfl) po_none (po_some (pv 1))) rfl))) (fun _ _ _ _ _ => (pv 2))) pa_nil))))
abbrev s_same_files : Stmt := top 18
theorem sc_same_files : FnScope n_same_files ["one", "two"] (defScope s_same_files) := ⟨rfl, rfl, rfl, by decide +kernel, rfl, by decide +kernel, by decide +kernel⟩
theorem ok_same_files {sp_Row_files sp : Sp} {fd : FuncData} (T : Txt K mg) (F : FunD K "same_files" "same_files" (defArgs s_same_files) (defBody s_same_files) (defScope s_same_files) [] [] (He.ga K "same_files") fd) (D_Row_files : Df P w K mg base 1 (pAd K "Row" "files") ["self"] sp_Row_files [])
    (len : ∀ vs H Q E, sp vs H Q E → vs.length = 2) (pu : ∀ vs H Q E, sp vs H Q E → t_same_files K sp_Row_files E { nx := fun _ H' => Q .non H', rt := Q } (start n_same_files vs) H) : Df P w K mg base 3 (He.ga K "same_files") ["one", "two"] sp [] := by
  refine df_of (t := fun E => t_same_files K sp_Row_files E) F sc_same_files len (fun _ _ _ _ _ _ us hl => match us, hl with | [_, _], _ => rfl) (fun cdv A outer s H E hr => ?_) pu
  exact (pss_one (ps_ret (pe_cmpR (op_eqU (hu64 hr)) (pe_callB cr_sortedS rfl T.z_sorted boot_sorted (pa_cons (pe_lc (own := [("file", 2)]) (g := gName 2) (tt := tYes) rfl sc_same_files.nd (pi_seq (pe_p (pv 0) T.c_Row.cl T.p_Row_files D_Row_files hr)) (blkOk_by (own := [("file", 2)]) (N := n_same_files) (sc := defScope s_same_files) (by decide +kernel)) (fun _ _ _ _ _ => (pg_name (i := 2) sc_same_files.nd rfl (by first | exact Or.inl rfl | exact Or.inr rfl))) (fun _ _ _ _ _ => pts_nil) (fun _ _ _ _ _ => (pe_callTy c_str rfl T.z_str boot_str (pa_cons (pv 2) pa_nil)))) pa_nil)) (pe_callB cr_sortedS rfl T.z_sorted boot_sorted (pa_cons (pe_lc (own := [("file", 2)]) (g := gName 2) (tt := tYes) rfl sc_same_files.nd (pi_seq (pe_p (pv 1) T.c_Row.cl T.p_Row_files D_Row_files hr)) (blkOk_by (own := [("file", 2)]) (N := n_same_files) (sc := defScope s_same_files) (by decide +kernel)) (fun _ _ _ _ _ => (pg_name (i := 2) sc_same_files.nd rfl (by first | exact Or.inl rfl | exact Or.inr rfl))) (fun _ _ _ _ _ => pts_nil) (fun _ _ _ _ _ => (pe_callTy c_str rfl T.z_str boot_str (pa_cons (pv 2) pa_nil)))) pa_nil)) (nomark _))))
abbrev s_is_before : Stmt := top 20
theorem sc_is_before : FnScope n_is_before ["looks", "first", "second"] (defScope s_is_before) := ⟨rfl, rfl, rfl, by decide +kernel, rfl, by decide +kernel, by decide +kernel⟩
theorem ok_is_before {sp_first_look sp_last_look sp : Sp} {fd : FuncData} (T : Txt K mg) (F : FunD K "is_before" "is_before" (defArgs s_is_before) (defBody s_is_before) (defScope s_is_before) [] [] (He.ga K "is_before") fd) (D_first_look : Df P w K mg base 1 (He.ga K "first_look") ["looks", "file"] sp_first_look []) (D_last_look : Df P w K mg base 1 (He.ga K "last_look") ["looks", "file"] sp_last_look [])
    (len : ∀ vs H Q E, sp vs H Q E → vs.length = 3) (pu : ∀ vs H Q E, sp vs H Q E → t_is_before K sp_first_look sp_last_look E { nx := fun _ H' => Q .non H', rt := Q } (start n_is_before vs) H) : Df P w K mg base 2 (He.ga K "is_before") ["looks", "first", "second"] sp [] := by
  refine df_of (t := fun E => t_is_before K sp_first_look sp_last_look E) F sc_is_before len (fun _ _ _ _ _ _ us hl => match us, hl with | [_, _, _], _ => rfl) (fun cdv A outer s H E hr => ?_) pu
  exact (pss_one (ps_ret (pe_cmpR op_lt (pe_c D_first_look hr (takes_of rfl rfl rfl rfl) T.g_first_look (pa_cons (pv 0) (pa_cons (pv 1) pa_nil))) (pe_c D_last_look hr (takes_of rfl rfl rfl rfl) T.g_last_look (pa_cons (pv 0) (pa_cons (pv 2) pa_nil))) (nomark _))))
abbrev s_fewer_before : Stmt := top 19
theorem sc_fewer_before : FnScope n_fewer_before ["one", "two"] (defScope s_fewer_before) := ⟨rfl, rfl, rfl, by decide +kernel, rfl, by decide +kernel, by decide +kernel⟩
theorem ok_fewer_before {sp_Row_files sp_is_before sp : Sp} {fd : FuncData} (T : Txt K mg) (F : FunD K "fewer_before" "fewer_before" (defArgs s_fewer_before) (defBody s_fewer_before) (defScope s_fewer_before) [] [] (He.ga K "fewer_before") fd) (D_Row_files : Df P w K mg base 1 (pAd K "Row" "files") ["self"] sp_Row_files []) (D_is_before : Df P w K mg base 2 (He.ga K "is_before") ["looks", "first", "second"] sp_is_before [])
    (len : ∀ vs H Q E, sp vs H Q E → vs.length = 2) (pu : ∀ vs H Q E, sp vs H Q E → t_fewer_before K sp_Row_files sp_is_before E { nx := fun _ H' => Q .non H', rt := Q } (start n_fewer_before vs) H) : Df P w K mg base 3 (He.ga K "fewer_before") ["one", "two"] sp [] := by
  refine df_of (t := fun E => t_fewer_before K sp_Row_files sp_is_before E) F sc_fewer_before len (fun _ _ _ _ _ _ us hl => match us, hl with | [_, _], _ => rfl) (fun cdv A outer s H E hr => ?_) pu
  exact (pss_cons (ps_for (passes_of rfl) rfl (pi_seq (pe_p (pv 0) T.c_Row.cl T.p_Row_files D_Row_files hr)) (pg_name (i := 2) sc_fewer_before.nd rfl (by first | exact Or.inl rfl | exact Or.inr rfl)) (pss_one (ps_for (passes_of rfl) rfl (pi_seq (pe_p (pv 0) T.c_Row.cl T.p_Row_files D_Row_files hr)) (pg_name (i := 3) sc_fewer_before.nd rfl (by first | exact Or.inl rfl | exact Or.inr rfl)) (pss_one (ps_if (PW.pt (pw_and (pt_cmpR (op_neU (hu64 hr)) (pv 2) (pv 3) (nomark _)) (pw_and (pt_val (pe_c D_is_before hr (takes_of rfl rfl rfl rfl) T.g_is_before (pa_cons (pe_fld (pv 0) rfl) (pa_cons (pv 2) (pa_cons (pv 3) pa_nil))))) (pw_and1 (pt_not (pt_val (pe_c D_is_before hr (takes_of rfl rfl rfl rfl) T.g_is_before (pa_cons (pe_fld (pv 1) rfl) (pa_cons (pv 2) (pa_cons (pv 3) pa_nil)))))))))) (pss_one (ps_ret pe_bl)) pss_nil)))))
    (pss_one (ps_ret pe_bl)))
abbrev s_Row_le : Stmt := inClass (top 14) 13
theorem sc_Row_le : FnScope n_Row_le ["self", "other"] (defScope s_Row_le) := ⟨rfl, rfl, rfl, by decide +kernel, rfl, by decide +kernel, by decide +kernel⟩
theorem ok_Row_le {sp_same_files sp_fewer_before sp : Sp} {fd : FuncData} (T : Txt K mg) (F : FunD K "__le__" "Row.__le__" (defArgs s_Row_le) (defBody s_Row_le) (defScope s_Row_le) [] [] (He.ma K (He.ga K "Row") "__le__") fd) (D_same_files : Df P w K mg base 3 (He.ga K "same_files") ["one", "two"] sp_same_files []) (D_fewer_before : Df P w K mg base 3 (He.ga K "fewer_before") ["one", "two"] sp_fewer_before [])
    (len : ∀ vs H Q E, sp vs H Q E → vs.length = 2) (pu : ∀ vs H Q E, sp vs H Q E → t_Row_le K sp_same_files sp_fewer_before E { nx := fun _ H' => Q .non H', rt := Q } (start n_Row_le vs) H) : Df P w K mg base 4 (He.ma K (He.ga K "Row") "__le__") ["self", "other"] sp [] := by
  refine df_of (t := fun E => t_Row_le K sp_same_files sp_fewer_before E) F sc_Row_le len (fun _ _ _ _ _ _ us hl => match us, hl with | [_, _], _ => rfl) (fun cdv A outer s H E hr => ?_) pu
  exact (pss_cons (ps_if (pt_not (pt_val (pe_callB call_isi rfl T.z_isinstance boot_isinstance (pa_cons (pv 1) (pa_cons (pe_glob rfl T.g_Row rfl) pa_nil))))) (pss_one ps_never) pss_nil)
    (pss_one (ps_ret (pe_and (pe_c D_same_files hr (takes_of rfl rfl rfl rfl) T.g_same_files (pa_cons (pv 0) (pa_cons (pv 1) pa_nil))) (pe_one (pe_c D_fewer_before hr (takes_of rfl rfl rfl rfl) T.g_fewer_before (pa_cons (pv 0) (pa_cons (pv 1) pa_nil))))))))
abbrev s_l_stranger : Stmt := top 26
theorem sc_l_stranger : FnScope n_l_stranger ["_law_pool_here", "_law_names_here"] (defScope s_l_stranger) := ⟨rfl, rfl, rfl, by decide +kernel, rfl, by decide +kernel, by decide +kernel⟩
theorem ok_l_stranger {sp_l_take sp : Sp} {fd : FuncData} (T : Txt K mg) (F : FunD K "_law_stranger" "_law_stranger" (defArgs s_l_stranger) (defBody s_l_stranger) (defScope s_l_stranger) [] [] (He.ga K "_law_stranger") fd) (D_l_take : Df P w K mg base 1 (He.ga K "_law_take") ["_law_pool_here", "_law_many"] sp_l_take [])
    (len : ∀ vs H Q E, sp vs H Q E → vs.length = 2) (pu : ∀ vs H Q E, sp vs H Q E → t_l_stranger K sp_l_take E { nx := fun _ H' => Q .non H', rt := Q } (start n_l_stranger vs) H) : Df P w K mg base 2 (He.ga K "_law_stranger") ["_law_pool_here", "_law_names_here"] sp [] := by
  refine df_of (t := fun E => t_l_stranger K sp_l_take E) F sc_l_stranger len (fun _ _ _ _ _ _ us hl => match us, hl with | [_, _], _ => rfl) (fun cdv A outer s H E hr => ?_) pu
  exact (pss_cons (ps_set (i := 2) sc_l_stranger.nd rfl (Or.inl rfl) pe_str)
    (pss_cons (ps_if (pt_cmpR (op_neU (hu64 hr)) (pv 1) (pe_lst pa_nil) (nomark _)) (pss_one (ps_set (i := 2) sc_l_stranger.nd rfl (Or.inl rfl) (pe_ix (ix_U (hu1 hr)) (pv 1) (pe_c D_l_take hr (takes_of rfl rfl rfl rfl) T.g_l_take (pa_cons (pv 0) (pa_cons (pe_callB call_lenU rfl T.z_len boot_len (pa_cons (pv 1) pa_nil)) pa_nil))) (fun _ _ => rfl)))) pss_nil)
    (pss_cons (ps_set (i := 3) sc_l_stranger.nd rfl (Or.inl rfl) pe_str)
    (pss_cons (ps_set (i := 4) sc_l_stranger.nd rfl (Or.inl rfl) (pe_c D_l_take hr (takes_of rfl rfl rfl rfl) T.g_l_take (pa_cons (pv 0) (pa_cons pe_int pa_nil))))
    (pss_cons (ps_for (passes_of rfl) rfl (pi_range1 rfl T.z_range (pa_cons pe_int pa_nil)) (pg_name (i := 5) sc_l_stranger.nd rfl (by first | exact Or.inl rfl | exact Or.inr rfl)) (pss_cons (ps_set (i := 6) sc_l_stranger.nd rfl (Or.inl rfl) (pe_op op_addU (pe_ix (ix_U (hu1 hr)) (pv 3) (pe_op op_mod (pe_op op_addU (pv 4) (pv 5)) pe_int) (fun _ _ => rfl)) (pe_slice sl_U (pv 2) (po_some pe_int) po_none)))
    (pss_one (ps_if (pt_cmpR (op_notInU (hu65 hr)) (pv 6) (pv 1) rfl) (pss_one (ps_ret (pv 6))) pss_nil))))
    (pss_one (ps_ret pe_str)))))))
abbrev s_Row_add : Stmt := inClass (top 14) 8
theorem sc_Row_add : FnScope n_Row_add ["self", "other"] (defScope s_Row_add) := ⟨rfl, rfl, rfl, by decide +kernel, rfl, by decide +kernel, by decide +kernel⟩
theorem ok_Row_add {sp_Row_init sp : Sp} {fd : FuncData} (T : Txt K mg) (F : FunD K "__add__" "Row.__add__" (defArgs s_Row_add) (defBody s_Row_add) (defScope s_Row_add) [] [] (He.ma K (He.ga K "Row") "__add__") fd) (D_Row_init : Df P w K mg base 3 (He.ma K (He.ga K "Row") "__init__") ["self", "files"] sp_Row_init [])
    (len : ∀ vs H Q E, sp vs H Q E → vs.length = 2) (pu : ∀ vs H Q E, sp vs H Q E → t_Row_add K sp_Row_init E { nx := fun _ H' => Q .non H', rt := Q } (start n_Row_add vs) H) : Df P w K mg base 5 (He.ma K (He.ga K "Row") "__add__") ["self", "other"] sp [] := by
  refine df_of (t := fun E => t_Row_add K sp_Row_init E) F sc_Row_add len (fun _ _ _ _ _ _ us hl => match us, hl with | [_, _], _ => rfl) (fun cdv A outer s H E hr => ?_) pu
  exact (pss_cons (ps_if (pt_not (pt_val (pe_callB call_isi rfl T.z_isinstance boot_isinstance (pa_cons (pv 1) (pa_cons (pe_glob rfl T.g_Row rfl) pa_nil))))) (pss_one ps_never) pss_nil)
    (pss_one (ps_ret (pe_n T.k_Row D_Row_init hr (takes_of rfl rfl rfl rfl) T.g_Row (pa_cons (pe_op op_addU (pe_fld (pv 0) rfl) (pe_fld (pv 1) rfl)) pa_nil)))))
abbrev s_law : Stmt := top 31
theorem sc_law : FnScope n_law ["_law_script"] (defScope s_law) := ⟨rfl, rfl, rfl, by decide +kernel, rfl, by decide +kernel, by decide +kernel⟩
theorem ok_law {sp_l_pool sp_l_cell sp_l_names sp_l_take sp_l_second sp_Row_init sp_l_right sp_l_pairs sp_Row_le sp_l_stranger sp_Row_add sp : Sp} {fd : FuncData} (T : Txt K mg) (F : FunD K "law" "law" (defArgs s_law) (defBody s_law) (defScope s_law) [] [] (He.ga K "law") fd) (D_l_pool : Df P w K mg base 1 (He.ga K "_law_pool") ["_law_cell_here"] sp_l_pool []) (D_l_cell : Df P w K mg base 1 (He.ga K "_law_cell") ["_law_script", "_law_k"] sp_l_cell []) (D_l_names : Df P w K mg base 2 (He.ga K "_law_names") ["_law_pool_here", "_law_many"] sp_l_names []) (D_l_take : Df P w K mg base 1 (He.ga K "_law_take") ["_law_pool_here", "_law_many"] sp_l_take []) (D_l_second : Df P w K mg base 2 (He.ga K "_law_second") ["_law_pool_here", "_law_looks", "_law_names_here"] sp_l_second []) (D_Row_init : Df P w K mg base 3 (He.ma K (He.ga K "Row") "__init__") ["self", "files"] sp_Row_init []) (D_l_right : Df P w K mg base 4 (He.ga K "_law_right") ["_law_row", "_law_looks", "_law_names_here"] sp_l_right []) (D_l_pairs : Df P w K mg base 2 (He.ga K "_law_pairs") ["_law_looks", "_law_names_here"] sp_l_pairs []) (D_Row_le : Df P w K mg base 4 (He.ma K (He.ga K "Row") "__le__") ["self", "other"] sp_Row_le []) (D_l_stranger : Df P w K mg base 2 (He.ga K "_law_stranger") ["_law_pool_here", "_law_names_here"] sp_l_stranger []) (D_Row_add : Df P w K mg base 5 (He.ma K (He.ga K "Row") "__add__") ["self", "other"] sp_Row_add [])
    (len : ∀ vs H Q E, sp vs H Q E → vs.length = 1) (pu : ∀ vs H Q E, sp vs H Q E → t_law K sp_l_pool sp_l_cell sp_l_names sp_l_take sp_l_second sp_Row_init sp_l_right sp_l_pairs sp_Row_le sp_l_stranger sp_Row_add E { nx := fun _ H' => Q .non H', rt := Q } (start n_law vs) H) : FnOk P w K mg base (L2.CX P w) 6 (He.ga K "law") fd ["_law_script"] sp := by
  refine fn_of (t := fun E => t_law K sp_l_pool sp_l_cell sp_l_names sp_l_take sp_l_second sp_Row_init sp_l_right sp_l_pairs sp_Row_le sp_l_stranger sp_Row_add E) F sc_law len (fun _ _ _ _ _ _ us hl => match us, hl with | [_], _ => rfl) (fun cdv A outer s H E hr => ?_) pu
  exact (pss_cons (ps_set (i := 1) sc_law.nd rfl (Or.inl rfl) (pe_c D_l_pool hr (takes_of rfl rfl rfl rfl) T.g_l_pool (pa_cons (pe_c D_l_cell hr (takes_of rfl rfl rfl rfl) T.g_l_cell (pa_cons (pv 0) (pa_cons pe_int pa_nil))) pa_nil)))
    (pss_cons (ps_set (i := 2) sc_law.nd rfl (Or.inl rfl) (pe_c D_l_names hr (takes_of rfl rfl rfl rfl) T.g_l_names (pa_cons (pv 1) (pa_cons (pe_c D_l_take hr (takes_of rfl rfl rfl rfl) T.g_l_take (pa_cons (pv 1) (pa_cons pe_int pa_nil))) pa_nil))))
    (pss_cons (ps_set (i := 3) sc_law.nd rfl (Or.inr rfl) (pe_slice sl_U (pv 2) (po_some (pe_c D_l_take hr (takes_of rfl rfl rfl rfl) T.g_l_take (pa_cons (pv 1) (pa_cons pe_int pa_nil)))) po_none))
    (pss_cons (ps_for (passes_of rfl) rfl (pi_range1 rfl T.z_range (pa_cons (pe_c D_l_take hr (takes_of rfl rfl rfl rfl) T.g_l_take (pa_cons (pv 1) (pa_cons pe_int pa_nil))) pa_nil)) (pg_name (i := 4) sc_law.nd rfl (by first | exact Or.inl rfl | exact Or.inr rfl)) (pss_one (ps_if (pt_cmpR (op_neU (hu64 hr)) (pv 2) (pe_lst pa_nil) (nomark _)) (pss_cons (ps_set (i := 5) sc_law.nd rfl (Or.inl rfl) (pe_c D_l_take hr (takes_of rfl rfl rfl rfl) T.g_l_take (pa_cons (pv 1) (pa_cons (pe_op op_addU (pe_callB call_lenU rfl T.z_len boot_len (pa_cons (pv 3) pa_nil)) pe_int) pa_nil))))
    (pss_one (ps_set (i := 3) sc_law.nd rfl (Or.inr rfl) (pe_op op_addU (pe_op op_addU (pe_slice sl_U (pv 3) po_none (po_some (pv 5))) (pe_lst (pa_cons (pe_ix (ix_U (hu1 hr)) (pv 2) (pe_c D_l_take hr (takes_of rfl rfl rfl rfl) T.g_l_take (pa_cons (pv 1) (pa_cons (pe_callB call_lenU rfl T.z_len boot_len (pa_cons (pv 2) pa_nil)) pa_nil))) (fun _ _ => rfl)) pa_nil))) (pe_slice sl_U (pv 3) (po_some (pv 5)) po_none))))) pss_nil)))
    (pss_cons (ps_set (i := 3) sc_law.nd rfl (Or.inr rfl) (pe_op op_addU (pv 3) (pe_lc (own := [("_law_name", 18)]) (g := gName 18) (tt := (t_law_i1 K sp_l_pool sp_l_cell sp_l_names sp_l_take sp_l_second sp_Row_init sp_l_right sp_l_pairs sp_Row_le sp_l_stranger sp_Row_add E)) rfl sc_law.nd (pi_list (pv 2)) (blkOk_by (own := [("_law_name", 18)]) (N := n_law) (sc := defScope s_law) (by decide +kernel)) (fun _ _ _ _ _ => (pg_name (i := 18) sc_law.nd rfl (by first | exact Or.inl rfl | exact Or.inr rfl))) (fun _ _ _ _ _ => (pts_one (pt_cmpR (op_notInU (hu65 hr)) (pv 18) (pv 3) rfl))) (fun _ _ _ _ _ => (pv 18)))))
    (pss_cons (ps_set (i := 1) sc_law.nd rfl (Or.inl rfl) (pe_c D_l_pool hr (takes_of rfl rfl rfl rfl) T.g_l_pool (pa_cons (pe_c D_l_cell hr (takes_of rfl rfl rfl rfl) T.g_l_cell (pa_cons (pv 0) (pa_cons pe_int pa_nil))) pa_nil)))
    (pss_cons (ps_set (i := 6) sc_law.nd rfl (Or.inl rfl) (pe_c D_l_second hr (takes_of rfl rfl rfl rfl) T.g_l_second (pa_cons (pv 1) (pa_cons (pv 3) (pa_cons (pv 2) pa_nil)))))
    (pss_cons (ps_set (i := 7) sc_law.nd rfl (Or.inl rfl) (pe_n T.k_Row D_Row_init hr (takes_of rfl rfl rfl rfl) T.g_Row (pa_cons (pv 3) pa_nil)))
    (pss_cons (ps_set (i := 8) sc_law.nd rfl (Or.inl rfl) (pe_n T.k_Row D_Row_init hr (takes_of rfl rfl rfl rfl) T.g_Row (pa_cons (pv 6) pa_nil)))
    (pss_cons (ps_if (PW.pt (pw_or (pt_not (pt_val (pe_c D_l_right hr (takes_of rfl rfl rfl rfl) T.g_l_right (pa_cons (pv 7) (pa_cons (pv 3) (pa_cons (pv 2) pa_nil)))))) (pw_or1 (pt_not (pt_val (pe_c D_l_right hr (takes_of rfl rfl rfl rfl) T.g_l_right (pa_cons (pv 8) (pa_cons (pv 6) (pa_cons (pv 2) pa_nil))))))))) (pss_one (ps_ret pe_bl)) pss_nil)
    (pss_cons (ps_set (i := 9) sc_law.nd rfl (Or.inl rfl) (pe_c D_l_pairs hr (takes_of rfl rfl rfl rfl) T.g_l_pairs (pa_cons (pv 3) (pa_cons (pv 2) pa_nil))))
    (pss_cons (ps_set (i := 10) sc_law.nd rfl (Or.inl rfl) (pe_c D_l_pairs hr (takes_of rfl rfl rfl rfl) T.g_l_pairs (pa_cons (pv 6) (pa_cons (pv 2) pa_nil))))
    (pss_cons (ps_for (passes_of rfl) rfl (pi_list (pe_lst (pa_cons (pe_tup (pa_cons (pv 7) (pa_cons (pv 8) (pa_cons (pv 9) (pa_cons (pv 10) pa_nil))))) (pa_cons (pe_tup (pa_cons (pv 8) (pa_cons (pv 7) (pa_cons (pv 10) (pa_cons (pv 9) pa_nil))))) (pa_cons (pe_tup (pa_cons (pv 7) (pa_cons (pv 7) (pa_cons (pv 9) (pa_cons (pv 9) pa_nil))))) pa_nil))))) (pg_tup rfl (pgs_cons (pg_name (i := 11) sc_law.nd rfl (by first | exact Or.inl rfl | exact Or.inr rfl)) (pgs_cons (pg_name (i := 12) sc_law.nd rfl (by first | exact Or.inl rfl | exact Or.inr rfl)) (pgs_cons (pg_name (i := 13) sc_law.nd rfl (by first | exact Or.inl rfl | exact Or.inr rfl)) (pgs_cons (pg_name (i := 14) sc_law.nd rfl (by first | exact Or.inl rfl | exact Or.inr rfl)) pgs_nil))))) (pss_cons (ps_set (i := 15) sc_law.nd rfl (Or.inl rfl) (pe_cmpR (op_cmpO rfl T.m_Row_le.1 D_Row_le hr) (pv 11) (pv 12) (nomark _)))
    (pss_one (ps_if (PW.pt (pw_or (pt_cmpR (op_neU (hu64 hr)) (pv 15) (pe_cmpR (op_eqU (hu64 hr)) (pe_lc (own := [("_law_pair", 19)]) (g := gName 19) (tt := (t_law_i2 K sp_l_pool sp_l_cell sp_l_names sp_l_take sp_l_second sp_Row_init sp_l_right sp_l_pairs sp_Row_le sp_l_stranger sp_Row_add E)) rfl sc_law.nd (pi_seq (pv 13)) (blkOk_by (own := [("_law_pair", 19)]) (N := n_law) (sc := defScope s_law) (by decide +kernel)) (fun _ _ _ _ _ => (pg_name (i := 19) sc_law.nd rfl (by first | exact Or.inl rfl | exact Or.inr rfl))) (fun _ _ _ _ _ => (pts_one (pt_cmpR (op_notInU (hu65 hr)) (pv 19) (pv 14) rfl))) (fun _ _ _ _ _ => (pv 19))) (pe_lst pa_nil) (nomark _)) (nomark _)) (pw_or1 (pt_not (pt_val (pe_callB call_isi rfl T.z_isinstance boot_isinstance (pa_cons (pv 15) (pa_cons (pe_bltn (v := .ty "bool") rfl T.z_bool boot_bool rfl) pa_nil)))))))) (pss_one (ps_ret pe_bl)) pss_nil))))
    (pss_cons (ps_set (i := 16) sc_law.nd rfl (Or.inl rfl) (pe_c D_l_stranger hr (takes_of rfl rfl rfl rfl) T.g_l_stranger (pa_cons (pv 1) (pa_cons (pv 2) pa_nil))))
    (pss_cons (ps_set (i := 17) sc_law.nd rfl (Or.inl rfl) (pe_binO rfl T.c_Row.sf T.m_Row_add.1 D_Row_add hr (takes_of rfl rfl rfl rfl) (pv 7) (pe_n T.k_Row D_Row_init hr (takes_of rfl rfl rfl rfl) T.g_Row (pa_cons (pe_lst (pa_cons (pv 16) pa_nil)) pa_nil))))
    (pss_one (ps_ret (pe_and (pe_not (pe_cmpR (op_cmpO rfl T.m_Row_le.1 D_Row_le hr) (pv 7) (pv 17) (nomark _))) (pe_and (pe_not (pe_cmpR (op_cmpO rfl T.m_Row_le.1 D_Row_le hr) (pv 17) (pv 7) (nomark _))) (pe_and (pe_cmpR (op_cmpO rfl T.m_Row_le.1 D_Row_le hr) (pv 17) (pv 17) (nomark _)) (pe_one (pe_cmpR (op_cmpO rfl T.m_Row_le.1 D_Row_le hr) (pe_n T.k_Row D_Row_init hr (takes_of rfl rfl rfl rfl) T.g_Row (pa_cons (pe_lst pa_nil) pa_nil)) (pe_n T.k_Row D_Row_init hr (takes_of rfl rfl rfl rfl) T.g_Row (pa_cons (pe_lst pa_nil) pa_nil)) (nomark _)))))))))))))))))))))))
end
/-! ## the head, the chain -/
/-! ### the end of a law -/
theorem walk_ofX {l : PySem.W.OpenLaw} {n k : Nat} {q : Program} {loose : List Str} {XP : (Str → Option Value) → Heap → Prop} {YP : World → Heap → Prop} {d : DefRec} {CX : World → CXT} {x : Str}
    (hn : l.most = some n) (hn2 : n ≤ sizeLine) (hdf : d.params.defaults = []) (hr : Room k callerA)
    (F : ∀ (w : World) (mg : Str → Option Value) (fa : Addr) (h : Heap), YP w h → h.Ns mainGlobals mg → mg d.name = some (.ref fa) →
      ∃ (K : PySem.W.Frag) (fd : FuncData) (sp : Sp), K.In h ∧ (∀ (s : Shared) (u : Value), BindsTo s fd ⟨[u], []⟩ [(x, u)]) ∧
        (∀ (H : Hp) (a : Addr) (ns : List Int), ns.length ≤ n → Only H → SqL K H a (ns.map V.int) → sp [.ref a] H (fun v _ => v = .bl true) fun _ _ _ => False) ∧
        ∀ base : Heap, K.In base → base.Ns mainGlobals mg → FnOk l.prog w K mg base (CX w) k fa fd [x] sp)
    (hCX : ∀ (w : World) (H : Hp) (s : Shared) (e : Value) (s' : Shared), CX w [] H s (fun _ _ _ => False) e s' → False) :
    PySem.W.WalkO q loose XP YP l.row.toRowW d [] (fun f vs => PySem.call f vs) := by
  refine Att.attach_call hn hdf fun w s₀ s₁ mg mb fa o pm cd doc a vs ns G Y ho hd hcd hmg hobj hints hlen hg => ?_
  obtain ⟨K, fd, sp, KX, hb, hsp, hF⟩ := F w mg fa _ Y G.T.g hmg
  exact law_call KX G.T.g G.T.b G.T.builtins G.T.nolimit hg hobj hints (Nat.le_trans hlen hn2) hr hF hb (fun H hO hS => hsp H a ns hlen hO hS) fun H e s' => hCX w H s₁ e s'
def u_l_pool : DefU := ⟨.fn "_law_pool", "_law_pool", "_law_pool", s_l_pool, [], []⟩
def u_l_cell : DefU := ⟨.fn "_law_cell", "_law_cell", "_law_cell", s_l_cell, [], []⟩
def u_l_take : DefU := ⟨.fn "_law_take", "_law_take", "_law_take", s_l_take, [], []⟩
def u_l_names : DefU := ⟨.fn "_law_names", "_law_names", "_law_names", s_l_names, [], []⟩
def u_l_second : DefU := ⟨.fn "_law_second", "_law_second", "_law_second", s_l_second, [], []⟩
def u_is_name : DefU := ⟨.fn "is_name", "is_name", "is_name", s_is_name, [], []⟩
def u_BadName_init : DefU := ⟨.me "BadName" "__init__", "__init__", "BadName.__init__", s_BadName_init, [], []⟩
def u_Row_init : DefU := ⟨.me "Row" "__init__", "__init__", "Row.__init__", s_Row_init, [], []⟩
def u_NoFile_init : DefU := ⟨.me "NoFile" "__init__", "__init__", "NoFile.__init__", s_NoFile_init, [], []⟩
def u_first_look : DefU := ⟨.fn "first_look", "first_look", "first_look", s_first_look, [], []⟩
def u_last_look : DefU := ⟨.fn "last_look", "last_look", "last_look", s_last_look, [], []⟩
def u_Row_before : DefU := ⟨.me "Row" "before", "before", "Row.before", s_Row_before, [], []⟩
def u_l_before : DefU := ⟨.fn "_law_before", "_law_before", "_law_before", s_l_before, [], []⟩
def u_l_right : DefU := ⟨.fn "_law_right", "_law_right", "_law_right", s_l_right, [], []⟩
def u_l_pairs : DefU := ⟨.fn "_law_pairs", "_law_pairs", "_law_pairs", s_l_pairs, [], []⟩
def u_Row_files : DefU := ⟨.pr "Row" "files", "files", "Row.files", s_Row_files, [], []⟩
def u_same_files : DefU := ⟨.fn "same_files", "same_files", "same_files", s_same_files, [], []⟩
def u_is_before : DefU := ⟨.fn "is_before", "is_before", "is_before", s_is_before, [], []⟩
def u_fewer_before : DefU := ⟨.fn "fewer_before", "fewer_before", "fewer_before", s_fewer_before, [], []⟩
def u_Row_le : DefU := ⟨.me "Row" "__le__", "__le__", "Row.__le__", s_Row_le, [], []⟩
def u_l_stranger : DefU := ⟨.fn "_law_stranger", "_law_stranger", "_law_stranger", s_l_stranger, [], []⟩
def u_Row_add : DefU := ⟨.me "Row" "__add__", "__add__", "Row.__add__", s_Row_add, [], []⟩
def u_law : DefU := ⟨.fn "law", "law", "law", s_law, [], []⟩
def fns : List DefU := [u_l_pool, u_l_cell, u_l_take, u_l_names, u_l_second, u_is_name, u_BadName_init, u_Row_init, u_NoFile_init, u_first_look, u_last_look, u_Row_before, u_l_before, u_l_right, u_l_pairs, u_Row_files, u_same_files, u_is_before, u_fewer_before, u_Row_le, u_l_stranger, u_Row_add, u_law]
def exs : List (PySem.W.Frag → Bool) := [bGlo "_law_cell", bGlo "_law_pool", bGlo "_law_take", bGlo "_law_names", bFree "range", bFree "len", bGlo "_law_second", bMk "Row", bGlo "Row", bGlo "_law_right", bGlo "_law_pairs", bNf "Row" "tuple", bKt "tuple" "Row", bNf "Row" "list", bKt "list" "Row", bNf "Row" "int", bKt "int" "Row", bClsI "Row", bMeth "Row" "__le__", bFree "isinstance", bFree "bool", bGlo "_law_stranger", bMeth "Row" "__add__", bFree "int", bGlo "is_name", bX "BadName", bGlo "BadName", bFree "tuple", bNoat "Row" "looks", bFree "str", bInt "LONGEST" 8, bStr "LETTERS" "abcdefghijklmnopqrstuvwxyz", bStr "SIGNS" "abcdefghijklmnopqrstuvwxyz0123456789", bMeth "Row" "before", bGlo "_law_before", bX "NoFile", bGlo "NoFile", bGlo "first_look", bGlo "last_look", bFree "enumerate", bGlo "same_files", bGlo "fewer_before", bFree "sorted", bProp "Row" "files", bGlo "is_before", bGlo "law", bNoat "BadName" "name", bNoat "NoFile" "name"]
def loose0 : List PySem.Str := ["_wall", "LookError", "BadName", "NoFile", "BadNumber", "LETTERS", "SIGNS", "LONGEST", "is_name", "is_whole", "is_count", "Row", "repeated", "first_look", "last_look", "same_files", "fewer_before", "is_before", "_law_cell", "_law_pool", "_law_take", "_law_names", "_law_stranger", "_law_before", "_law_pairs", "_law_right", "_law_second"]
def loose : List PySem.Str := loose0
abbrev R : PySem.W.OpenRow := PySem.W.OpenLaw.row PySem.Challenge.rw_lookrows_k30_before_and_weaker_rows
abbrev hk : PySem.W.Hook := hookU 5 exs fns
def ob (s : PySem.W.SharedT) : AlU := obsUG 5 exs fns (HandSHeadRun.getT s)
theorem ob_eq (s : PySem.W.SharedT) : ob s = hk.obs s.abs := obsUG_eq (HandSHeadRun.getT_eq s)
theorem run (w : World) : HandSHeadRun.RunEq R (PySem.W.view R.prog [31]) hk ob 6000 loose w := by
  intro os
  kernel_rfl
theorem txt {K : PySem.W.Frag} {h : Heap} {mg : Str → Option Value} (X : K.In h) (G : h.Ns mainGlobals mg) (c : SaysU exs fns K) : Txt K mg where
  g_l_cell := He.glo_ok X G (c.fact 0)
  g_l_pool := He.glo_ok X G (c.fact 1)
  g_l_take := He.glo_ok X G (c.fact 2)
  g_l_names := He.glo_ok X G (c.fact 3)
  z_range := He.free_ok X G (c.fact 4)
  z_len := He.free_ok X G (c.fact 5)
  g_l_second := He.glo_ok X G (c.fact 6)
  k_Row := He.mkr_ok (c.fact 7)
  g_Row := He.glo_ok X G (c.fact 8)
  g_l_right := He.glo_ok X G (c.fact 9)
  g_l_pairs := He.glo_ok X G (c.fact 10)
  nf_Row_tuple := c.fact 11
  kt_tuple_Row := of_decide_eq_true (c.fact 12)
  nf_Row_list := c.fact 13
  kt_list_Row := of_decide_eq_true (c.fact 14)
  nf_Row_int := c.fact 15
  kt_int_Row := of_decide_eq_true (c.fact 16)
  c_Row := clsI_ok (c.fact 17)
  m_Row_le := meth_ok (c.fact 18)
  z_isinstance := He.free_ok X G (c.fact 19)
  z_bool := He.free_ok X G (c.fact 20)
  g_l_stranger := He.glo_ok X G (c.fact 21)
  m_Row_add := meth_ok (c.fact 22)
  z_int := He.free_ok X G (c.fact 23)
  g_is_name := He.glo_ok X G (c.fact 24)
  x_BadName := x_ok (c.fact 25)
  g_BadName := He.glo_ok X G (c.fact 26)
  z_tuple := He.free_ok X G (c.fact 27)
  n_Row_looks := He.noat_ok (c.fact 28)
  z_str := He.free_ok X G (c.fact 29)
  i_LONGEST := He.int_ok X G (c.fact 30)
  s_LETTERS := He.str_ok X G (c.fact 31)
  s_SIGNS := He.str_ok X G (c.fact 32)
  m_Row_before := meth_ok (c.fact 33)
  g_l_before := He.glo_ok X G (c.fact 34)
  x_NoFile := x_ok (c.fact 35)
  g_NoFile := He.glo_ok X G (c.fact 36)
  g_first_look := He.glo_ok X G (c.fact 37)
  g_last_look := He.glo_ok X G (c.fact 38)
  z_enumerate := He.free_ok X G (c.fact 39)
  g_same_files := He.glo_ok X G (c.fact 40)
  g_fewer_before := He.glo_ok X G (c.fact 41)
  z_sorted := He.free_ok X G (c.fact 42)
  p_Row_files := prop_ok (c.fact 43)
  g_is_before := He.glo_ok X G (c.fact 44)
  g_law := He.glo_ok X G (c.fact 45)
  nx_BadName_name := He.noat_ok (c.fact 46)
  nx_NoFile_name := He.noat_ok (c.fact 47)
theorem facts {P : Program} {w : World} {K : PySem.W.Frag} {h : Heap} {mg : Str → Option Value} {f : Addr} (X : K.In h) (G : h.Ns mainGlobals mg) (hfa : mg ("law" : Str) = some (.ref f)) (c : SaysU exs fns K) :
    ∃ fd : FuncData, (∀ (s : Shared) (v : Value), BindsTo s fd ⟨[v], []⟩ [("_law_script", v)]) ∧ ∀ base : Heap, K.In base → base.Ns mainGlobals mg → FnOk P w K mg base (L2.CX P w) 6 f fd ["_law_script"] (sp_law K) := by
  have T := txt X G c
  obtain ⟨fd_l_pool, F_l_pool⟩ := c.def_ 0 (d := u_l_pool) rfl
  obtain ⟨fd_l_cell, F_l_cell⟩ := c.def_ 1 (d := u_l_cell) rfl
  obtain ⟨fd_l_take, F_l_take⟩ := c.def_ 2 (d := u_l_take) rfl
  obtain ⟨fd_l_names, F_l_names⟩ := c.def_ 3 (d := u_l_names) rfl
  obtain ⟨fd_l_second, F_l_second⟩ := c.def_ 4 (d := u_l_second) rfl
  obtain ⟨fd_is_name, F_is_name⟩ := c.def_ 5 (d := u_is_name) rfl
  obtain ⟨fd_BadName_init, F_BadName_init⟩ := c.def_ 6 (d := u_BadName_init) rfl
  obtain ⟨fd_Row_init, F_Row_init⟩ := c.def_ 7 (d := u_Row_init) rfl
  obtain ⟨fd_NoFile_init, F_NoFile_init⟩ := c.def_ 8 (d := u_NoFile_init) rfl
  obtain ⟨fd_first_look, F_first_look⟩ := c.def_ 9 (d := u_first_look) rfl
  obtain ⟨fd_last_look, F_last_look⟩ := c.def_ 10 (d := u_last_look) rfl
  obtain ⟨fd_Row_before, F_Row_before⟩ := c.def_ 11 (d := u_Row_before) rfl
  obtain ⟨fd_l_before, F_l_before⟩ := c.def_ 12 (d := u_l_before) rfl
  obtain ⟨fd_l_right, F_l_right⟩ := c.def_ 13 (d := u_l_right) rfl
  obtain ⟨fd_l_pairs, F_l_pairs⟩ := c.def_ 14 (d := u_l_pairs) rfl
  obtain ⟨fd_Row_files, F_Row_files⟩ := c.def_ 15 (d := u_Row_files) rfl
  obtain ⟨fd_same_files, F_same_files⟩ := c.def_ 16 (d := u_same_files) rfl
  obtain ⟨fd_is_before, F_is_before⟩ := c.def_ 17 (d := u_is_before) rfl
  obtain ⟨fd_fewer_before, F_fewer_before⟩ := c.def_ 18 (d := u_fewer_before) rfl
  obtain ⟨fd_Row_le, F_Row_le⟩ := c.def_ 19 (d := u_Row_le) rfl
  obtain ⟨fd_l_stranger, F_l_stranger⟩ := c.def_ 20 (d := u_l_stranger) rfl
  obtain ⟨fd_Row_add, F_Row_add⟩ := c.def_ 21 (d := u_Row_add) rfl
  obtain ⟨fd_law, F_law⟩ := c.def_ 22 (d := u_law) rfl
  have e := hfa.symm.trans T.g_law
  cases e
  have b := FunD.bindsA (ps := ["_law_script"]) F_law fun _ _ _ _ _ _ us hl => match us, hl with | [_], _ => rfl
  refine ⟨fd_law, fun s v => b s [v] rfl, fun base _ _ => ?_⟩
  have R : RowK K := ⟨T.c_Row.cl, T.n_Row_looks⟩
  have D_l_pool := ok_l_pool (P := P) (w := w) (base := base) T F_l_pool  len_l_pool (pu_l_pool)
  have D_l_cell := ok_l_cell (P := P) (w := w) (base := base) T F_l_cell  len_l_cell (pu_l_cell)
  have D_l_take := ok_l_take (P := P) (w := w) (base := base) T F_l_take  len_l_take (pu_l_take)
  have D_l_names := ok_l_names (P := P) (w := w) (base := base) T F_l_names D_l_take len_l_names (pu_l_names)
  have D_l_second := ok_l_second (P := P) (w := w) (base := base) T F_l_second D_l_take len_l_second (pu_l_second)
  have D_is_name := ok_is_name (P := P) (w := w) (base := base) T F_is_name  len_is_name (pu_is_name)
  have D_BadName_init := ok_BadName_init (sp := (spX1 (He.ga K "BadName") "name")) (P := P) (w := w) (base := base) T F_BadName_init  (by rintro _ _ _ _ ⟨_, _, rfl, _⟩; rfl) (fun vs H Q E h => pure_x1 T.x_BadName.x.ox T.nx_BadName_name vs H Q E h)
  have D_Row_init := ok_Row_init (P := P) (w := w) (base := base) T F_Row_init D_is_name D_BadName_init len_Row_init (pu_Row_init R)
  have D_NoFile_init := ok_NoFile_init (sp := (spX1 (He.ga K "NoFile") "name")) (P := P) (w := w) (base := base) T F_NoFile_init  (by rintro _ _ _ _ ⟨_, _, rfl, _⟩; rfl) (fun vs H Q E h => pure_x1 T.x_NoFile.x.ox T.nx_NoFile_name vs H Q E h)
  have D_first_look := ok_first_look (P := P) (w := w) (base := base) T F_first_look  len_first_look (pu_first_look)
  have D_last_look := ok_last_look (P := P) (w := w) (base := base) T F_last_look  len_last_look (pu_last_look)
  have D_Row_before := ok_Row_before (P := P) (w := w) (base := base) T F_Row_before D_NoFile_init D_first_look D_last_look len_Row_before (pu_Row_before R)
  have D_l_before := ok_l_before (P := P) (w := w) (base := base) T F_l_before  len_l_before (pu_l_before)
  have D_l_right := ok_l_right (P := P) (w := w) (base := base) T F_l_right D_Row_before D_l_before len_l_right (pu_l_right)
  have D_l_pairs := ok_l_pairs (P := P) (w := w) (base := base) T F_l_pairs D_l_before len_l_pairs (pu_l_pairs)
  have D_Row_files := ok_Row_files (P := P) (w := w) (base := base) T F_Row_files  len_Row_files (pu_Row_files R)
  have D_same_files := ok_same_files (P := P) (w := w) (base := base) T F_same_files D_Row_files len_same_files (pu_same_files R)
  have D_is_before := ok_is_before (P := P) (w := w) (base := base) T F_is_before D_first_look D_last_look len_is_before (pu_is_before)
  have D_fewer_before := ok_fewer_before (P := P) (w := w) (base := base) T F_fewer_before D_Row_files D_is_before len_fewer_before (pu_fewer_before R)
  have D_Row_le := ok_Row_le (P := P) (w := w) (base := base) T F_Row_le D_same_files D_fewer_before len_Row_le (pu_Row_le R T.c_Row)
  have D_l_stranger := ok_l_stranger (P := P) (w := w) (base := base) T F_l_stranger D_l_take len_l_stranger (pu_l_stranger)
  have D_Row_add := ok_Row_add (P := P) (w := w) (base := base) T F_Row_add D_Row_init len_Row_add (pu_Row_add R T.c_Row)
  have D_law := ok_law (P := P) (w := w) (base := base) T F_law D_l_pool D_l_cell D_l_names D_l_take D_l_second D_Row_init D_l_right D_l_pairs D_Row_le D_l_stranger D_Row_add len_law (pu_law R T.c_Row)
  exact D_law
end L2.Uq
open PySem PySem.W PySem.Calls PyProof.Rows
theorem PySem.Challenge.cw_lookrows_k30_before_and_weaker_rows_holds : PySem.Challenge.rw_lookrows_k30_before_and_weaker_rows.Holds := by
  w_on; o_law
  refine HandSHeadRun.head_any (r := OpenLaw.row PySem.Challenge.rw_lookrows_k30_before_and_weaker_rows) (q := view (OpenLaw.row PySem.Challenge.rw_lookrows_k30_before_and_weaker_rows).prog [31]) (H := L2.Uq.hk) (ob := L2.Uq.ob) (M := 6000) (loose := L2.Uq.loose) (d := HandSHeadRun.topDef (OpenLaw.row PySem.Challenge.rw_lookrows_k30_before_and_weaker_rows).prog 31) (kwd := []) L2.Uq.ob_eq
    (by kernel_rfl) (fun s => by kernel_rfl) L2.Uq.run (by kernel_rfl) (by kernel_rfl) (by kernel_rfl) (by rfl) (by first | assumption | decide +kernel) (by decide +kernel) ⟨rfl, rfl, rfl, rfl, rfl, by decide +kernel⟩ ?hw ?hc
  case hw => w_witness2
  case hc =>
    refine L2.Uq.walk_ofX (l := PySem.Challenge.rw_lookrows_k30_before_and_weaker_rows) (n := 63) (k := 6) (x := "_law_script") (CX := fun w => L2.CX PySem.Challenge.rw_lookrows_k30_before_and_weaker_rows.prog w) rfl (by decide) (by kernel_rfl) ⟨rfl, by decide, by decide⟩ ?F (fun _ _ _ _ _ z => by obtain ⟨_, _, _, _, _, _, _, _, _, _, _, _, z⟩ := z; exact z)
    intro w mg fa h Y G hmg0
    obtain ⟨K, KX, c⟩ := Y
    have hmg : mg ("law" : PySem.Str) = some (.ref fa) := by
      have e : (HandSHeadRun.topDef (OpenLaw.row PySem.Challenge.rw_lookrows_k30_before_and_weaker_rows).prog 31).name = ("law" : PySem.Str) := by kernel_rfl
      rw [← e]
      exact hmg0
    obtain ⟨fd, hb, hF⟩ := L2.Uq.facts (P := (PySem.Challenge.rw_lookrows_k30_before_and_weaker_rows).prog) (w := w) KX G hmg c
    exact ⟨K, fd, L2.Uq.sp_law K, KX, hb, fun H a ns hl _ hS => ⟨a, ns, rfl, hS, fun _ => rfl⟩, hF⟩
