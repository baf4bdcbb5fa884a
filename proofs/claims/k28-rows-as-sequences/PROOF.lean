import PyProof.Rows.All
import Wide.All
import OpenK.AllK
import Wide.FinOn
import PyProof.EqAt
import PyProof.EqKinds
import PyProof.TupleCall
import HandS.ForMost
import HandS.ForExc
import HandS.CallSlots
import HandS.Property
import HandS.ExcInit
import HandS.ExcField
import HandS.IsInst
import HandS.Defaults
import HandS.Deep
import HandS.TupAny
import HandS.TupMul
import HandS.TupLen
import HandS.Strs
import HandS.SlotsOwn
import KE.KOpsOwn
import HandS.TryMany
import HandS.Steps
import HandS.HeadHook1
import HandS.HeadHook2
import HandS.HeadEnd
import HandS.Head0
import HandS.Head1
import HandS.Head2
import HandS.RaiseMore
import HandS.Style
import KE.GoesEnum
import KE.GoesMore
import KE.KRevSl
import HandS.Walk
import KE.KStateDown
import HandS.Ends
import PySem.Challenge.RW_lookrows_k28_rows_as_sequences
set_option Elab.async false
set_option linter.all false
set_option maxRecDepth 100000
set_option maxHeartbeats 4000000
namespace L2.Uq
open PySem PySem.Spec PyProof.Rows
/-! ## U1 -/
section

/-! ### a def of the text with its promise: what a caller needs -/
structure Df (P : Program) (w : World) (K : PySem.W.Frag) (mg : Str → Option Value) (base : Heap) (k : Nat) (f : Addr) (ps : List Str) (sp : Sp) (dvs : List V) : Prop where
  ex : ∃ (fd : FuncData) (ds : List Value), FnOk P w K mg base (L2.CX P w) k f fd ps sp ∧ Binds K fd ps ds ∧ Vals dvs ds
  kp : PySem.W.keepIn K (.ref f) = true
abbrev DfX (X : Cx) (k : Nat) (f : Addr) (ps : List Str) (sp : Sp) (dvs : List V) : Prop := Df X.prog X.w X.K X.mg X.base k f ps sp dvs
/-- nothing is let out -/
abbrev W0 : WX := fun _ _ _ _ => False
/-- what leaves a def -/
abbrev WD (E : XK) : WX := fun cls d _ H => E cls d H

section
variable {X : Cx} {pins : List (Addr × Obj)} {σ : St} {H : Hp} {s : Shared} {Q : VK} {us : List Value} {vs dvs : List V} {W : WX} {k j : Nat} {f C : Addr} {ps : List Str} {sp : Sp}
theorem runW (D : DfX X k f ps sp dvs) (hr : Room k X.A) (tk : Takes X W) (I : Inv X pins σ H s) (r : Vals vs us) (h : sp (vs ++ dvs) H Q (WE W σ)) :
    wpAny (model X.prog X.w) X.A (call (.ref f) us) (EP X pins σ Q) X.xe s := by
  obtain ⟨fd, ds, F, hb, hd⟩ := D.ex
  exact run_fnSD (E := fun σ => WE W σ) F hr hb hd (passAt tk σ) I r h
/-- the same one step further in -/
theorem runW1 (D : DfX X k f ps sp dvs) (hr : Room (k + 1) X.A) (tk : Takes X W) (I : Inv X pins σ H s) (r : Vals vs us) (h : sp (vs ++ dvs) H Q (WE W σ)) :
    wpAny (model X.prog X.w) X.A.in1 (call (.ref f) us) (EP X pins σ Q) X.xe s := by
  obtain ⟨fd, ds, F, hb, hd⟩ := D.ex
  have r2 : Vals (vs ++ dvs) (us ++ ds) := r.append hd
  have hl : (us ++ ds).length = ps.length := by rw [← r2.length]; exact F.len _ _ _ _ h
  refine wpAny_call (codeAny_mono (F.run X.A.in1 X.stack s H ⟨us, []⟩ (us ++ ds) (vs ++ dvs) Q (WE W σ) hr.in1 I.env0.in1 (hb s us I.kIn hl) r2 h) fun r s' hq => ?_)
  cases r with
  | error e => exact passAt tk σ pins H s e s' I hq
  | ok fl =>
    cases fl with
    | ret u => exact I.after hq
    | next => exact False.elim hq
    | brk => exact False.elim hq
    | cont => exact False.elim hq
theorem run_mkW (M : Mk X.K C f) (D : DfX X k f ps sp dvs) (hr : Room (k + 1) X.A) (tk : Takes X W) (I : Inv X pins σ H s) (r : Vals vs us)
    (h : ∀ x dx, H x = none → H dx = none → dx ≠ x → sp (.ref x :: (vs ++ dvs)) (upd (upd H dx (.own x)) x (.ins C dx [])) (fun v H2 => v = .non ∧ Q (.ref x) H2) (WE W σ)) :
    wpAny (model X.prog X.w) X.A (call (.ref C) us) (EP X pins σ Q) X.xe s := by
  obtain ⟨fd, ds, F, hb, hd⟩ := D.ex
  have hq := h (s.heap.objs.size + 1) s.heap.objs.size (I.hok.fresh (Nat.le_succ _)) (I.hok.fresh (Nat.le_refl _)) (Nat.ne_of_lt (Nat.lt_succ_self _))
  have I2 := Inv.made (C := C) I
  have r2 : Vals (V.ref (s.heap.objs.size + 1) :: (vs ++ dvs)) (Value.ref (s.heap.objs.size + 1) :: (us ++ ds)) := .cons rfl (r.append hd)
  have hl : (Value.ref (s.heap.objs.size + 1) :: us ++ ds).length = ps.length := by
    have e := r2.length
    rw [F.len _ _ _ _ hq] at e
    exact e.symm
  refine wpAny_call (make_map (f := f) I.kIn M.makes M.init (beq_iff_eq.mp M.fn) (codeAny_mono (F.run _ X.stack _ _ ⟨Value.ref (s.heap.objs.size + 1) :: us, []⟩ (Value.ref (s.heap.objs.size + 1) :: (us ++ ds)) _ _ (WE W σ) (hr.make C us [])
    (I2.env0.make C us []) (hb _ (Value.ref (s.heap.objs.size + 1) :: us) I2.kIn hl) r2 hq) fun r s' hq' => ?_))
  cases r with
  | error e => exact passAt tk σ pins _ _ e s' I2 hq'
  | ok fl =>
    cases fl with
    | ret u =>
      obtain ⟨v, H', I3, rv, ev, q3⟩ := I2.after hq'
      subst ev
      exact ⟨rv, ⟨V.ref (s.heap.objs.size + 1), H', I3, rfl, q3⟩⟩
    | next => exact False.elim hq'
    | brk => exact False.elim hq'
    | cont => exact False.elim hq'
/-- an instance in the abstract heap, as the library's rules take it -/
theorem inst_at {a dx : Addr} {fs : List (Str × V)} (I : Inv X pins σ H s) (ea : H a = some (.ins C dx fs)) : ∃ od, PySem.W.InstAt s.heap a (PySem.W.instObj C dx) C (some od) := by
  obtain ⟨mA, O, _, _, _, _⟩ := ins_get I.hok ea
  obtain ⟨od, J, _⟩ := O.look
  exact ⟨od, J⟩
end

/-! ### readings: calls whose exceptions are wished for at the caller's slots -/
/-- f(..) -/
def tCW (sp : Sp) (dvs : List V) (W : WX) (t : TA) : TE := fun σ H Q => t σ H fun vs H1 => sp (vs ++ dvs) H1 Q (WE W σ)
/-- o.m(..), o an instance of the class at C -/
def tMW (C : Addr) (m : Str) (sp : Sp) (dvs : List V) (W : WX) (ta : TE) (t : TA) : TE := fun σ H Q => ta σ H fun x H1 => ∃ a dx fs, x = .ref a ∧ H1 a = some (.ins C dx fs) ∧ fs.lookup m = none ∧
  t σ H1 fun vs H2 => sp (x :: (vs ++ dvs)) H2 Q (WE W σ)
/-- C(..) -/
def tNW (C : Addr) (sp : Sp) (dvs : List V) (W : WX) (t : TA) : TE := fun σ H Q => t σ H fun vs H1 => ∀ x dx, H1 x = none → H1 dx = none → dx ≠ x →
  sp (.ref x :: (vs ++ dvs)) (upd (upd H1 dx (.own x)) x (.ins C dx [])) (fun v H2 => v = .non ∧ Q (.ref x) H2) (WE W σ)
/-- an operation on an instance of the class at C by a method of it: the receiver, the other operands -/
def tOpO1 (C : Addr) (sp : Sp) (W : WX) (ta : TE) : TE := fun σ H Q => ta σ H fun x H1 => ∃ a dx fs, x = .ref a ∧ H1 a = some (.ins C dx fs) ∧ sp [x] H1 Q (WE W σ)
def tOpO2 (C : Addr) (sp : Sp) (W : WX) (ta tb : TE) : TE := fun σ H Q => ta σ H fun x H1 => tb σ H1 fun y H2 => ∃ a dx fs, x = .ref a ∧ H2 a = some (.ins C dx fs) ∧ sp [x, y] H2 Q (WE W σ)
/-- the receiver stands right -/
def tOpR2 (C : Addr) (sp : Sp) (W : WX) (ta tb : TE) : TE := fun σ H Q => ta σ H fun x H1 => tb σ H1 fun y H2 => ∃ a dx fs, y = .ref a ∧ H2 a = some (.ins C dx fs) ∧ sp [y, x] H2 Q (WE W σ)

section
variable {X : Cx} {dvs : List V} {W : WX} {k j : Nat} {f C : Addr} {ps : List Str} {sp : Sp} {x m : Str} {p pos apos : Pos} {e o : Expr} {es : List Expr} {ta tb : TE} {t : TA}
theorem pe_c (D : DfX X k f ps sp dvs) (hr : Room j X.A) (tk : Takes X W) (hm : X.mg x = some (.ref f)) (ha : PA X (e :: es) t) (hk : k ≤ j := by decide) (hg : Gl X x := by rfl)
    (hdb : (x == ("__debug__" : Str)) = false := by decide) (he : starEach (e :: es) X.env = (false, eval e X.env) :: starEach es X.env := by rfl) (hpl : (backTo pos (starEach es X.env)).any (·.1) = false := by rfl) :
    PE X (.Call (.Name x p) (e :: es) [] pos) (tCW sp dvs W t) := by
  refine ⟨fun pins s σ H Q I h => ?_⟩
  refine wpAny_Call_Name_kw (ld_glob I hg hm ?_ hdb)
  refine PySem.W.callWith_K (h₀ := X.base) I.ok.mod.kin D.kp (thn (ha.run pos pins s σ H _ I h) fun us s1 ⟨vs, H1, I1, r, q⟩ => ⟨I1.kIn, ?_⟩) he hpl
  exact runW D (hr.mono hk) tk I1 r q
theorem pe_c0 (D : DfX X k f ps sp dvs) (hr : Room j X.A) (tk : Takes X W) (hm : X.mg x = some (.ref f)) (hk : k ≤ j := by decide) (hg : Gl X x := by rfl) (hdb : (x == ("__debug__" : Str)) = false := by decide) :
    PE X (.Call (.Name x p) [] [] pos) (tCW sp dvs W tNil) := by
  refine ⟨fun pins s σ H Q I h => ?_⟩
  refine wpAny_Call_Name_kw (ld_glob I hg hm ?_ hdb)
  exact PySem.W.callWith_K0 I.kIn D.kp (runW (us := []) (vs := []) D (hr.mono hk) tk I .nil h)
theorem pe_m {pl : Sem Bool} (he : PE X o ta) (c : Cls X.K C) (hm : Meth X.K C m f) (D : DfX X k f ps sp dvs) (hr : Room j X.A) (tk : Takes X W) (ha : PA X (e :: es) t) (hk : k ≤ j := by decide)
    (hst : starEach (e :: es) X.env = (false, eval e X.env) :: starEach es X.env := by rfl) (hpl : (backTo pos (starEach es X.env)).any (·.1) = false := by rfl)
    (ht : eval (.Call (.Attribute o m apos) (e :: es) [] pos) X.env = (do
      let ov ← eval o X.env
      standAt apos.atName
      let (f, first) ← holding [ov] (getMethod ov m pl)
      callWith pos f first (backTo pos (starEach (e :: es) X.env)) (backToKw pos (keywordEach [] X.env))) := by rfl) :
    PE X (.Call (.Attribute o m apos) (e :: es) [] pos) (tMW C m sp dvs W ta t) := by
  refine ⟨fun pins s σ H Q I h => ?_⟩
  refine PySem.W.methodCall_KW (pl := pl) (thn (he.run pins s σ H _ I h) fun u s1 ⟨x, H1, I1, rx, a, dx, fs, ex, ea, l, q⟩ => ?_) ht
  subst ex
  obtain rfl : u = Value.ref a := rx
  refine getmeth_ok I1 ea c hm l ?_
  refine PySem.W.callWith_K (first := [.ref a]) (h₀ := X.base) I.ok.mod.kin hm.kp (thn (ha.run pos pins s1 σ H1 _ I1 q) fun us s2 ⟨vs, H2, I2, r, q2⟩ => ⟨I2.kIn, ?_⟩) hst hpl
  exact runW (us := .ref a :: us) (vs := .ref a :: vs) D (hr.mono hk) tk I2 (.cons rfl r) q2
theorem pe_m0 {pl : Sem Bool} (he : PE X o ta) (c : Cls X.K C) (hm : Meth X.K C m f) (D : DfX X k f ps sp dvs) (hr : Room j X.A) (tk : Takes X W) (hk : k ≤ j := by decide)
    (ht : eval (.Call (.Attribute o m apos) [] [] pos) X.env = (do
      let ov ← eval o X.env
      standAt apos.atName
      let (f, first) ← holding [ov] (getMethod ov m pl)
      callWith pos f first (backTo pos (starEach [] X.env)) (backToKw pos (keywordEach [] X.env))) := by rfl) :
    PE X (.Call (.Attribute o m apos) [] [] pos) (tMW C m sp dvs W ta tNil) := by
  refine ⟨fun pins s σ H Q I h => ?_⟩
  refine PySem.W.methodCall_KW (pl := pl) (thn (he.run pins s σ H _ I h) fun u s1 ⟨x, H1, I1, rx, a, dx, fs, ex, ea, l, q⟩ => ?_) ht
  subst ex
  obtain rfl : u = Value.ref a := rx
  refine getmeth_ok I1 ea c hm l ?_
  exact PySem.W.callWith_K0 (first := [.ref a]) I1.kIn hm.kp (runW (us := [.ref a]) (vs := [.ref a]) D (hr.mono hk) tk I1 (.cons rfl .nil) q)
theorem pe_n (M : Mk X.K C f) (D : DfX X k f ps sp dvs) (hr : Room j X.A) (tk : Takes X W) (hm : X.mg x = some (.ref C)) (ha : PA X (e :: es) t) (hk : k + 1 ≤ j := by decide) (hg : Gl X x := by rfl)
    (hdb : (x == ("__debug__" : Str)) = false := by decide) (he : starEach (e :: es) X.env = (false, eval e X.env) :: starEach es X.env := by rfl) (hpl : (backTo pos (starEach es X.env)).any (·.1) = false := by rfl) :
    PE X (.Call (.Name x p) (e :: es) [] pos) (tNW C sp dvs W t) := by
  refine ⟨fun pins s σ H Q I h => ?_⟩
  refine wpAny_Call_Name_kw (ld_glob I hg hm ?_ hdb)
  refine PySem.W.callWith_K (h₀ := X.base) I.ok.mod.kin M.kp (thn (ha.run pos pins s σ H _ I h) fun us s1 ⟨vs, H1, I1, r, q⟩ => ⟨I1.kIn, ?_⟩) he hpl
  exact run_mkW M D (hr.mono hk) tk I1 r q
theorem pe_n0 (M : Mk X.K C f) (D : DfX X k f ps sp dvs) (hr : Room j X.A) (tk : Takes X W) (hm : X.mg x = some (.ref C)) (hk : k + 1 ≤ j := by decide) (hg : Gl X x := by rfl) (hdb : (x == ("__debug__" : Str)) = false := by decide) :
    PE X (.Call (.Name x p) [] [] pos) (tNW C sp dvs W tNil) := by
  refine ⟨fun pins s σ H Q I h => ?_⟩
  refine wpAny_Call_Name_kw (ld_glob I hg hm ?_ hdb)
  exact PySem.W.callWith_K0 I.kIn M.kp (run_mkW (us := []) (vs := []) M D (hr.mono hk) tk I .nil h)
/-- o.f, a property -/
theorem pe_p (he : PE X e ta) (c : Cls X.K C) {g pp : Addr} (hp : PropOf X.K C x pp g) (D : DfX X k g ps sp []) (hr : Room j X.A) (hk : k + 1 ≤ j := by decide)
    (hab : attributeBase e x X.env (eval e X.env) = eval e X.env := by rfl) : PE X (.Attribute e x pos) (tProp C sp [] E0 ta) := by
  obtain ⟨fd, ds, F, hb, hd⟩ := D.ex
  cases hd
  exact pe_prop he c hp F (hr.mono hk) hb .nil passL hab

/-! ### operators by own methods -/
/-- o[i] -/
theorem pe_get (c : PySem.W.fnIn X.K f = true) (hm : Meth X.K C "__getitem__" f) (D : DfX X k f ps sp []) (hr : Room j X.A) (tk : Takes X W) (ha : PE X o ta) (hb : PE X e tb) (hk : k + 1 ≤ j := by decide)
    (hsl : ∀ v u, subscripted e true v u = runValue (.builtin "lifetime.subscript" ⟨[v, u], []⟩) := by intro _ _; with_unfolding_all rfl) :
    PE X (.Subscript o e pos) (tOpO2 C sp W ta tb) := by
  refine ⟨fun pins s σ H Q I h => ?_⟩
  refine Subscript_ (binT ha hb I h fun v u s2 x y H2 I2 rx ry q => ?_)
  obtain ⟨a, dx, fs, ex, ea, q⟩ := q
  subst ex
  cases rx
  obtain ⟨od, J⟩ := inst_at I2 ea
  obtain ⟨m0, fr⟩ := I2.fr
  exact PySem.W.sub_K fr I2.ok.mod.kin J hm.at_ c hm.fn (runW1 (us := [.ref a, u]) (vs := [.ref a, y]) D (hr.mono hk) tk I2 (.cons rfl (.cons ry .nil)) q) (hsl _ _)
end
end
/-! ## U2 -/
section

theorem CallR.or {X : Cx} {f : Value} {r r' : List V → Hp → VK → Prop} (h : CallR X f r) (h' : CallR X f r') : CallR X f (fun xs H Q => r xs H Q ∨ r' xs H Q) := by
  intro pins s σ H xs us Q I rv q
  rcases q with q | q
  · exact h pins s σ H xs us Q I rv q
  · exact h' pins s σ H xs us Q I rv q

/-! ### operators by values, whatever the kind -/
def rAddI : R2 := rI0 fun i j => .int (i + j)
def rSubI : R2 := rI0 fun i j => .int (i - j)
def rMulI : R2 := rI CMul fun i j => .int (i * j)
def rDivI : R2 := rI CDiv fun i j => .int (i / j)
def rModI : R2 := rI (fun _ j => 0 < j) fun i j => .int (i % j)
def rPowI : R2 := rI CPow fun i j => .int (i ^ j.toNat)
def rLtI : R2 := rI0 fun i j => .bl (decide (i < j))
def rLeI : R2 := rI0 fun i j => .bl (decide (i ≤ j))
def rGtI : R2 := rI0 fun i j => .bl (decide (j < i))
def rGeI : R2 := rI0 fun i j => .bl (decide (j ≤ i))
def rAddS : R2 := fun x y H Q => ∃ i j, x = .str i ∧ y = .str j ∧ i.length + j.length ≤ sizeLine ∧ Q (.str (i ++ j)) H

/-! ### new tuples: tracked plainly, or with the object told (whoever asks chooses) -/
def newT (H : Hp) (ys : List V) (Q : VK) : Prop := (∀ l, H l = none → Q (.ref l) (upd H l (.tup ys))) ∨ ∀ l ob, H l = none → ob.dict = none → ob.cls = .type "tuple" → Q (.ref l) (upd H l (.frz ob (.tup ys)))
theorem newT_laid {X : Cx} {pins : List (Addr × Obj)} {σ : St} {H : Hp} {s : Shared} {ys : List V} {its : List Value} {Q : VK} {t' : Nat} (I : Inv X pins σ H s) (hz : ys.length ≤ sizeLine) (r : Vals ys its) (q : newT H ys Q) :
    EP X pins σ Q (.ref s.heap.objs.size) { s with heap := s.heap.push { cls := .type "tuple", data := .seq its.toArray }, toks := t' } := by
  rcases q with q | q
  · exact ⟨.ref s.heap.objs.size, _, I.laid (t' := t') (o := .tup ys) (fun b ob e => Heap.get?_push_of_some _ e) (Nat.le_refl _) ⟨hz, its, r, IsTup.new _ _⟩, rfl, q _ (I.hok.fresh (Nat.le_refl _))⟩
  · exact ⟨.ref s.heap.objs.size, _, I.laid (t' := t') (o := .frz { cls := .type "tuple", data := .seq its.toArray } (.tup ys)) (fun b ob e => Heap.get?_push_of_some _ e) (Nat.le_refl _) ⟨Heap.get?_push_size _ rfl, hz, its, r, IsTup.new _ _⟩, rfl,
      q _ _ (I.hok.fresh (Nat.le_refl _)) rfl rfl⟩

/-- t + u, the new one tracked either way -/
def rCatN (K : PySem.W.Frag) : R2 := fun x y H Q => ∃ a b xs ys, x = .ref a ∧ y = .ref b ∧ SqT K H a xs ∧ SqT K H b ys ∧ xs.length + ys.length ≤ sizeLine ∧
  (xs = [] → Q (.ref b) H) ∧ (xs ≠ [] → ys = [] → Q (.ref a) H) ∧ (xs ≠ [] → ys ≠ [] → newT H (xs ++ ys) Q)
theorem op_catN {X : Cx} : OpR X (binaryOp .Add) (rCatN X.K) := by
  intro pins s σ H x y v u Q I rx ry h
  obtain ⟨a, b, xs, ys, rfl, rfl, ha, hb, hz, q0, q1, q2⟩ := h
  by_cases hx : xs = []
  · subst hx
    cases rx
    cases ry
    obtain ⟨its, r1, p1, _⟩ := I.tuple ha
    obtain ⟨its2, r2, p2, _⟩ := I.tuple hb
    cases r1
    exact cat_tup0 p1 p2 ⟨.ref b, H, I, rfl, q0 rfl⟩
  · cases rx
    cases ry
    obtain ⟨its, r1, p1, _⟩ := I.tuple ha
    obtain ⟨its2, r2, p2, _⟩ := I.tuple hb
    refine HT.cat_tup p1 p2 (fun z => hx (r1.nil_iff.mp z)) (fun z => ⟨.ref a, H, I, rfl, q1 hx (r2.nil_iff.mp z)⟩) (fun z => ?_) (by rw [← r1.length, ← r2.length]; exact hz)
    exact newT_laid (t' := s.toks) I (by rw [List.length_append]; exact hz) (r1.append r2) (q2 hx fun w => z (r2.nil_iff.mpr w))
def oAdd (K : PySem.W.Frag) : R2 := fun x y H Q => rAddI x y H Q ∨ rAddS x y H Q ∨ rCat x y H Q ∨ rCatN K x y H Q
def oMul (K : PySem.W.Frag) : R2 := fun x y H Q => rMulI x y H Q ∨ rRep x y H Q
def oEq (K : PySem.W.Frag) : R2 := fun x y H Q => rEq x y H Q ∨ rEqD K x y H Q
def oNe (K : PySem.W.Frag) : R2 := fun x y H Q => rNe x y H Q ∨ rNeD K x y H Q
def rDIn (neg : Bool) : R2 := fun x y H Q => ∃ a o, y = .ref a ∧ DGet H a x o ∧ Q (.bl (if neg then !o.isSome else o.isSome)) H
def rSgIn (neg : Bool) : R2 := fun x y H Q => ∃ (c : Nat) (z : Str), x = .str ⟨#[c]⟩ ∧ y = .str z ∧ Q (.bl (if neg then !decide (c ∈ z.cps.toList) else decide (c ∈ z.cps.toList))) H
def rInDD (K : PySem.W.Frag) (neg : Bool) : R2 := fun x y H Q => ∃ d ds, Dp K H x d ∧ Dp K H y (.list ds) ∧ SeqAt.shaped d = true ∧ SeqAt.shaped (.list ds) = true ∧ Q (.bl (if neg then !(ds.any fun z => PyData.eqv z d) else ds.any fun z => PyData.eqv z d)) H
/-- x in y: flat things in lists and tuples | keys of dicts | a sign of a text | data in lists -/
def oIn (K : PySem.W.Frag) (neg : Bool) : R2 := fun x y H Q => rIn K neg x y H Q ∨ rDIn neg x y H Q ∨ rSgIn neg x y H Q ∨ rInDD K neg x y H Q
/-- x[i]: lists, tuples, texts | dicts -/
def oGet (K : PySem.W.Frag) : R2 := fun x y H Q => rIxL K x y H Q ∨ rIxT K x y H Q ∨ rIxS x y H Q ∨ ∃ a v, x = .ref a ∧ DGet H a y (some v) ∧ Q v H
/-- len(x): lists and tuples | texts | dicts -/
def oLen (K : PySem.W.Frag) : List V → Hp → VK → Prop := fun xs H Q =>
  (∃ p ys, xs = [.ref p] ∧ (SqL K H p ys ∨ SqT K H p ys) ∧ Q (.int ys.length) H) ∨ (∃ i, xs = [.str i] ∧ i.length ≤ sizeLine ∧ Q (.int i.length) H) ∨
    (∃ p kvs, xs = [.ref p] ∧ H p = some (.dK kvs) ∧ Q (.int ((kvs.length : Nat) : Int)) H) ∨ ∃ (p : Addr) (kvs : List (List Key × V)), xs = [.ref p] ∧ H p = some (.dT kvs) ∧ Q (.int ((kvs.length : Nat) : Int)) H
/-- x[lo:hi]: lists | tuples | texts -/
def oSl (K : PySem.W.Frag) : V → Option Int → Option Int → Hp → VK → Prop := fun x lo hi H Q => rSlL K x lo hi H Q ∨ rSlA K x lo hi H Q ∨ rSlS x lo hi H Q
/-- x[i] = v: lists | dicts -/
def oSet : V → V → V → Hp → (Hp → Prop) → Prop := fun o i v H Q => rSetL o i v H Q ∨ ∃ a H', o = .ref a ∧ DPut H a i v H' ∧ Q H'

section
variable {X : Cx}
theorem op_addU : OpR X (binaryOp .Add) (oAdd X.K) := OpR.or op_add (OpR.or op_add_str (OpR.or op_cat op_catN))
theorem op_mulU : OpR X (binaryOp .Mult) (oMul X.K) := OpR.or op_mul op_rep
theorem op_eqU (hu : X.A.units + 64 < cLine) : OpR X (compareOp .Eq) (oEq X.K) := OpR.or op_eq (op_eqD hu)
theorem op_neU (hu : X.A.units + 64 < cLine) : OpR X (compareOp .NotEq) (oNe X.K) := OpR.or op_ne (op_neD hu)
theorem op_dIn (hu : X.A.units + 1 < cLine) : OpR X (compareOp .In) (rDIn false) := by
  intro pins s σ H x y v u Q I rx ry h
  obtain ⟨a, o, ey, g, q⟩ := h
  subst ey
  cases ry
  exact d_in hu I g rx fun s' J => ⟨.bl _, H, J, rfl, q⟩
theorem op_dNotIn (hu : X.A.units + 1 < cLine) : OpR X (compareOp .NotIn) (rDIn true) := by
  intro pins s σ H x y v u Q I rx ry h
  obtain ⟨a, o, ey, g, q⟩ := h
  subst ey
  cases ry
  exact d_notIn hu I g rx fun s' J => ⟨.bl _, H, J, rfl, q⟩
theorem op_inU (hu : X.A.units + 65 < cLine) : OpR X (compareOp .In) (oIn X.K false) :=
  OpR.or op_in_seq (OpR.or (op_dIn (by omega)) (OpR.or op_in_sign (op_inD hu)))
theorem op_notInU (hu : X.A.units + 65 < cLine) : OpR X (compareOp .NotIn) (oIn X.K true) :=
  OpR.or op_notIn_seq (OpR.or (op_dNotIn (by omega)) (OpR.or op_notIn_sign (op_notInD hu)))
theorem call_lenU : CallR X (.builtin "len") (oLen X.K) :=
  CallR.or call_len_seq (CallR.or call_len_str (CallR.or call_lenD call_len_dT))
theorem sl_U : SlR X (oSl X.K) := SlR.or sl_list (SlR.or sl_tupA sl_str)
theorem ix_dict (hu : X.A.units + 1 < cLine) : IxR X (fun x y H Q => ∃ a v, x = .ref a ∧ DGet H a y (some v) ∧ Q v H) := by
  intro value slice pins s σ H x y v u Q I rx ry h hs
  obtain ⟨a, w, ex, g, q⟩ := h
  subst ex
  cases rx
  exact tail_any (ops := [.ref a, u]) (dict_typeIs I g) PySem.F.slot_dict_getitem.lookup (d_getItem hu I g ry fun w' s3 I3 rw' => ⟨w, H, I3, rw', q⟩) hs
theorem ix_U (hu : X.A.units + 1 < cLine) : IxR X (oGet X.K) := IxR.or ix_list (IxR.or ix_tup (IxR.or ix_str (ix_dict hu)))
theorem set_U (hu : X.A.units + 1 < cLine) : PSet X oSet := by
  intro pins s σ H o i v ov iv u Q I ro ri rv h
  rcases h with h | ⟨a, H', eo, g, q⟩
  · exact set_list pins s σ H o i v ov iv u Q I ro ri rv h
  · subst eo
    cases ro
    exact d_setItem hu I g ri rv fun s4 I4 => ⟨H', I4, q⟩
theorem hu65 {k : Nat} (hr : Room k X.A) : X.A.units + 65 < cLine := by have := hr.un; omega
theorem hu64 {k : Nat} (hr : Room k X.A) : X.A.units + 64 < cLine := by have := hr.un; omega
theorem hu1 {k : Nat} (hr : Room k X.A) : X.A.units + 1 < cLine := by have := hr.un; omega
theorem ty_looks {pins : List (Addr × Obj)} {σ : St} {H : Hp} {s : Shared} {x : V} {u t : Value} (I : Inv X pins σ H s) (rx : RelV x u) (ty : TyX X.K H x t) : PySem.W.Looks (model X.prog X.w) s.heap (typeOf u) t := by
  obtain ⟨P, Z, p, _⟩ := kit_of I rx ty
  exact Z.ty _ _ I.kIn p
end

/-! ### operators by own methods, further -/
/-- x op y by x's own method for op, y of a type that does not come first -/
def tCmpO (K : PySem.W.Frag) (C : Addr) (sp : Sp) (W : WX) (ta tb : TE) : TE := fun σ H Q => ta σ H fun x H1 => tb σ H1 fun y H2 => ∃ a dx fs t, x = .ref a ∧ H2 a = some (.ins C dx fs) ∧ TyX K H2 y t ∧ PySem.W.notFirst K C t = true ∧ sp [x, y] H2 Q (WE W σ)
/-- y in o, o's own __contains__ hands back a truth value -/
def tInO (C : Addr) (neg : Bool) (sp : Sp) (W : WX) (ta tb : TE) : TE := fun σ H Q => ta σ H fun x H1 => tb σ H1 fun y H2 => ∃ a dx fs, y = .ref a ∧ H2 a = some (.ins C dx fs) ∧ sp [y, x] H2 (fun v H3 => ∃ b, v = .bl b ∧ Q (.bl (if neg then !b else b)) H3) (WE W σ)
def rLenO (C : Addr) (sp : Sp) : List V → Hp → VK → Prop := fun xs H Q => ∃ a dx fs, xs = [.ref a] ∧ H a = some (.ins C dx fs) ∧ sp [.ref a] H (fun v H' => ∃ n : Int, v = .int n ∧ 0 ≤ n ∧ n < 2 ^ 63 ∧ Q (.int n) H') E0
/-- x op y, both instances of the class at C -/
def tBinO (C : Addr) (sp : Sp) (W : WX) (ta tb : TE) : TE := fun σ H Q => ta σ H fun x H1 => tb σ H1 fun y H2 => ∃ a dx fs b dy gs, x = .ref a ∧ y = .ref b ∧ H2 a = some (.ins C dx fs) ∧ H2 b = some (.ins C dy gs) ∧ sp [x, y] H2 Q (WE W σ)
/-- o[i] = v by o's own __setitem__ -/
def tSetO (C : Addr) (sp : Sp) (W : WX) (to ti tv : TE) : TS := fun D σ H => tv σ H fun v H1 => to σ H1 fun x H2 => ti σ H2 fun y H3 => ∃ a dx fs, x = .ref a ∧ H3 a = some (.ins C dx fs) ∧ sp [x, y, v] H3 (fun _ H4 => D.nx σ H4) (WE W σ)
section
variable {X : Cx} {W : WX} {k j : Nat} {f C : Addr} {ps : List Str} {sp : Sp} {pos pos' : Pos} {a b o i e value : Expr} {ta tb to ti tv : TE}
theorem pe_cmpO {op : CmpOp} {m : Str} (em : (cmpInfo op).2.1 = m) (hm : Meth X.K C m f) (D : DfX X k f ps sp []) (hr : Room j X.A) (tk : Takes X W) (ha : PE X a ta) (hb : PE X b tb) (hk : k ≤ j := by decide)
    (hop : ∀ a b, compareOp op a b = richCompare op a b := by intro _ _; rfl) (hmk : behindInMarks op b = false := by exact nomark _) : PE X (.Compare a [op] [b] pos) (tCmpO X.K C sp W ta tb) := by
  refine ⟨fun pins s σ H Q I h => ?_⟩
  refine wpAny_Compare1 (binT ha hb I h fun v u s2 x y H2 I2 rx ry q => ?_) hmk
  obtain ⟨a, dx, fs, t, ex, ea, ty, hn, q⟩ := q
  subst ex
  subst em
  cases rx
  obtain ⟨od, J⟩ := inst_at I2 ea
  obtain ⟨m0, fr⟩ := I2.fr
  rw [hop]
  refine PySem.W.cmp_K (op := op) (tb := t) hr.units0 fr I2.ok.mod.kin J (ty_looks I2 ry ty) hn hm.at_ hm.fn ?_
  refine wpAny_mono (runW (us := [.ref a, u]) (vs := [.ref a, y]) D (hr.mono hk) tk I2 (.cons rfl (.cons ry .nil)) q) (fun w s' z => ?_) fun _ _ x => x
  obtain ⟨z', H', I', rz, qz⟩ := z
  exact SlX.cmpback rz ⟨z', H', I', rz, qz⟩
theorem pe_inO (hm : Meth X.K C "__contains__" f) (D : DfX X k f ps sp []) (hr : Room j X.A) (tk : Takes X W) (ha : PE X a ta) (hb : PE X b tb) (hk : k ≤ j := by decide) (hmk : behindInMarks .In b = false := by rfl) :
    PE X (.Compare a [.In] [b] pos) (tInO C false sp W ta tb) := by
  refine ⟨fun pins s σ H Q I h => ?_⟩
  refine wpAny_Compare1 (binT ha hb I h fun v u s2 x y H2 I2 rx ry q => ?_) hmk
  obtain ⟨a, dx, fs, ey, ea, q⟩ := q
  subst ey
  cases ry
  obtain ⟨od, J⟩ := inst_at I2 ea
  obtain ⟨m0, fr⟩ := I2.fr
  refine PySem.W.in_K fr I2.ok.mod.kin J hm.at_ hm.fn ?_
  refine wpAny_mono (runW (us := [.ref a, v]) (vs := [.ref a, x]) D (hr.mono hk) tk I2 (.cons rfl (.cons rx .nil)) q) (fun w s' z => ?_) fun _ _ x => x
  obtain ⟨z', H', I', rz, c, ez, qz⟩ := z
  subst ez
  cases rz
  exact wpAny_truthy_bool ⟨.bl c, H', I', rfl, qz⟩
theorem pe_notInO (hm : Meth X.K C "__contains__" f) (D : DfX X k f ps sp []) (hr : Room j X.A) (tk : Takes X W) (ha : PE X a ta) (hb : PE X b tb) (hk : k ≤ j := by decide) (hmk : behindInMarks .NotIn b = false := by rfl) :
    PE X (.Compare a [.NotIn] [b] pos) (tInO C true sp W ta tb) := by
  refine ⟨fun pins s σ H Q I h => ?_⟩
  refine wpAny_Compare1 (binT ha hb I h fun v u s2 x y H2 I2 rx ry q => ?_) hmk
  obtain ⟨a, dx, fs, ey, ea, q⟩ := q
  subst ey
  cases ry
  obtain ⟨od, J⟩ := inst_at I2 ea
  obtain ⟨m0, fr⟩ := I2.fr
  refine PySem.W.notIn_K fr I2.ok.mod.kin J hm.at_ hm.fn ?_
  refine wpAny_mono (runW (us := [.ref a, v]) (vs := [.ref a, x]) D (hr.mono hk) tk I2 (.cons rfl (.cons rx .nil)) q) (fun w s' z => ?_) fun _ _ x => x
  obtain ⟨z', H', I', rz, c, ez, qz⟩ := z
  subst ez
  cases rz
  exact wpAny_truthy_bool ⟨.bl (!c), H', I', rfl, qz⟩
theorem call_lenO (hm : Meth X.K C "__len__" f) (D : DfX X k f ps sp []) (hr : Room j X.A) (hk : k + 1 ≤ j := by decide) : CallR X (.builtin "len") (rLenO C sp) := by
  intro pins s σ H xs us Q I r h
  obtain ⟨a, dx, fs, ex, ea, q⟩ := h
  subst ex
  cases r with
  | cons ra rn =>
    cases rn
    cases ra
    obtain ⟨od, J⟩ := inst_at I ea
    obtain ⟨m0, fr⟩ := I.fr
    refine PySem.W.len_K fr I.ok.mod.kin J hm.at_ hm.fn ?_
    refine wpAny_mono (runW1 (us := [.ref a]) (vs := [.ref a]) (W := W0) D (hr.mono hk) takes0 I (.cons rfl .nil) q) (fun w s' z => ?_) fun _ _ x => x
    obtain ⟨z', H', I', rz, n, ez, h0, h1, qz⟩ := z
    subst ez
    obtain ⟨t, rfl⟩ := rz
    exact ⟨⟨h0, h1⟩, .int n, H', I'.tok _, ⟨_, rfl⟩, qz⟩
theorem pe_binO {op : Operator} {m : Str} (em : PySem.dunder op.info.2 = m) (hc : PySem.W.selfFirst X.K C = true) (hm : Meth X.K C m f) (D : DfX X k f ps sp []) (hr : Room j X.A) (tk : Takes X W) (ha : PE X a ta) (hb : PE X b tb) (hk : k ≤ j := by decide) :
    PE X (.BinOp a op b pos) (tBinO C sp W ta tb) := by
  refine ⟨fun pins s σ H Q I h => ?_⟩
  refine wpAny_BinOp (binT ha hb I h fun v u s2 x y H2 I2 rx ry q => ?_)
  obtain ⟨a, dx, fs, b', dy, gs, ex, ey, ea, eb, q⟩ := q
  subst ex
  subst ey
  subst em
  cases rx
  cases ry
  obtain ⟨od, J⟩ := inst_at I2 ea
  obtain ⟨od', J'⟩ := inst_at I2 eb
  obtain ⟨m0, fr⟩ := I2.fr
  refine PySem.W.binop_K (op := op) fr I2.ok.mod.kin J J'.type hc hm.at_ hm.fn ?_
  refine wpAny_mono (runW (us := [.ref a, .ref b']) (vs := [.ref a, .ref b']) D (hr.mono hk) tk I2 (.cons rfl (.cons rfl .nil)) q) (fun w s' z => ?_) fun _ _ x => x
  obtain ⟨z', H', I', rz, qz⟩ := z
  exact SlX.cmpback rz ⟨z', H', I', rz, qz⟩
theorem pe_negO (hm : Meth X.K C "__neg__" f) (D : DfX X k f ps sp []) (hr : Room j X.A) (tk : Takes X W) (ha : PE X a ta) (hk : k ≤ j := by decide) : PE X (.UnaryOp .USub a pos) (tOpO1 C sp W ta) := by
  refine ⟨fun pins s σ H Q I h => ?_⟩
  refine UnaryOp_ (thn (ha.run pins s σ H _ I h) fun v s1 ⟨x, H1, I1, r1, q1⟩ => ?_)
  obtain ⟨a, dx, fs, ex, ea, q⟩ := q1
  subst ex
  cases r1
  obtain ⟨od, J⟩ := inst_at I1 ea
  obtain ⟨m0, fr⟩ := I1.fr
  exact PySem.W.ksp_neg fr I1.ok.mod.kin J hm.at_ hm.fn (runW (us := [.ref a]) (vs := [.ref a]) D (hr.mono hk) tk I1 (.cons rfl .nil) q)
theorem ps_setO (hq : PySem.W.noSeq X.K C = true) (hm : Meth X.K C "__setitem__" f) (D : DfX X k f ps sp []) (hr : Room j X.A) (tk : Takes X W) (ho : PE X o to) (hi : PE X i ti) (hv : PE X value tv) (hk : k ≤ j := by decide)
    (hs : swapsWith value (some (.Subscript o i pos')) pos.line X.env = pure false := by rfl) : PS X (.Assign [.Subscript o i pos'] value pos) (tSetO C sp W to ti tv) := by
  refine ⟨fun pins s σ H D' I h => ?_⟩
  refine wpAny_Assign_Subscript (thn (hv.run pins s σ H _ I h) fun r s1 ⟨v, H1, I1, rv, q1⟩ => thn (ho.run pins s1 σ H1 _ I1 q1) fun u s2 ⟨x, H2, I2, rx, q2⟩ => thn (hi.run pins s2 σ H2 _ I2 q2) fun iv s3 ⟨y, H3, I3, ry, a, dx, fs, ex, ea, q3⟩ => ?_) hs
  subst ex
  cases rx
  obtain ⟨od, J⟩ := inst_at I3 ea
  obtain ⟨m0, fr⟩ := I3.fr
  refine PySem.W.ksp_setItem fr I3.ok.mod.kin J hq hm.at_ hm.fn ?_
  refine wpAny_mono (runW (us := [.ref a, iv, r]) (vs := [.ref a, y, v]) D (hr.mono hk) tk I3 (.cons rfl (.cons ry (.cons rv .nil))) q3) (fun w s' z => ?_) fun _ _ x => x
  obtain ⟨z', H', I', rz, qz⟩ := z
  exact ⟨σ, H', I', qz⟩
end
end
/-! ## U3 -/
section

/-! ### a reading made monotone -/
def ME (te : TE) : TE := fun σ H Q => ∃ R : VK, te σ H R ∧ ∀ v H', R v H' → Q v H'
def MA (ta : TA) : TA := fun σ H Q => ∃ R : List V → Hp → Prop, ta σ H R ∧ ∀ v H', R v H' → Q v H'
section
variable {X : Cx} {e : Expr} {es : List Expr} {te : TE} {ta : TA} {st : Stmt} {t t' : TS}
theorem pe_me (h : PE X e te) : PE X e (ME te) := ⟨fun pins s σ H Q I ⟨R, hR, k⟩ => wpAny_mono (h.run pins s σ H R I hR) (fun _ _ ⟨v, H', I', r, q⟩ => ⟨v, H', I', r, k _ _ q⟩) fun _ _ z => z⟩
theorem pa_ma (h : PA X es ta) : PA X es (MA ta) := ⟨fun pos pins s σ H Q I ⟨R, hR, k⟩ => wpAny_mono (h.run pos pins s σ H R I hR) (fun _ _ ⟨v, H', I', r, q⟩ => ⟨v, H', I', r, k _ _ q⟩) fun _ _ z => z⟩
theorem ps_weak (h : PS X st t) (k : ∀ D σ H, t' D σ H → t D σ H) : PS X st t' := ⟨fun pins s σ H D I q => h.run pins s σ H D I (k D σ H q)⟩
end

/-! ### own exception classes whose __init__ stores its arguments -/
def oexB (K : PySem.W.Frag) (C : Addr) : Bool := (match K.lookup C with
  | some ⟨.type "type", _, .cls cd, sl⟩ => (match cd.mro, sl.toList with
    | .ref C' :: bm, [_, _, _, _, some (.builtin n), _] => C' == C && n == "ValueError.__new__" && !cd.hasDel && cd.hasDict && PySem.HandSPX.refsVE bm
    | _, _ => false)
  | _ => false) && (decide (PySem.W.findIn K (.ref C) "__setattr__" = some (some (.builtin "object.__setattr__"))) && (decide (PySem.W.subIn K (.ref C) (.type "BaseException") = some true) &&
    (decide (PySem.W.typeIn K (.ref C) = some (.type "type")) && PySem.W.keepIn K (.ref C))))
theorem oexB_ok {K : PySem.W.Frag} {C : Addr} (h : oexB K C = true) : OexC K C := by
  obtain ⟨h1, h⟩ := Bool.and_eq_true_iff.mp h
  obtain ⟨h2, h⟩ := Bool.and_eq_true_iff.mp h
  obtain ⟨h3, h⟩ := Bool.and_eq_true_iff.mp h
  obtain ⟨h4, h5⟩ := Bool.and_eq_true_iff.mp h
  refine ⟨?_, of_decide_eq_true h2, of_decide_eq_true h3, of_decide_eq_true h4, h5⟩
  split at h1
  · rename_i dd cd sl ho
    split at h1
    · rename_i C' bm k0 k1 k2 k3 n k5 hm hs
      simp only [Bool.and_eq_true, beq_iff_eq, Bool.not_eq_true'] at h1
      obtain ⟨⟨⟨⟨rfl, rfl⟩, hdel⟩, hdc⟩, ht⟩ := h1
      obtain ⟨nm, bs, mro, ns, qn, hd, sn, sub, ab, col, del⟩ := cd
      dsimp only at hm hdel hdc
      subst hm hdel hdc
      have hsl : sl = #[k0, k1, k2, k3, some (.builtin "ValueError.__new__"), k5] := by
        obtain ⟨l⟩ := sl
        simp only at hs
        rw [hs]
      subst hsl
      exact ⟨nm, qn, ns, bs, bm, sn, sub, ab, col, dd, k0, k1, k2, k3, k5, ho, ht⟩
    · cases h1
  · cases h1

/-- the promise of such an __init__ with one field, with two -/
def spX1 (C : Addr) (f : Str) : Sp := fun vs H Q _ => ∃ a v, vs = [.ref a, v] ∧ H a = some (exo a C none) ∧ ∀ dx, H dx = none → dx ≠ a → Q .non (upd (upd H dx (exd dx [(f, v)])) a (exo a C (some dx)))
def spX2 (C : Addr) (f g : Str) : Sp := fun vs H Q _ => ∃ a v w, vs = [.ref a, v, w] ∧ H a = some (exo a C none) ∧ ∀ dx, H dx = none → dx ≠ a → Q .non (upd (upd (upd H dx (exd dx [(f, v)])) a (exo a C (some dx))) dx (exd dx [(g, w), (f, v)]))
theorem pure_x1 {K : PySem.W.Frag} {C : Addr} {f : Str} (T : OexC K C) (hno : PySem.W.findIn K (.ref C) f = some none) (vs : List V) (H : Hp) (Q : VK) (E : XK) (h : spX1 C f vs H Q E) :
    tOst K f (tVar 0) (tVar 1) { nx := fun _ H' => Q .non H', rt := Q } (start ["self", f] vs) H := by
  obtain ⟨a, v, rfl, ha, k⟩ := h
  exact ⟨v, rfl, .ref a, rfl, a, C, rfl, T, hno, .inl ⟨ha, fun dx n ne => k dx n ne⟩⟩
theorem pure_x2 {K : PySem.W.Frag} {C : Addr} {f g : Str} (T : OexC K C) (hno : PySem.W.findIn K (.ref C) f = some none) (hno2 : PySem.W.findIn K (.ref C) g = some none) (vs : List V) (H : Hp) (Q : VK) (E : XK) (h : spX2 C f g vs H Q E) :
    tSeq (tOst K f (tVar 0) (tVar 1)) (tOst K g (tVar 0) (tVar 2)) { nx := fun _ H' => Q .non H', rt := Q } (start ["self", f, g] vs) H := by
  obtain ⟨a, v, w, rfl, ha, k⟩ := h
  refine ⟨v, rfl, .ref a, rfl, a, C, rfl, T, hno, .inl ⟨ha, fun dx n ne => ?_⟩⟩
  refine ⟨w, rfl, .ref a, rfl, a, C, rfl, T, hno2, .inr ⟨dx, [(f, v)], upd_same, ?_, by show 1 ≤ 900; decide, k dx n ne⟩⟩
  rw [upd_ne ne, upd_same]

/-- raise C(e), raise C(e, e2): for every new place of the error's own dict -/
def tRs1 (C : Addr) (f : Str) (W : WX) (te : TE) : TS := fun _ σ H => te σ H fun v H1 => ∀ d, H1 d = none → W (.ref C) (some d) σ (upd H1 d (.xd [(f, v)]))
def tRs2 (C : Addr) (f g : Str) (W : WX) (te te2 : TE) : TS := fun _ σ H => te σ H fun v H1 => te2 σ H1 fun w H2 => ∀ d, H2 d = none → W (.ref C) (some d) σ (upd H2 d (.xd [(g, w), (f, v)]))
theorem xd_eq {H1 : Hp} {a dx C : Addr} {d1 d2 : Option Addr} {o o' : HO} (n : H1 a = none) (nd : dx ≠ a) (xd : HO) : upd (del (upd (upd (upd H1 a (exo a C d1)) dx o) a (exo a C d2)) a) dx xd = upd H1 dx xd := by
  funext b
  by_cases hb : b = dx
  · rw [hb, upd_same, upd_same]
  · rw [upd_ne hb, upd_ne hb]
    by_cases ha : b = a
    · rw [ha, del_same, n]
    · rw [del_ne ha, upd_ne ha, upd_ne hb, upd_ne ha]
theorem xd_eq2 {H1 : Hp} {a dx C : Addr} {d1 d2 : Option Addr} {o o' : HO} (n : H1 a = none) (nd : dx ≠ a) (xd : HO) : upd (del (upd (upd (upd (upd H1 a (exo a C d1)) dx o) a (exo a C d2)) dx o') a) dx xd = upd H1 dx xd := by
  funext b
  by_cases hb : b = dx
  · rw [hb, upd_same, upd_same]
  · rw [upd_ne hb, upd_ne hb]
    by_cases ha : b = a
    · rw [ha, del_same, n]
    · rw [del_ne ha, upd_ne hb, upd_ne ha, upd_ne hb, upd_ne ha]
section
variable {X : Cx} {W : WX} {k j : Nat} {fI C : Addr} {ps : List Str} {f g x : Str} {p pos pos2 : Pos} {e e2 : Expr} {te te2 : TE}
/-- what the written part says of an exception class and its __init__ -/
structure XCls (K : PySem.W.Frag) (C fI : Addr) : Prop where
  ox : OexC K C
  iC : PySem.W.findIn K (.ref C) "__init__" = some (some (.ref fI))
  tI : PySem.W.typeIn K (.ref fI) = some (.type "function")
theorem ps_raise1 (hc : X.calm = true) (T : XCls X.K C fI) (D : DfX X k fI ps (spX1 C f) []) (hr : Room j X.A) (tk : Takes X W) (hm : X.mg x = some (.ref C)) (he : PE X e te) (hk : k + 1 ≤ j := by decide) (hg : Gl X x := by rfl)
    (hdb : (x == ("__debug__" : Str)) = false := by decide) (hst : starEach [e] X.env = (false, eval e X.env) :: starEach [] X.env := by rfl) (hpl : (backTo pos (starEach [] X.env)).any (·.1) = false := by rfl) :
    PS X (.Raise (some (.Call (.Name x p) [e] [] pos)) none pos2) (tRs1 C f W te) := by
  obtain ⟨fd, ds, F, hb, hd⟩ := D.ex
  cases hd
  refine ps_weak (ps_raise hc tk (pmk_oex T.ox T.iC T.tI F (hr.mono hk) hb .nil passL hg hm (pa_ma (pa_cons (pe_me he) pa_nil hst)) hdb hst hpl)) fun D' σ H q => ?_
  refine ⟨fun vs H1 => ∃ v, vs = [v] ∧ ∀ d, H1 d = none → W (.ref C) (some d) σ (upd H1 d (.xd [(f, v)])), ⟨_, q, fun v H1 q1 => ⟨v, rfl, q1⟩⟩, fun vs H1 ⟨v, ev, q1⟩ => ?_⟩
  subst ev
  refine ⟨by show 1 ≤ 1000; decide, fun a na => ⟨a, v, rfl, upd_same, fun dx ndx nda => ?_⟩⟩
  have n1 : H1 dx = none := by rw [upd_ne nda] at ndx; exact ndx
  refine ⟨rfl, dx, [(f, v)], upd_same, by rw [upd_ne nda, upd_same], n1, ?_⟩
  rw [xd_eq (o' := HO.own a) na nda]
  exact q1 dx n1
theorem ps_raise2 (hc : X.calm = true) (T : XCls X.K C fI) (D : DfX X k fI ps (spX2 C f g) []) (hr : Room j X.A) (tk : Takes X W) (hm : X.mg x = some (.ref C)) (he : PE X e te) (he2 : PE X e2 te2) (hk : k + 1 ≤ j := by decide) (hg : Gl X x := by rfl)
    (hdb : (x == ("__debug__" : Str)) = false := by decide) (hst : starEach [e, e2] X.env = (false, eval e X.env) :: starEach [e2] X.env := by rfl) (hst2 : starEach [e2] X.env = (false, eval e2 X.env) :: starEach [] X.env := by rfl) (hpl : (backTo pos (starEach [e2] X.env)).any (·.1) = false := by rfl) :
    PS X (.Raise (some (.Call (.Name x p) [e, e2] [] pos)) none pos2) (tRs2 C f g W te te2) := by
  obtain ⟨fd, ds, F, hb, hd⟩ := D.ex
  cases hd
  refine ps_weak (ps_raise hc tk (pmk_oex T.ox T.iC T.tI F (hr.mono hk) hb .nil passL hg hm (pa_ma (pa_cons (pe_me he) (pa_cons (pe_me he2) pa_nil hst2) hst)) hdb hst hpl)) fun D' σ H q => ?_
  refine ⟨fun vs H1 => ∃ v w, vs = [v, w] ∧ ∀ d, H1 d = none → W (.ref C) (some d) σ (upd H1 d (.xd [(g, w), (f, v)])), ⟨_, q, fun v H1 q1 => ⟨_, q1, fun w H2 q2 => ⟨v, w, rfl, q2⟩⟩⟩, fun vs H1 ⟨v, w, ev, q1⟩ => ?_⟩
  subst ev
  refine ⟨by show 2 ≤ 1000; decide, fun a na => ⟨a, v, w, rfl, upd_same, fun dx ndx nda => ?_⟩⟩
  have n1 : H1 dx = none := by rw [upd_ne nda] at ndx; exact ndx
  refine ⟨rfl, dx, [(g, w), (f, v)], by rw [upd_ne (Ne.symm nda), upd_same], upd_same, n1, ?_⟩
  rw [xd_eq2 na nda]
  exact q1 dx n1
end

/-- try: body / except c as n: suite -/
def tTryAs (K : PySem.W.Frag) (c : Value) (i : Nat) (tb : WX → TS) (ts : Addr → Value → Option Addr → TS) (Wout : WX) : TS := fun D σ H => tb (wAs K c i ts Wout D) D σ H
end
/-! ## U4 -/
section
open He (ga ma FnW Dv relAll asD frG frG_in ba eqO eqO_ok)

/-! ### a hook: defs found by paths, and any facts that can be decided -/
/-- the getter of a property -/
def pAd (K : PySem.W.Frag) (C f : Str) : Addr := match PySem.W.recIn K (ma K (ga K C) f) "property" with
  | some (.ref g :: _) => g
  | _ => 0
inductive At where
  | fn (x : Str) | me (C m : Str) | pr (C f : Str)
def At.a (K : PySem.W.Frag) : At → Addr
  | .fn x => ga K x
  | .me C m => ma K (ga K C) m
  | .pr C f => pAd K C f
structure DefU where
  at_ : At
  name : Str
  qual : Str
  st : Stmt
  dfl : List Dv := []
  kwd : List (Str × Dv) := []
def fnU (K : PySem.W.Frag) (a : Addr) : FnW := match K.lookup a with
  | some ⟨_, _, .func fd, _⟩ => some (fd.name, fd.qualname, fd.params, fd.body, fd.scope, fd.globals, fd.closure, fd.builtins)
  | _ => none
def DefU.val (d : DefU) : FnW := some (d.name, d.qual, defArgs d.st, .stmts (defBody d.st), defScope d.st, mainGlobals, [], builtinsNs)
def DefU.dvs (K : PySem.W.Frag) (d : DefU) : List V := d.dfl.map (Dv.v K)
def DefU.kws (K : PySem.W.Frag) (d : DefU) : List (Str × V) := d.kwd.map fun q => (q.1, q.2.v K)
def DefU.ok (K : PySem.W.Frag) (d : DefU) : Bool := PySem.W.keepIn K (.ref (d.at_.a K)) && (match K.lookup (d.at_.a K) with
  | some ⟨_, _, .func fd, _⟩ => PySem.W.codeIn K fd.code d.qual && (He.dflB K fd.defaults (d.dvs K) && He.kwdB K fd.kwdefaults (d.kws K))
  | _ => false)
theorem DefU.funD {K : PySem.W.Frag} {d : DefU} (e : fnU K (d.at_.a K) = d.val) (c : d.ok K = true) : ∃ fd, FunD K d.name d.qual (defArgs d.st) (defBody d.st) (defScope d.st) (d.dvs K) (d.kws K) (d.at_.a K) fd := by
  obtain ⟨kp, c2⟩ := ba c
  unfold fnU at e
  cases q : K.lookup (d.at_.a K) with
  | none =>
    rw [q] at c2
    cases c2
  | some o =>
    obtain ⟨oc, od, dt, osl⟩ := o
    rw [q] at c2 e
    cases dt with
    | func fd =>
      obtain ⟨n1, n2, n3, n4, n5, n6, n7, n8, n9, n10, n11, n12, n13, n14, n15⟩ := fd
      have e2 : (some (n1, n2, n3, n4, n5, n6, n7, n15) : FnW) = some (d.name, d.qual, defArgs d.st, .stmts (defBody d.st), defScope d.st, mainGlobals, [], builtinsNs) := e
      simp only [Option.some.injEq, Prod.mk.injEq] at e2
      obtain ⟨h1, h2, h3, h4, h5, h6, h7, h8⟩ := e2
      subst h1 h2 h3 h4 h5 h6 h7 h8
      have c3 : (PySem.W.codeIn K n13 d.qual && (He.dflB K n8 (d.dvs K) && He.kwdB K n9 (d.kws K))) = true := c2
      obtain ⟨k1, k2⟩ := ba c3
      obtain ⟨k3, k4⟩ := ba k2
      exact ⟨_, ⟨oc, od, n8, n9, n10, n11, n12, n13, n14, osl, rfl, q, k1, He.dflB_ok k3, He.kwdB_ok k4⟩, kp⟩
    | _ => cases c2
abbrev AlU : Type := Bool × List FnW
def obsU (ex : List (PySem.W.Frag → Bool)) (fn : List DefU) (K : PySem.W.Frag) : AlU := ((ex.all fun f => f K) && fn.all fun d => d.ok K, fn.map fun d => fnU K (d.at_.a K))
def valU (fn : List DefU) : AlU := (true, fn.map DefU.val)
def SaysU (ex : List (PySem.W.Frag → Bool)) (fn : List DefU) (K : PySem.W.Frag) : Prop := obsU ex fn K = valU fn
def obsUG (n : Nat) (ex : List (PySem.W.Frag → Bool)) (fn : List DefU) (g : Addr → Option Obj) : AlU := obsU ex fn (frG g (asD g n))
def hookU (n : Nat) (ex : List (PySem.W.Frag → Bool)) (fn : List DefU) : PySem.W.Hook where
  α := AlU
  obs := fun s => obsUG n ex fn s.heap.get?
  val := fun _ => valU fn
  says := fun _ h => ∃ K : PySem.W.Frag, K.In h ∧ SaysU ex fn K
  of := fun _ _ e => ⟨_, frG_in, e⟩
  keeps := fun _ _ _ ⟨K, hK, c⟩ k => ⟨K, PySem.W.Frag.In.keeps hK k, c⟩
theorem obsUG_eq {n : Nat} {ex : List (PySem.W.Frag → Bool)} {fn : List DefU} {g : Addr → Option Obj} {s : Shared} (h : ∀ a, g a = s.heap.get? a) : obsUG n ex fn g = (hookU n ex fn).obs s := by
  have e : g = s.heap.get? := funext h
  rw [e] <;> rfl
section
variable {ex : List (PySem.W.Frag → Bool)} {fn : List DefU} {K : PySem.W.Frag}
theorem SaysU.fact (c : SaysU ex fn K) (i : Nat) {f : PySem.W.Frag → Bool} (h : ex[i]? = some f := by rfl) : f K = true := by
  have c1 := (ba (show ((ex.all fun f => f K) && fn.all fun d => d.ok K) = true from congrArg (fun z : AlU => z.1) c)).1
  exact List.all_eq_true.mp c1 f (List.mem_of_getElem? h)
theorem SaysU.def_ (c : SaysU ex fn K) (i : Nat) {d : DefU} (h : fn[i]? = some d := by rfl) : ∃ fd, FunD K d.name d.qual (defArgs d.st) (defBody d.st) (defScope d.st) (d.dvs K) (d.kws K) (d.at_.a K) fd := by
  have c2 := (ba (show ((ex.all fun f => f K) && fn.all fun d => d.ok K) = true from congrArg (fun z : AlU => z.1) c)).2
  have e : fn.map (fun d => fnU K (d.at_.a K)) = fn.map DefU.val := congrArg (fun z : AlU => z.2) c
  have e2 : (fn.map fun d => fnU K (d.at_.a K))[i]? = (fn.map DefU.val)[i]? := by rw [e]
  rw [List.getElem?_map, List.getElem?_map, h] at e2
  exact DefU.funD (Option.some.inj e2) (List.all_eq_true.mp c2 d (List.mem_of_getElem? h))
end
/-! ### facts that can be decided -/
def bGlo (x : Str) : PySem.W.Frag → Bool := fun K => (He.Fa.glo x).ok K
def bFree (x : Str) : PySem.W.Frag → Bool := fun K => (He.Fa.free x).ok K
def bInt (x : Str) (i : Int) : PySem.W.Frag → Bool := fun K => (He.Fa.int x i).ok K
def bStr (x z : Str) : PySem.W.Frag → Bool := fun K => (He.Fa.str x z).ok K
def bCls (x : Str) : PySem.W.Frag → Bool := fun K => (He.Fa.cls x).ok K
def bNoat (x f : Str) : PySem.W.Frag → Bool := fun K => (He.Fa.noat x f).ok K
def bMeth (x m : Str) : PySem.W.Frag → Bool := fun K => (He.Fa.meth x m).ok K && PySem.W.fnIn K (ma K (ga K x) m)
def bMk (x : Str) : PySem.W.Frag → Bool := fun K => (He.Fa.mkr x).ok K
def bExm (x y : Str) (b : Bool) : PySem.W.Frag → Bool := fun K => (He.Fa.exm x y b).ok K
/-- a class's own place among the others, what isinstance asks of its instances -/
structure ClsI (K : PySem.W.Frag) (C : Addr) : Prop where
  cl : Cls K C
  sf : PySem.W.selfFirst K C = true
  nq : PySem.W.noSeq K C = true
  ha : PySem.W.findIn K (.ref C) "__class__" = some (some (.builtin "object.__class__"))
  hn : PySem.W.specialIn K (.builtin "object.__class__") "__get__" = some (some (.builtin "getset_descriptor.__get__"))
  htk : PySem.W.takesIn K (.builtin "object.__class__") = some true
  hm : PySem.W.mroIn K C (.type "object") = some true
  self : PySem.W.kitOne K (.ref C) (.ref C) = some true
  nf : PySem.W.notFirst K C (.ref C) = true
def bClsI (x : Str) : PySem.W.Frag → Bool := fun K => (He.Fa.cls x).ok K && (PySem.W.selfFirst K (ga K x) && (PySem.W.noSeq K (ga K x) && (decide (PySem.W.findIn K (.ref (ga K x)) "__class__" = some (some (.builtin "object.__class__"))) &&
  (decide (PySem.W.specialIn K (.builtin "object.__class__") "__get__" = some (some (.builtin "getset_descriptor.__get__"))) && (decide (PySem.W.takesIn K (.builtin "object.__class__") = some true) && (decide (PySem.W.mroIn K (ga K x) (.type "object") = some true) &&
  (decide (PySem.W.kitOne K (.ref (ga K x)) (.ref (ga K x)) = some true) && PySem.W.notFirst K (ga K x) (.ref (ga K x)))))))))
theorem clsI_ok {K : PySem.W.Frag} {x : Str} (c : bClsI x K = true) : ClsI K (ga K x) := by
  obtain ⟨c1, c⟩ := ba c
  obtain ⟨c2, c⟩ := ba c
  obtain ⟨c3, c⟩ := ba c
  obtain ⟨c4, c⟩ := ba c
  obtain ⟨c5, c⟩ := ba c
  obtain ⟨c6, c⟩ := ba c
  obtain ⟨c7, c⟩ := ba c
  obtain ⟨c8, c9⟩ := ba c
  exact ⟨He.cls_ok c1, c2, c3, of_decide_eq_true c4, of_decide_eq_true c5, of_decide_eq_true c6, of_decide_eq_true c7, of_decide_eq_true c8, c9⟩
theorem ClsI.ty {K : PySem.W.Frag} {C a dx : Addr} {fs : List (Str × V)} {H : Hp} (c : ClsI K C) (e : H a = some (.ins C dx fs)) : TyX K H (.ref a) (.ref C) := .base (.ins e c.cl c.ha c.hn c.htk c.hm)
/-- isinstance of what is not an instance of the class: a built-in type's own -/
def bKit (T x : Str) (b : Bool) : PySem.W.Frag → Bool := fun K => decide (PySem.W.kitOne K (.type T.toString) (.ref (ga K x)) = some b)
def bProp (C f : Str) : PySem.W.Frag → Bool := fun K => eqO (PySem.W.findIn K (.ref (ga K C)) f) (some (some (.ref (ma K (ga K C) f)))) && (eqO (PySem.W.specialIn K (.ref (ma K (ga K C) f)) "__get__") (some (some (.builtin "property.__get__"))) &&
  (decide (PySem.W.takesIn K (.ref (ma K (ga K C) f)) = some true) && (match PySem.W.recIn K (ma K (ga K C) f) "property" with
    | some (.ref g :: _) => true
    | _ => false)))
theorem prop_ok {K : PySem.W.Frag} {C f : Str} (c : bProp C f K = true) : PropOf K (ga K C) f (ma K (ga K C) f) (pAd K C f) := by
  obtain ⟨c1, c⟩ := ba c
  obtain ⟨c2, c⟩ := ba c
  obtain ⟨c3, c4⟩ := ba c
  refine ⟨eqO_ok c1, eqO_ok c2, of_decide_eq_true c3, ?_⟩
  unfold pAd
  split at c4
  · rename_i g r e
    rw [e]
    exact ⟨r, rfl⟩
  · cases c4
def bX (x : Str) : PySem.W.Frag → Bool := fun K => oexB K (ga K x) && (decide (PySem.W.findIn K (.ref (ga K x)) "__init__" = some (some (.ref (ma K (ga K x) "__init__")))) && (decide (PySem.W.typeIn K (.ref (ma K (ga K x) "__init__")) = some (.type "function")) && xfB K (ga K x)))
structure XC (K : PySem.W.Frag) (C fI : Addr) : Prop where
  x : XCls K C fI
  f : XfC K C
theorem x_ok {K : PySem.W.Frag} {x : Str} (c : bX x K = true) : XC K (ga K x) (ma K (ga K x) "__init__") := by
  obtain ⟨c1, c⟩ := ba c
  obtain ⟨c2, c⟩ := ba c
  obtain ⟨c3, c4⟩ := ba c
  exact ⟨⟨oexB_ok c1, of_decide_eq_true c2, of_decide_eq_true c3⟩, xfB_ok c4⟩
theorem meth_ok {K : PySem.W.Frag} {x m : Str} (c : bMeth x m K = true) : Meth K (ga K x) m (ma K (ga K x) m) ∧ PySem.W.fnIn K (ma K (ga K x) m) = true := ⟨He.meth_ok (ba c).1, (ba c).2⟩

/-! ### a def and its promise by its reading -/
section
variable {P : Program} {w : World} {K : PySem.W.Frag} {mg : Str → Option Value} {base : Heap}
theorem df_of {x qual : Str} {params : Arguments} {body : List Stmt} {scope : Scope} {N ps : List Str} {k : Nat} {sp : Sp} {f : Addr} {fd : FuncData} {t : XK → TS} (F : FunD K x qual params body scope [] [] f fd) (S : FnScope N ps scope)
    (len : ∀ vs H Q E, sp vs H Q E → vs.length = ps.length)
    (hb : ∀ (kV doc pm : Value) (an : Option Addr) (cdv ct : Value) (us : List Value), us.length = ps.length → bindArgs (PySem.W.fnOf x qual params body scope .none kV doc pm an cdv ct) ⟨us, []⟩ = pure (ps.zip us))
    (der : ∀ (cdv : Value) (A : Around) (outer : List Env) (s : Shared) (H : Hp) (E : XK), Room k (A.deeper (envOfC qual scope s.heap.objs.size f cdv)) → PSs (cxOf (L2.CX P w) P w K mg base N qual scope f cdv A outer s H E) body (t E))
    (pu : ∀ vs H Q E, sp vs H Q E → t E { nx := fun _ H' => Q .non H', rt := Q } (start N vs) H) : Df P w K mg base (k + 1) f ps sp [] := by
  refine ⟨⟨fd, [], F.ok S len (fun cdv A outer s H vs Q E hr hsp => ⟨t E, der cdv A outer s H E hr, pu vs H Q E hsp⟩), F.bindsN hb, .nil⟩, F.kp⟩
theorem fn_of {x qual : Str} {params : Arguments} {body : List Stmt} {scope : Scope} {N ps : List Str} {k : Nat} {sp : Sp} {f : Addr} {fd : FuncData} {t : XK → TS} (F : FunD K x qual params body scope [] [] f fd) (S : FnScope N ps scope)
    (len : ∀ vs H Q E, sp vs H Q E → vs.length = ps.length)
    (hb : ∀ (kV doc pm : Value) (an : Option Addr) (cdv ct : Value) (us : List Value), us.length = ps.length → bindArgs (PySem.W.fnOf x qual params body scope .none kV doc pm an cdv ct) ⟨us, []⟩ = pure (ps.zip us))
    (der : ∀ (cdv : Value) (A : Around) (outer : List Env) (s : Shared) (H : Hp) (E : XK), Room k (A.deeper (envOfC qual scope s.heap.objs.size f cdv)) → PSs (cxOf (L2.CX P w) P w K mg base N qual scope f cdv A outer s H E) body (t E))
    (pu : ∀ vs H Q E, sp vs H Q E → t E { nx := fun _ H' => Q .non H', rt := Q } (start N vs) H) : FnOk P w K mg base (L2.CX P w) (k + 1) f fd ps sp := by
  exact F.ok S len (fun cdv A outer s H vs Q E hr hsp => ⟨t E, der cdv A outer s H E hr, pu vs H Q E hsp⟩)
end
end
/-! ## U5 -/
section

/-! ### named readings of built-in calls -/
def rInt1 : List V → Hp → VK → Prop := fun xs H Q => (∃ i, xs = [.int i] ∧ Q (.int i) H) ∨ ∃ k, xs = [.bl k] ∧ Q (.int (if k then 1 else 0)) H
def rAbs : List V → Hp → VK → Prop := fun xs H Q => ∃ i, xs = [.int i] ∧ Q (.int (if i < 0 then -i else i)) H
def rTupOf (K : PySem.W.Frag) : List V → Hp → VK → Prop := fun xs H Q => ∃ p ys, xs = [.ref p] ∧ ((SqL K H p ys ∧ newT H ys Q) ∨ (SqT K H p ys ∧ Q (.ref p) H))
def rListOf (K : PySem.W.Frag) : List V → Hp → VK → Prop := fun xs H Q => ∃ p ys, xs = [.ref p] ∧ (SqL K H p ys ∨ SqT K H p ys) ∧ ∀ l, H l = none → Q (.ref l) (upd H l (.lst ys))
def rStrOf : List V → Hp → VK → Prop := fun xs H Q => (∃ i, xs = [.int i] ∧ i.natAbs.log2 < 1920 ∧ Q (.str (toString i)) H) ∨ ∃ a, xs = [.str a] ∧ Q (.str a) H
def rMax2 : List V → Hp → VK → Prop := fun xs H Q => ∃ i j, xs = [.int i, .int j] ∧ Q (.int (if j > i then j else i)) H
def rMin2 : List V → Hp → VK → Prop := fun xs H Q => ∃ i j, xs = [.int i, .int j] ∧ Q (.int (if j < i then j else i)) H
section
variable {X : Cx}
theorem c_int : CallR X (.type "int") rInt1 := call_int1
theorem c_abs : CallR X (.builtin "abs") rAbs := call_abs
theorem c_tuple : CallR X (.type "tuple") (rTupOf X.K) := by
  intro pins s σ H xs us Q I r h
  obtain ⟨p, ys, rfl, h⟩ := h
  obtain ⟨u, rfl, rx⟩ := vals1 r
  cases rx
  rcases h with ⟨hq, q⟩ | ⟨hq, q⟩
  · obtain ⟨its, r', pl, hz⟩ := I.list hq
    have hlen := r'.length
    exact call_tuple_list pl.isList (fun h' kp => newT_laid (t' := s.toks) (I.kept (h' := h') (t' := s.toks) kp) hz r' q) (by simp only [List.size_toArray] <;> omega)
  · obtain ⟨its, r', pl, hz⟩ := I.tuple hq
    exact call_tuple_same pl ⟨.ref p, H, I, rfl, q⟩
theorem c_list : CallR X (.type "list") (rListOf X.K) := call_list_of
theorem c_str : CallR X (.type "str") rStrOf := CallR.or call_str_int SkE.call_str_str
theorem c_max2 (hc : X.calm = true) : CallR X (.builtin "max") rMax2 := call_max2 hc
theorem c_min2 (hc : X.calm = true) : CallR X (.builtin "min") rMin2 := call_min2 hc
end

/-- a module's constant -/
theorem pe_gcU {X : Cx} {x : Str} {v : V} {pos : Pos} (hg : Gl X x) (h : ∃ u, X.mg x = some u ∧ RelV v u) (hd : (x == ("__debug__" : Str)) = false := by decide) : PE X (.Name x pos) (tC v) := by
  obtain ⟨u, hm, r⟩ := h
  exact pe_glob hg hm r hd
/-! ### a list or a tuple that is walked -/
def iSeq (K : PySem.W.Frag) (tl : TE) : TI := fun σ H R => tl σ H fun x H1 => (∃ a, x = .ref a ∧ (∃ xs, SqL K H1 a xs) ∧ R (Itl K a) H1) ∨ ∃ a, x = .ref a ∧ (∃ xs, SqT K H1 a xs) ∧ R (Itt K a) H1
theorem pi_seq {X : Cx} {tg l : Expr} {tl : TE} (hl : PE X l tl) : PI X tg l (iSeq X.K tl) := by
  refine ⟨fun pins s σ H R I h => ?_⟩
  refine thn (hl.run pins s σ H _ I h) fun v s1 ⟨x, H1, I1, r1, q1⟩ => ?_
  have fp : ∀ {H2 : Hp} {s2 : Shared}, Inv X pins σ H2 s2 → ∀ b ∈ [s2.heap.objs.size], FpOk X pins H2 b := fun J b hb => by
    have e := List.mem_singleton.mp hb
    subst e
    exact J.fpOk (Nat.le_refl _) (J.hok.fresh (Nat.le_refl _))
  rcases q1 with ⟨a, e, ⟨xs, hq⟩, q⟩ | ⟨a, e, ⟨xs, hq⟩, q⟩
  · subst e
    cases r1
    obtain ⟨its, rv, p, hz⟩ := I1.list hq
    exact wpAny_pyIter_list p.isList ⟨s1.heap.objs.size, [s1.heap.objs.size], _, _, H1, rfl, I1.kept (t' := s1.toks) fun b o e => Heap.get?_push_of_some _ e, turn_list a _, ⟨_, Heap.get?_push_size _ rfl, rfl, rfl⟩, fp I1, q⟩
  · subst e
    cases r1
    obtain ⟨its, rv, p, hz⟩ := I1.tuple hq
    exact wpAny_pyIter_tuple (show s1.heap.IsTuple a its.toArray from p) ⟨s1.heap.objs.size, [s1.heap.objs.size], _, _, H1, rfl, I1.kept (t' := s1.toks) fun b o e => Heap.get?_push_of_some _ e, turn_tuple a _, ⟨_, Heap.get?_push_size _ rfl, rfl, rfl⟩, fp I1, q⟩
end
/-! ## U6 -/
section

/-! ### t.index(x), t a tuple of texts whose object is told -/
def tTix (K : PySem.W.Frag) (to te : TE) : TE := fun σ H Q => to σ H fun x H1 => ∃ p ob, x = .ref p ∧ (∃ ws, H1 p = some (.frz ob (.tup ws))) ∧ ob.dict = none ∧ te σ H1 fun y H2 => ∃ (ys : List Str) (z : Str) (j : Nat), y = .str z ∧ SqT K H2 p (ys.map V.str) ∧ ys[j]? = some z ∧ (∀ m, m < j → ys[m]? ≠ some z) ∧ Q (.int (j : Nat)) H2
theorem pe_tix {X : Cx} {o e : Expr} {to te : TE} {apos cpos : Pos} (ho : PE X o to) (he : PE X e te)
    (hbase : attributeBase o "index" X.env (eval o X.env) = eval o X.env := by rfl)
    (hfew : ((backTo cpos (starEach [e] X.env)).all (fun x => !x.1) && (backToKw cpos (keywordEach [] X.env)).all (fun x => x.1.isSome) && decide ([e].length + ([] : List Keyword).length + (if ([] : List Keyword).isEmpty then 0 else 1) < 30)) = true := by rfl)
    (hline : (apos.endLine == cpos.line) = true := by rfl) (hs : starEach [e] X.env = (false, eval e X.env) :: starEach [] X.env := by rfl) (hplain : (backTo cpos (starEach [] X.env)).any (·.1) = false := by rfl) :
    PE X (.Call (.Attribute o "index" apos) [e] [] cpos) (tTix X.K to te) := by
  refine ⟨fun pins s σ H Q I h => ?_⟩
  refine wpAny_Call_method_late hbase hfew hline rfl (thn (ho.run pins s σ H _ I h) fun v s1 ⟨x, H1, I1, r1, p, ob, ex, ⟨ws, hp⟩, hd, q1⟩ => ?_)
  subst ex
  cases r1
  have hk : ObjOk X.prog X.w H1 s1.heap p (.frz ob (.tup ws)) := I1.hok p _ hp
  obtain ⟨g1, _, its, r, o', g2, hc, _⟩ := hk
  rw [g1] at g2
  cases g2
  refine ⟨"tuple", "tuple.index", PySem.F.plainAttrs_tuple, PySem.F.slot_tuple_index, PySem.F.type_tuple_index, ⟨ob, g1, hc⟩, fun a e => by cases e; exact ⟨ob, g1, hd⟩, ?_⟩
  have hA := (pa_cons (pe_me he) pa_nil hs).run cpos pins s1 σ H1 (fun vs H2 => ∃ (ys : List Str) (z : Str) (j : Nat), vs = [.str z] ∧ SqT X.K H2 p (ys.map V.str) ∧ ys[j]? = some z ∧ (∀ m, m < j → ys[m]? ≠ some z) ∧ Q (.int (j : Nat)) H2) I1
    ⟨_, q1, fun y H2 ⟨ys, z, j, ey, q2⟩ => ⟨ys, z, j, by rw [ey], q2⟩⟩
  rw [hs] at hA ⊢
  refine Calls.callWith_builtin (by show (false || (backTo cpos (starEach [] X.env)).any (·.1)) = false; rw [hplain] <;> rfl) (Calls.evalArgs_plain ?_)
  exact thn hA fun us s2 ⟨vs, H2, I2, r2, ys, z, j, ev, hq, hy, hno, q2⟩ => mt_tup_index pins s2 σ H2 (.ref p) vs (.ref p) us Q I2 rfl r2 ⟨p, ys, z, j, rfl, ev, hq, hy, hno, q2⟩

/-! ### tuple * int -/
theorem tuple_mul_same (l : Addr) (items : Array Value) (n : Nat) (dd : Option Addr) (sl : Array (Option Value)) (x : Int) (u : Tok) (c0 : (decide (x < -(2 ^ 63)) || decide (x ≥ 2 ^ 63)) = false) (c1 : (items.isEmpty || x == 1) = true) :
    Meets (Builtin.«tuple.__mul__» ⟨[.ref l, .int x u], []⟩) (fun _ R s => s.heap.get? l = some { cls := .type "tuple", dict := dd, data := .seq items n, slots := sl } ∧ R (.ok (.ret (Value.ref l))) s) :=
  .of_wp fun prog w A R s h => by
    obtain ⟨hp, g, d, tk, os⟩ := s
    obtain ⟨hl, h⟩ := h
    have f1 := AutoSeq1.idx_int
    wp_walk using wpAny_loadPart' hl
    repeat (first
      | (refine wpAny_ite_false (decide_eq_false (by rw [c0]; exact Bool.false_ne_true)) ?_; wp_walk using wpAny_loadPart' hl)
      | (refine wpAny_ite_true (decide_eq_true c1) ?_; wp_walk using wpAny_loadPart' hl))
    exact ⟨_, rfl, h⟩
theorem tuple_mul_none (l : Addr) (items : Array Value) (n : Nat) (dd : Option Addr) (sl : Array (Option Value)) (x : Int) (u : Tok) (c0 : (decide (x < -(2 ^ 63)) || decide (x ≥ 2 ^ 63)) = false) (c1 : (items.isEmpty || x == 1) = false) (c2 : (decide (x ≤ 0) || items.isEmpty) = true) :
    Meets (Builtin.«tuple.__mul__» ⟨[.ref l, .int x u], []⟩) (fun _ R s => s.heap.get? l = some { cls := .type "tuple", dict := dd, data := .seq items n, slots := sl } ∧
      R (.ok (.ret (Value.ref s.heap.objs.size))) { s with heap := s.heap.push { cls := Value.type "tuple", data := Data.seq #[] }, toks := s.toks }) :=
  .of_wp fun prog w A R s h => by
    obtain ⟨hp, g, d, tk, os⟩ := s
    obtain ⟨hl, h⟩ := h
    have f1 := AutoSeq1.idx_int
    wp_walk using wpAny_loadPart' hl
    repeat (first
      | (refine wpAny_ite_false (decide_eq_false (by rw [c0]; exact Bool.false_ne_true)) ?_; wp_walk using wpAny_loadPart' hl)
      | (refine wpAny_ite_false (decide_eq_false (by rw [c1]; exact Bool.false_ne_true)) ?_; wp_walk using wpAny_loadPart' hl)
      | (refine wpAny_ite_true (decide_eq_true c2) ?_; wp_walk using wpAny_loadPart' hl))
    exact ⟨_, rfl, h⟩
def rMulT (K : PySem.W.Frag) : R2 := fun x y H Q => ∃ l k xs, x = .ref l ∧ y = .int k ∧ SqT K H l xs ∧ xs.length ≤ 1000 ∧ -1000 ≤ k ∧ k ≤ 1000 ∧ ((xs = [] ∨ k = 1) → Q (.ref l) H) ∧ (xs ≠ [] → k ≠ 1 → newT H (List.replicate k.toNat xs).flatten Q)
theorem op_mulT {X : Cx} : OpR X (binaryOp .Mult) (rMulT X.K) := by
  intro pins s σ H x y v u Q I rx ry h
  obtain ⟨l, k, xs, rfl, rfl, hT, hz, h1, h2, q1, q2⟩ := h
  cases rx
  obtain ⟨t, rfl⟩ := ry
  obtain ⟨its, r, ⟨⟨cls, dd, data, sl⟩, ho, hc, n, hd⟩, hs⟩ := I.tuple hT
  simp only at hc hd
  subst hc hd
  have hle : its.length = xs.length := r.length.symm
  have hie : its.toArray.isEmpty = decide (xs = []) := by
    cases r with
    | nil => rfl
    | cons _ _ => rfl
  have c0 : (decide (k < -(2 ^ 63)) || decide (k ≥ 2 ^ 63)) = false := by
    rw [decide_eq_false (by omega), decide_eq_false (by omega)] <;> rfl
  by_cases hsame : xs = [] ∨ k = 1
  · have c1 : (its.toArray.isEmpty || k == 1) = true := by
      rw [hie]
      rcases hsame with e | e
      · rw [decide_eq_true e]; rfl
      · rw [e]; simp
    refine wpAny_binaryOp_repeat_ref (T := "tuple") (U := "int") (by decide) ⟨_, ho, rfl⟩ (fun s' => typeIs_int s' k t) noFill_tuple_mul F.fills_int_mul F.slot_int_rmul repeat_tuple F.slot_int_index.lookup
      (call_meets F.slot_int_rmul (typeIs_int s k t) F.entry_int_rmul (F.args_int_rmul_2 _ _) (int_rmul_tuple k t l its.toArray n dd sl)
        ⟨ho, rfl, ⟨_, ho, rfl⟩, call_meets F.slot_tuple_mul ⟨_, ho, rfl⟩ F.entry_tuple_mul (F.args_tuple_mul_2 _ _) (tuple_mul_same l its.toArray n dd sl k t c0 c1) ⟨ho, ?_⟩⟩)
    exact ⟨.ref l, H, I, rfl, q1 hsame⟩
  · have hx : xs ≠ [] := fun e => hsame (.inl e)
    have hk : k ≠ 1 := fun e => hsame (.inr e)
    have c1 : (its.toArray.isEmpty || k == 1) = false := by
      rw [hie, decide_eq_false hx, Bool.false_or]
      exact beq_eq_false_iff_ne.mpr hk
    by_cases hneg : k ≤ 0
    · have c2 : (decide (k ≤ 0) || its.toArray.isEmpty) = true := by rw [decide_eq_true hneg]; rfl
      refine wpAny_binaryOp_repeat_ref (T := "tuple") (U := "int") (by decide) ⟨_, ho, rfl⟩ (fun s' => typeIs_int s' k t) noFill_tuple_mul F.fills_int_mul F.slot_int_rmul repeat_tuple F.slot_int_index.lookup
        (call_meets F.slot_int_rmul (typeIs_int s k t) F.entry_int_rmul (F.args_int_rmul_2 _ _) (int_rmul_tuple k t l its.toArray n dd sl)
          ⟨ho, rfl, ⟨_, ho, rfl⟩, call_meets F.slot_tuple_mul ⟨_, ho, rfl⟩ F.entry_tuple_mul (F.args_tuple_mul_2 _ _) (tuple_mul_none l its.toArray n dd sl k t c0 c1 c2) ⟨ho, ?_⟩⟩)
      have e0 : (List.replicate k.toNat xs).flatten = [] := by
        have : k.toNat = 0 := by omega
        rw [this]; rfl
      exact newT_laid (t' := s.toks) (its := []) I (Nat.zero_le _) .nil (by rw [← e0]; exact q2 hx hk)
    · have hlen : (List.replicate k.toNat its).flatten.length ≤ 1000000 := by
        rw [PyProof.Rows.lm_len_rep_flat, hle]
        have a1 : k.toNat * xs.length ≤ 1000 * 1000 := Nat.mul_le_mul (by omega) hz
        omega
      have hm : ((its.toArray.size : Nat) : Int) * k ≤ 1000000 := by
        rw [List.size_toArray, hle]
        have a1 : ((xs.length : Nat) : Int) * k ≤ 1000 * k := Int.mul_le_mul_of_nonneg_right (by omega) (by omega)
        omega
      have c2 : (decide (k ≤ 0) || its.toArray.isEmpty) = false := by
        rw [hie, decide_eq_false hx, Bool.or_false]
        exact decide_eq_false (by omega)
      have c4 : Builtin.Tuple.tupleTooMany (((its.toArray.size : Nat) : Int) * k) = false := by
        unfold Builtin.Tuple.tupleTooMany
        rw [sizeLine_eq]
        exact decide_eq_false (by omega)
      have c5 : (List.foldl (fun x1 x2 => x1 ++ x2) #[] (List.replicate k.toNat its.toArray)).size ≤ sizeLine := by
        rw [size_rep, List.size_toArray, sizeLine_eq]
        omega
      refine wpAny_binaryOp_repeat_ref (T := "tuple") (U := "int") (by decide) ⟨_, ho, rfl⟩ (fun s' => typeIs_int s' k t) noFill_tuple_mul F.fills_int_mul F.slot_int_rmul repeat_tuple F.slot_int_index.lookup
        (call_meets F.slot_int_rmul (typeIs_int s k t) F.entry_int_rmul (F.args_int_rmul_2 _ _) (int_rmul_tuple k t l its.toArray n dd sl)
          ⟨ho, rfl, ⟨_, ho, rfl⟩, call_meets F.slot_tuple_mul ⟨_, ho, rfl⟩ F.entry_tuple_mul (F.args_tuple_mul_2 _ _) (tuple_mulW l its.toArray n dd sl k t c0 c1 c2 (by omega) c4 c5) ⟨ho, ?_⟩⟩)
      rw [size_rep]
      have hz2 : (List.replicate k.toNat xs).flatten.length ≤ sizeLine := by
        rw [PyProof.Rows.lm_len_rep_flat, sizeLine_eq]
        have a1 : k.toNat * xs.length ≤ 1000 * 1000 := Nat.mul_le_mul (by omega) hz
        omega
      exact newT_laid (t' := s.toks) I hz2 (r.rep k.toNat) (q2 hx hk)

/-! ### an own instance and something of a built-in type -/
structure BinT (K : PySem.W.Frag) (C : Addr) (nm T : String) : Prop where
  fo : ∃ fo, PySem.W.findIn K (.type T) (PySem.dunder nm) = some fo
  ro : ∃ ro, PySem.W.findIn K (.type T) (dunderR nm) = some ro
  s1 : PySem.W.subIn K (.type T) (.ref C) = some false
  s2 : PySem.W.subIn K (.ref C) (.type T) = some false
def bBinT (x : Str) (nm T : String) : PySem.W.Frag → Bool := fun K => (PySem.W.findIn K (.type T) (PySem.dunder nm)).isSome && ((PySem.W.findIn K (.type T) (dunderR nm)).isSome && (decide (PySem.W.subIn K (.type T) (.ref (He.ga K x)) = some false) && decide (PySem.W.subIn K (.ref (He.ga K x)) (.type T) = some false)))
theorem binT_ok {K : PySem.W.Frag} {x : Str} {nm T : String} (c : bBinT x nm T K = true) : BinT K (He.ga K x) nm T := by
  obtain ⟨c1, c⟩ := He.ba c
  obtain ⟨c2, c⟩ := He.ba c
  obtain ⟨c3, c4⟩ := He.ba c
  exact ⟨Option.isSome_iff_exists.mp c1, Option.isSome_iff_exists.mp c2, of_decide_eq_true c3, of_decide_eq_true c4⟩
section
variable {prog : Program} {w : World} {A : Around} {E : Value → Shared → Prop} {s : Shared} {K : PySem.W.Frag} {x C f g : Addr} {ox : Obj} {od : Option Obj} {T : String} {b : Value}
open PySem.W in
theorem binop_left {op : Operator} {Q : Value → Shared → Prop} (X : K.In s.heap) (I : InstAt s.heap x ox C od) (hb : Looks (model prog w) s.heap (typeOf b) (.type T)) (hc : selfFirst K C = true)
    (hs : findIn K (.ref C) (PySem.dunder op.info.2) = some (some (.ref f))) (hf : isFn K (.ref f) = true) (hr : findIn K (.ref C) (dunderR op.info.2) = some (some (.ref g))) (B : BinT K C op.info.2 T)
    (h : wpAny (model prog w) A (call (.ref f) [.ref x, b]) (PySem.W.CmpBack Q) E s) : wpAny (model prog w) A (binaryOp op (.ref x) b) Q E s := by
  obtain ⟨cd, rest, hcd, hm⟩ := ksp_first hc
  obtain ⟨fo, h1⟩ := B.fo
  obtain ⟨ro, h2⟩ := B.ro
  have hsub := B.s1
  rcases hi : op.info with ⟨sym, nm'⟩
  rw [hi] at hs hr h1 h2
  dsimp only at hs hr h1 h2
  have one := ksp_try X I hs hf h
  obtain ⟨hh, g', d, tt, os⟩ := s
  have L1 : Looks (model prog w) hh (typeOf (.ref x)) (.ref C) := I.type
  have L2' : Looks (model prog w) hh (typeOf b) (.type T) := hb
  have L3 : Looks (model prog w) hh (fillsNumberSlot (.ref C) nm') true := fills_K X hcd hm hs
  have L4 : Looks (model prog w) hh (fillsNumberSlot (.type T) nm') ((fo.isSome && !isSeqSlot fo) || (ro.isSome && !isSeqSlot ro)) := ksp_fillsT X h1 h2
  have L5 : Looks (model prog w) hh (isSubtype (.type T) (.ref C)) false := looks_subIn X hsub
  have L6 : Looks (model prog w) hh (numberSlotInPython (.ref C) nm') true := ksp_inPy X hs hr (.inr ⟨g, rfl⟩)
  have L7 : Looks (model prog w) hh (numberSlotInPython (.type T) nm') false := Looks.of_pure rfl
  have L8 : Looks (model prog w) hh (typeLookup (.type T) (dunderR nm')) ro := looks_findIn X h2
  generalize ((fo.isSome && !isSeqSlot fo) || (ro.isSome && !isSeqSlot ro)) = right at L4
  have hne : (Value.ref C == Value.type T) = false := Bool.eq_false_iff.mpr fun q => by cases beq_iff_eq.mp q
  simp only [binaryOp, hi]
  refine wpAny_holding (wpAny_bind ?_)
  unfold binaryOp1
  refine wpAny_bind (L1.at (wpAny_bind (L2'.at (wpAny_bind (L3.at ?_)))))
  simp only [hne, Bool.false_eq_true, if_false]
  cases right with
  | false =>
    ksp_lk
    refine wpAny_mono one (fun r s' hr' => ?_) fun _ _ e => e
    obtain ⟨v, rfl, hq⟩ := hr'
    ksp_lk
    exact hq
  | true =>
    ksp_lk
    refine wpAny_mono one (fun r s' hr' => ?_) fun _ _ e => e
    obtain ⟨v, rfl, hq⟩ := hr'
    ksp_lk
    exact hq
theorem int_mul_inst (a : Int) (t : Tok) (dx : Addr) :
    Meets (Builtin.«int.__mul__» ⟨[.int a t, .ref x], []⟩) (fun _ R s => s.heap.get? x = some (PySem.W.instObj C dx) ∧ R (.ok (.ret Value.notImplemented)) s) :=
  .of_wp fun prog w A R s h => by obtain ⟨hp, g, d, tk, os⟩ := s; obtain ⟨hl, h⟩ := h; wp_walk using wpAny_loadPart' hl; exact ⟨_, rfl, h⟩
theorem bool_mul_inst (a : Bool) (dx : Addr) :
    Meets (Builtin.«int.__mul__» ⟨[.bool a, .ref x], []⟩) (fun _ R s => s.heap.get? x = some (PySem.W.instObj C dx) ∧ R (.ok (.ret Value.notImplemented)) s) :=
  .of_wp fun prog w A R s h => by obtain ⟨hp, g, d, tk, os⟩ := s; obtain ⟨hl, h⟩ := h; wp_walk using wpAny_loadPart' hl; exact ⟨_, rfl, h⟩
open PySem.W in
/-- the left operand's type does not fill the slot, or its method declines: the right one's reflected method -/
theorem binop_right {op : Operator} {Q : Value → Shared → Prop} (X : K.In s.heap) (I : InstAt s.heap x ox C od) (hb : Looks (model prog w) s.heap (typeOf b) (.type T)) (hc : selfFirst K C = true)
    (hs : findIn K (.ref C) (PySem.dunder op.info.2) = some (some (.ref g))) (hr : findIn K (.ref C) (dunderR op.info.2) = some (some (.ref f))) (hf : isFn K (.ref f) = true) (B : BinT K C op.info.2 T)
    {bb : Bool} (hfl : fillsNumberSlot (.type T) op.info.2 = pure bb) (hd : bb = true → wpAny (model prog w) A (tryMethod b (PySem.dunder op.info.2) (.ref x)) (fun r s' => r = none ∧ s' = s) E s)
    (h : wpAny (model prog w) A (call (.ref f) [.ref x, b]) (PySem.W.CmpBack Q) E s) : wpAny (model prog w) A (binaryOp op b (.ref x)) Q E s := by
  obtain ⟨cd, rest, hcd, hm⟩ := ksp_first hc
  have hsub := B.s2
  rcases hi : op.info with ⟨sym, nm'⟩
  rw [hi] at hs hr hd hfl
  dsimp only at hs hr hd hfl
  have one := ksp_try X I hr hf h
  have hne : (Value.type T == Value.ref C) = false := Bool.eq_false_iff.mpr fun q => by cases beq_iff_eq.mp q
  have L3 : Looks (model prog w) s.heap (fillsNumberSlot (.ref C) nm') true := fills_K X hcd hm hs
  have L5 : Looks (model prog w) s.heap (isSubtype (.ref C) (.type T)) false := looks_subIn X hsub
  simp only [binaryOp, hi]
  refine wpAny_holding (wpAny_bind ?_)
  unfold binaryOp1
  refine wpAny_bind (hb.here (wpAny_bind (I.type.here ?_)))
  rw [hfl]
  simp only [hne, Bool.false_eq_true, if_false, pure_bind]
  refine wpAny_bind (L3.here ?_)
  cases bb with
  | false =>
    simp
    refine wpAny_bind (wpAny_mono one (fun r s' hr' => ?_) fun _ _ e => e)
    obtain ⟨v, rfl, hq⟩ := hr'
    simp only [map_eq_pure_bind]
    exact wpAny_bind (wpAny_rule (wpAny_pure (wpAny_pure hq)))
  | true =>
    simp
    refine wpAny_bind (L5.here ?_)
    simp
    have L7 : Looks (model prog w) s.heap (numberSlotInPython (.type T) nm') false := Looks.of_pure rfl
    refine wpAny_bind (L7.here ?_)
    simp
    refine wpAny_bind (wpAny_mono (hd rfl) (fun r s' hr' => ?_) fun _ _ e => e)
    obtain ⟨rfl, rfl⟩ := hr'
    simp
    refine wpAny_bind (wpAny_mono one (fun r s' hr' => ?_) fun _ _ e => e)
    obtain ⟨v, rfl, hq⟩ := hr'
    simp only [map_eq_pure_bind]
    exact wpAny_bind (wpAny_rule (wpAny_pure (wpAny_pure hq)))
end
theorem noFill_none_mul : fillsNumberSlot (.type "NoneType") "mul" = pure false := by
  have h1 : typeLookup (.type "NoneType") (PySem.dunder "mul") = pure none := by rw [typeLookup_type, builtinLookup_eq_fast]; kernel_rfl
  have h2 : typeLookup (.type "NoneType") (dunderR "mul") = pure none := by rw [typeLookup_type, builtinLookup_eq_fast]; kernel_rfl
  simp only [fillsNumberSlot, h1, h2, pure_bind]
  rfl
/-- what may stand left of an own instance in a product -/
def MulL (x : V) (T : String) : Prop := (∃ i, x = .int i ∧ T = "int") ∨ (∃ b, x = .bl b ∧ T = "bool") ∨ fillsNumberSlot (.type T) "mul" = pure false
def tBinL (K : PySem.W.Frag) (C : Addr) (nm : String) (sp : Sp) (W : WX) (ta tb : TE) : TE := fun σ H Q => ta σ H fun x H1 => tb σ H1 fun y H2 => ∃ a dx fs T, x = .ref a ∧ H2 a = some (.ins C dx fs) ∧ TyX K H2 y (.type T) ∧ BinT K C nm T ∧ sp [x, y] H2 Q (WE W σ)
def tMulR (K : PySem.W.Frag) (C : Addr) (sp : Sp) (W : WX) (ta tb : TE) : TE := fun σ H Q => ta σ H fun x H1 => tb σ H1 fun y H2 => ∃ a dx fs T, y = .ref a ∧ H2 a = some (.ins C dx fs) ∧ TyX K H2 x (.type T) ∧ BinT K C "mul" T ∧ MulL x T ∧ sp [y, x] H2 Q (WE W σ)
section
variable {X : Cx} {W : WX} {k j : Nat} {f g C : Addr} {ps : List Str} {sp : Sp} {pos : Pos} {a b : Expr} {ta tb : TE}
theorem pe_binL {op : Operator} {m r : Str} {nm : String} (en : op.info.2 = nm) (em : PySem.dunder nm = m) (er : dunderR nm = r) (hc : PySem.W.selfFirst X.K C = true) (hm : Meth X.K C m f) (hm2 : Meth X.K C r g) (D : DfX X k f ps sp []) (hr : Room j X.A) (tk : Takes X W) (ha : PE X a ta) (hb : PE X b tb) (hk : k ≤ j := by decide) :
    PE X (.BinOp a op b pos) (tBinL X.K C nm sp W ta tb) := by
  refine ⟨fun pins s σ H Q I h => ?_⟩
  refine wpAny_BinOp (binT ha hb I h fun v u s2 x y H2 I2 rx ry q => ?_)
  obtain ⟨a, dx, fs, T, ex, ea, ty, B, q⟩ := q
  subst ex
  subst en
  subst em
  subst er
  cases rx
  obtain ⟨od, J⟩ := inst_at I2 ea
  refine binop_left (op := op) I2.kIn J (ty_looks I2 ry ty) hc hm.at_ hm.fn hm2.at_ B ?_
  refine wpAny_mono (runW (us := [.ref a, u]) (vs := [.ref a, y]) D (hr.mono hk) tk I2 (.cons rfl (.cons ry .nil)) q) (fun w s' z => ?_) fun _ _ x => x
  obtain ⟨z', H', I', rz, qz⟩ := z
  exact SlX.cmpback rz ⟨z', H', I', rz, qz⟩
theorem pe_mulR (hc : PySem.W.selfFirst X.K C = true) (hm : Meth X.K C "__rmul__" f) (hm2 : Meth X.K C "__mul__" g) (D : DfX X k f ps sp []) (hr : Room j X.A) (tk : Takes X W) (ha : PE X a ta) (hb : PE X b tb) (hk : k ≤ j := by decide) :
    PE X (.BinOp a .Mult b pos) (tMulR X.K C sp W ta tb) := by
  refine ⟨fun pins s σ H Q I h => ?_⟩
  refine wpAny_BinOp (binT ha hb I h fun v u s2 x y H2 I2 rx ry q => ?_)
  obtain ⟨a, dx, fs, T, ey, ea, ty, B, ml, q⟩ := q
  subst ey
  cases ry
  obtain ⟨od, J⟩ := inst_at I2 ea
  have fin : wpAny (model X.prog X.w) X.A (call (.ref f) [.ref a, v]) (PySem.W.CmpBack (EP X pins σ Q)) X.xe s2 := by
    refine wpAny_mono (runW (us := [.ref a, v]) (vs := [.ref a, x]) D (hr.mono hk) tk I2 (.cons rfl (.cons rx .nil)) q) (fun w s' z => ?_) fun _ _ x => x
    obtain ⟨z', H', I', rz, qz⟩ := z
    exact SlX.cmpback rz ⟨z', H', I', rz, qz⟩
  have L := ty_looks I2 rx ty
  rcases ml with ⟨i, rfl, rfl⟩ | ⟨c, rfl, rfl⟩ | hno
  · obtain ⟨t, rfl⟩ := rx
    exact binop_right (op := .Mult) I2.kIn J L hc hm2.at_ hm.at_ hm.fn B F.fills_int_mul (fun _ =>
      wpAny_tryMethod_declines (typeIs_int _ _ _) F.slot_int_mul (call_meets F.slot_int_mul (typeIs_int _ i t) F.entry_int_mul (F.args_int_mul_2 _ _) (int_mul_inst i t dx) ⟨J.at_, rfl, rfl, rfl⟩)) fin
  · cases rx
    exact binop_right (op := .Mult) I2.kIn J L hc hm2.at_ hm.at_ hm.fn B F.fills_bool_mul (fun _ =>
      wpAny_tryMethod_declines (PySem.typeIs_bool _ _) F.slot_bool_mul (call_meets F.slot_bool_mul (PySem.typeIs_bool _ c) F.entry_int_mul (F.args_int_mul_2 _ _) (bool_mul_inst c dx) ⟨J.at_, rfl, rfl, rfl⟩)) fin
  · exact binop_right (op := .Mult) I2.kIn J L hc hm2.at_ hm.at_ hm.fn B hno (fun z => Bool.noConfusion z) fin
end
/-! ### a * b, tuples too -/
def oMulA (K : PySem.W.Frag) : R2 := fun x y H Q => rMulI x y H Q ∨ rRep x y H Q ∨ rMulT K x y H Q
theorem op_mulA {X : Cx} : OpR X (binaryOp .Mult) (oMulA X.K) := OpR.or op_mul (OpR.or op_rep op_mulT)
end
/-! ## U7 -/
section

/-! ### enumerate(v) -/
theorem meets_enum1 {v : Value} {o : Obj} {H : Heap → Prop} (B : Begins v o H) :
    Meets (Builtin.«enumerate.__new__» ⟨[.type "enumerate", v], []⟩) (fun _ R s => H s.heap ∧
      R (.ok (.ret (.ref (s.heap.push o).objs.size))) { s with heap := (s.heap.push o).push { cls := .type "enumerate", data := .fields #[.none, .bool false, .ref s.heap.objs.size, rawInt 0, .none, .none] } }) :=
  .of_wp fun prog w A R s h => by
    obtain ⟨hp, g, d, tk, os⟩ := s; obtain ⟨h1, h⟩ := h
    have hsub := sub_enumerate
    have q1 : ∀ {A' : Around} {E : Value → Shared → Prop} {Q : Value → Shared → Prop}, Q (.ref hp.objs.size) ⟨hp.push o, g, d, tk, os⟩ → wpAny (model prog w) A' (pyIter v) Q E ⟨hp, g, d, tk, os⟩ :=
      fun q => B.iter prog w _ _ ⟨hp, g, d, tk, os⟩ _ h1 q
    wp_walk using q1
    refine wpAny_stack_any fun st => wpAny_pure ?_
    split
    · rename_i c _ _ _ _ _
      cases (c == Value.type "enumerate")
      · wp_walk using q1
        exact ⟨_, rfl, h⟩
      · wp_walk using q1
        exact ⟨_, rfl, h⟩
    · wp_walk using q1
      exact ⟨_, rfl, h⟩
theorem enum_begins1 {prog : Program} {w : World} {A : Around} {E : Value → Shared → Prop} {s : Shared} {v : Value} {o : Obj} {H : Heap → Prop} {Q : Value → Shared → Prop} (B : Begins v o H) (h1 : H s.heap)
    (h : ∀ h', IsEnum h' (s.heap.objs.size + 1) s.heap.objs.size 0 .none → h'.get? s.heap.objs.size = some o → h'.objs.size = s.heap.objs.size + 2 →
      (∀ b o, s.heap.get? b = some o → h'.get? b = some o) → Q (.ref (s.heap.objs.size + 1)) { s with heap := h' }) :
    wpAny (model prog w) A (call (.type "enumerate") [v]) Q E s := by
  refine callType_new F.called_enumerate (by decide) (F.typeCall_enumerate_1 _) (F.newCall_enumerate_1 _) (fun obj => F.args_object_init_2 obj _) F.entry_enumerate_new (meets_enum1 B) ⟨h1, ?_⟩
  have hz : (s.heap.push o).objs.size = s.heap.objs.size + 1 := Heap.size_push ..
  show _ ∧ _
  rw [hz]
  have he : IsEnum ((s.heap.push o).push { cls := .type "enumerate", data := .fields #[.none, .bool false, .ref s.heap.objs.size, rawInt 0, .none, .none] }) (s.heap.objs.size + 1) s.heap.objs.size 0 .none := by
    have := Heap.get?_push_size (s.heap.push o) (o := { cls := .type "enumerate", data := .fields #[.none, .bool false, .ref s.heap.objs.size, rawInt 0, .none, .none] }) rfl
    rw [hz] at this; exact this
  refine ⟨⟨_, he, rfl⟩, h _ he (Heap.get?_push_of_some _ (Heap.get?_push_size _ B.free)) (by rw [Heap.size_push, hz]) fun b o x => Heap.get?_push_of_some _ (Heap.get?_push_of_some _ x)⟩
/-- the tuple at a, each item in a new pair -/
def IteT (K : PySem.W.Frag) (a : Addr) : It :=
  ⟨fun i H => ∃ (xs : List V) (x : V), SqT K H a xs ∧ xs[i]? = some x, fun i H v H' => ∃ T x, v = .ref T ∧ H T = none ∧ H' = upd H T (.tup [.int (i : Nat), x]) ∧ ∀ xs, SqT K H a xs → xs[i]? = some x, fun i H => ∃ xs : List V, SqT K H a xs ∧ xs.length ≤ i⟩
theorem turn_enumT {P : Program} {w : World} {K : PySem.W.Frag} {elts : List Expr} {kk : Nat} {tpos : Pos} (a e it : Addr) :
    Turn P w K (.Tuple elts kk tpos) (IteT K a) [e, it] e (fun i h => (∃ old, IsEnum h e it ((i : Nat) : Int) old) ∧ h.IsTupleIter it a i ∧ e ≠ it ∧ a ≠ it ∧ a ≠ e) where
  mem := by simp
  obj := fun i h st b hb => by
    obtain ⟨⟨old, he⟩, ⟨o, ho, hc, hd⟩, _⟩ := st
    have e' : b = e ∨ b = it := by simpa using hb
    rcases e' with z | z
    · rw [z]; exact ⟨_, he, fun v q => nomatch q⟩
    · rw [z]; exact ⟨o, ho, fun v q => by rw [hd] at q; cases q⟩
  keep := fun i h h' st k => let ⟨⟨old, he⟩, hi, hne⟩ := st; ⟨⟨old, k e (by simp) _ he⟩, hi.at fun o q => k it (by simp) o q, hne⟩
  item := by
    intro X hP hw hK hc i pins s σ H E I hf st hg
    subst hP hw hK
    obtain ⟨⟨old, he⟩, hit, hne, hai, hae⟩ := st
    obtain ⟨xs, x, hq, hx⟩ := hg
    obtain ⟨its, rv, p, hz⟩ := I.tuple hq
    obtain ⟨u, hu, ru⟩ := rv.get hx
    have hel : e < s.heap.objs.size := Heap.lt_size he
    have hil : it < s.heap.objs.size := by obtain ⟨_, q, _⟩ := hit; exact Heap.lt_size q
    have D := Draws.tuple (prog := X.prog) (w := X.w) (A := X.A.in1) (I.ok.hd hc) it a hai its.toArray
    have hlt : i < its.toArray.size := by rw [List.size_toArray]; exact (List.getElem?_eq_some_iff.mp hu).1
    refine wpAny_pyNext_enum_itemD D he ⟨hit, p⟩ hlt hne (by simp [hne, Ne.symm hae]) fun x' h' tk hx' ho hst hT hsz hk => ?_
    obtain rfl : x' = u := by
      have : its.toArray[i]? = some u := by simpa using hu
      rw [this] at hx'; cases hx'; rfl
    refine ⟨_, rfl, wpAny_letOwnedTupleGo_enum (s := { s with heap := h', toks := tk + 1 }) ho fun h'' he' sb => ?_⟩
    have hT2 : h''.get? s.heap.objs.size = some { cls := .type "tuple", data := .seq #[.int i tk, x'] } := (sb.2 _ (Nat.ne_of_gt hel)).trans hT
    have new : ObjOk X.prog X.w (upd H s.heap.objs.size (.tup [.int (i : Nat), x])) h'' s.heap.objs.size (.tup [.int (i : Nat), x]) :=
      ⟨by show 2 ≤ sizeLine; decide, [.int i tk, x'], .cons ⟨_, rfl⟩ (.cons ru .nil), ⟨_, hT2, rfl, _, rfl⟩⟩
    have I1 : Inv X pins σ (upd H s.heap.objs.size (.tup [.int (i : Nat), x])) { s with heap := h'', toks := tk + 1 } :=
      I.turnedNew (ch := [e, it]) (fun b ob hb q => (sb.2 b (fun z => hb (by simp [z]))).trans (hk b ob (fun z => hb (by simp [z])) (fun z => hb (by simp [z])) q)) hf (Nat.le_refl _) new
    refine ⟨.ref s.heap.objs.size, _, I1, rfl, ⟨_, x, rfl, I.hok.fresh (Nat.le_refl _), rfl, fun ys hy => by rw [I.tuple_inj hy hq]; exact hx⟩, ⟨⟨x', ?_⟩, hst.1.at fun o q => (sb.2 it (Ne.symm hne)).trans q, hne, hai, hae⟩, fun b hb => ?_⟩
    · have e1 : ((i + 1 : Nat) : Int) = (i : Int) + 1 := by omega
      rw [e1]; exact he'
    · have hb' : b < s.heap.objs.size := by
        have e' : b = e ∨ b = it := by simpa using hb
        rcases e' with z | z
        · rw [z]; exact hel
        · rw [z]; exact hil
      rw [upd_ne (Nat.ne_of_lt hb')]
      exact (hf b hb).1
  done := by
    intro X hP hw hK hc i pins s σ H E I hf st hg
    subst hP hw hK
    obtain ⟨⟨old, he⟩, hit, hne, hai, hae⟩ := st
    obtain ⟨xs, hq, hx⟩ := hg
    obtain ⟨its, rv, p, hz⟩ := I.tuple hq
    obtain ⟨f0, f1, f2, f3, f4, f5⟩ := hf it (by simp)
    have hl := rv.length
    have D : Draws X.prog X.w X.A.in1 it [it, a] i (fun _ _ => True) (fun j h => j = i ∧ h.IsTupleIter it a i ∧ h.IsTuple a its.toArray) :=
      { live := fun _ _ st => let ⟨o, ho, _⟩ := st.2.1; ⟨o, ho⟩
        frame := fun _ _ _ st hk => ⟨st.1, st.2.1.at fun o e => hk it (by simp) o e, st.2.2.at fun o e => hk a (by simp) o e⟩
        item := fun j s Q E hj st hQ => absurd st.1 (Nat.ne_of_lt hj)
        done := fun s Q E st hE => wpAny_nextOf_tuple_end (A := X.A.in1) (I.ok.hd hc) st.2.1 st.2.2 (by simp; omega) hE }
    exact wpAny_pyNext_enum_endD D he ⟨rfl, hit, p⟩ fun h' eb => ⟨rfl, I.turned (t' := s.toks) (fun b o hb q => eb b o hb q) f0 f1 f3 f4 f5⟩
  self := fun A i s Q E st h => let ⟨⟨_, he⟩, _⟩ := st; wpAny_pyIter_enum he h
def iEnumT (K : PySem.W.Frag) (ta : TA) : TI := fun σ H R => ta σ H fun vs H1 => ∃ a xs, vs = [.ref a] ∧ SqT K H1 a xs ∧ R (IteT K a) H1
theorem pi_enumT {X : Cx} {e : Expr} {ta : TA} {p pos tpos : Pos} {elts : List Expr} {kk : Nat} (hg : Gl X "enumerate") (hm : X.mg "enumerate" = none) (ha : PA X [e] ta) (hs : starEach [e] X.env = [(false, eval e X.env)] := by rfl) :
    PI X (.Tuple elts kk tpos) (.Call (.Name "enumerate" p) [e] [] pos) (iEnumT X.K ta) := by
  refine ⟨fun pins s σ H R I h => ?_⟩
  refine Call_ (ld_blt I hg hm boot_enumerate (PyProof.Rows.callWith_type1 (thn (ha.run pos pins s σ H _ I h) fun us s1 ⟨vs, H1, I1, r1, q1⟩ => ?_) hs rfl))
  obtain ⟨a, xs, ex, hq, q⟩ := q1
  subst ex
  cases r1 with
  | cons r rr =>
    cases rr
    cases r
    obtain ⟨its, rv, p', hz⟩ := I1.tuple hq
    have hal : a < s1.heap.objs.size := by obtain ⟨_, q, _⟩ := id p'; exact Heap.lt_size q
    refine enum_begins1 (begins_tuple a its.toArray) p' fun h' he hit hsz hk => wpAny_pyIter_enum he ?_
    have I2 : Inv X pins σ H1 { s1 with heap := h' } := I1.kept (t' := s1.toks) hk
    refine ⟨s1.heap.objs.size + 1, [s1.heap.objs.size + 1, s1.heap.objs.size], _, _, H1, rfl, I2, turn_enumT a (s1.heap.objs.size + 1) s1.heap.objs.size, ⟨⟨.none, he⟩, ⟨_, hit, rfl, rfl⟩, Nat.succ_ne_self _, Nat.ne_of_lt hal, Nat.ne_of_lt (Nat.lt_succ_of_lt hal)⟩, fun b hb => ?_, q⟩
    have e' : b = s1.heap.objs.size + 1 ∨ b = s1.heap.objs.size := by simpa using hb
    have hle : s1.heap.objs.size ≤ b := by
      rcases e' with z | z
      · rw [z]; exact Nat.le_add_right _ _
      · rw [z]; exact Nat.le_refl _
    exact I1.fpOk hle (I1.hok.fresh hle)

/-! ### is True -/
def rIsB : R2 := fun x y H Q => ∃ a b, x = .bl a ∧ y = .bl b ∧ Q (.bl (a == b)) H
theorem op_isB {X : Cx} : OpR X (compareOp .Is) rIsB := by
  intro pins s σ H x y v u Q I rx ry h
  obtain ⟨a, b, rfl, rfl, q⟩ := h
  cases rx
  cases ry
  exact wpAny_is_plain rfl (fin_bl I q (by cases a <;> cases b <;> rfl))

/-! ### own comparisons that let nothing out, as operations on two values -/
def rCmpO (K : PySem.W.Frag) (C : Addr) (sp : Sp) : R2 := fun x y H Q => ∃ a dx fs t, x = .ref a ∧ H a = some (.ins C dx fs) ∧ TyX K H y t ∧ PySem.W.notFirst K C t = true ∧ sp [x, y] H Q E0
theorem op_cmpO {X : Cx} {C f : Addr} {sp : Sp} {k j : Nat} {ps : List Str} {op : CmpOp} {m : Str} (em : (cmpInfo op).2.1 = m) (hm : Meth X.K C m f) (D : DfX X k f ps sp []) (hr : Room j X.A) (hk : k ≤ j := by decide)
    (hop : ∀ a b, compareOp op a b = richCompare op a b := by intro _ _; rfl) : OpR X (compareOp op) (rCmpO X.K C sp) := by
  intro pins s σ H x y v u Q I rx ry h
  obtain ⟨a, dx, fs, t, ex, ea, ty, hn, q⟩ := h
  subst ex
  subst em
  cases rx
  obtain ⟨od, J⟩ := inst_at I ea
  obtain ⟨m0, fr⟩ := I.fr
  rw [hop]
  refine PySem.W.cmp_K (op := op) (tb := t) hr.units0 fr I.ok.mod.kin J (ty_looks I ry ty) hn hm.at_ hm.fn ?_
  refine wpAny_mono (runW (us := [.ref a, u]) (vs := [.ref a, y]) (W := W0) D (hr.mono hk) takes0 I (.cons rfl (.cons ry .nil)) q) (fun w s' z => ?_) fun _ _ x => x
  obtain ⟨z', H', I', rz, qz⟩ := z
  exact SlX.cmpback rz ⟨z', H', I', rz, qz⟩

def bNf (x : Str) (T : String) : PySem.W.Frag → Bool := fun K => PySem.W.notFirst K (He.ga K x) (.type T)
def bKt (T : String) (x : Str) : PySem.W.Frag → Bool := fun K => decide (PySem.W.kitOne K (.type T) (.ref (He.ga K x)) = some false)

/-! ### t[::-1] -/
section
variable {prog : Program} {w : World} {A : Around} {E : Value → Shared → Prop} {s : Shared}
theorem sliceApplied_rev {sl : Addr} {vk : Value} {n : Nat} {Q : Int × Int × Nat → Shared → Prop} (hs : s.heap.IsSliceOf sl .none .none vk) (pk : IsPart vk (some (-1))) (h : Q ((n : Int) - 1, -1, n) s) :
    wpAny (model prog w) A (Builtin.Slice.sliceApplied (.ref sl) (pure (n : Int))) Q E s := by
  obtain ⟨os, hos, hcs, hds⟩ := id hs
  unfold Builtin.Slice.sliceApplied Builtin.Slice.sliceFields
  refine wpAny_bind (wpAny_bind (wpAny_field hos hds (x := .none) rfl (wpAny_bind (wpAny_field hos hds (x := .none) rfl (wpAny_bind (wpAny_field hos hds (x := vk) rfl (wpAny_pure ?_)))))))
  refine wpAny_bind (HT.slicePart_ pk ?_)
  show wpAny _ _ (if ((-1 : Int) == 0) = true then _ else _) _ _ s
  rw [if_neg (by decide)]
  refine wpAny_bind (HT.slicePart_ .none (wpAny_bind (HT.slicePart_ .none (wpAny_bind (wpAny_pure ?_)))))
  show wpAny _ _ (match Builtin.Slice.sliceAdjust none none (-1) (n : Int) with | (lo, hi) => pure (lo, (-1 : Int), Builtin.Slice.slicePlaces lo hi (-1))) _ _ s
  have e1 : Builtin.Slice.sliceAdjust none none (-1) (n : Int) = ((n : Int) - 1, -1) := rfl
  have e2 : Builtin.Slice.slicePlaces ((n : Int) - 1) (-1) (-1) = n := by
    unfold Builtin.Slice.slicePlaces
    rw [if_neg (by decide)]
    by_cases h : (n : Int) - 1 > -1
    · rw [if_pos h, show (- -1 : Int) = 1 by decide, Int.ediv_one]; omega
    · rw [if_neg h]; omega
  rw [e1]
  show wpAny _ _ (pure ((n : Int) - 1, (-1 : Int), Builtin.Slice.slicePlaces ((n : Int) - 1) (-1) (-1))) _ _ s
  rw [e2]
  exact wpAny_pure h
theorem fm_congr {α β : Type} {f g : α → Option β} : ∀ {l : List α}, (∀ x ∈ l, f x = g x) → l.filterMap f = l.filterMap g
  | [], _ => rfl
  | a :: l, h => by
    rw [List.filterMap_cons, List.filterMap_cons, h a List.mem_cons_self, fm_congr fun x hx => h x (List.mem_cons_of_mem _ hx)]
theorem pick_rev (xs : Array Value) : ((List.range xs.size).filterMap fun (m : Nat) => xs[((xs.size : Int) - 1 + (m : Int) * (-1)).toNat]?).toArray = xs.toList.reverse.toArray := by
  have e : ((List.range xs.size).filterMap fun (m : Nat) => xs[((xs.size : Int) - 1 + (m : Int) * (-1)).toNat]?) = ((List.range xs.size).map fun k => xs.size - 1 - k).filterMap (xs[·]?) := by
    rw [List.filterMap_map]
    refine fm_congr fun m hm => ?_
    have := List.mem_range.mp hm
    have e : ((xs.size : Int) - 1 + (m : Int) * (-1)).toNat = xs.size - 1 - m := by omega
    simp only [Function.comp_apply, e]
  rw [e, PySem.W.krv_range, List.filterMap_reverse, PySem.W.krv_all]
theorem getItem_tuple_rev {t sl : Addr} {items : Array Value} {vk : Value} {Q : Value → Shared → Prop} (ht : IsTup s.heap t items) (hs : s.heap.IsSliceOf sl .none .none vk) (pk : IsPart vk (some (-1)))
    (h : Q (.ref s.heap.objs.size) { s with heap := s.heap.push { cls := .type "tuple", data := .seq items.toList.reverse.toArray } })
    (hsz : items.size ≤ sizeLine) : wpAny (model prog w) A (getItem (.ref t) (.ref sl)) Q E s := by
  have htake : sizeOk (.seq items.toList.reverse.toArray) := by
    show items.toList.reverse.toArray.size ≤ sizeLine
    rw [List.size_toArray, List.length_reverse, Array.length_toList]
    exact hsz
  obtain ⟨os, hos, hcs, hds⟩ := id hs
  have hTs : s.TypeIs (.ref sl) "slice" := ⟨os, hos, hcs⟩
  unfold getItem
  try with_reducible refine wpAny_holding ?_
  first | refine wpAny_bind (wpAny_pure ?_) | skip
  refine wpAny_bind (wpAny_sequenceKey ht.typeIs (by decide) ?_)
  refine wpAny_bind (wpAny_callSpecial?_slot (name := Str.ofString "__getitem__") ht.typeIs PyProof.Rows.slot_tuple_getitem
    (wpAny_call_entry PyProof.Rows.slot_tuple_getitem ht.typeIs entry_tuple_getitem ?_ (args_tuple_getitem _ _)))
  show wpAny _ _ (Builtin.Tuple.tupleItemsOf (.ref t) >>= _) _ _ s
  refine wpAny_bind (tupleItemsOf_ ht ?_)
  refine wpAny_bind (wpAny_typeOf hTs ?_)
  rw [if_pos (by decide)]
  refine wpAny_bind (sliceApplied_rev hs pk ?_)
  have hno : ¬ ((((items.size : Int) - 1) == 0 && (-1 : Int) == 1 && items.size == items.size) = true) := by
    intro q
    rw [Bool.and_eq_true, Bool.and_eq_true] at q
    exact absurd q.1.2 (by decide)
  show wpAny _ _ (if (((items.size : Int) - 1) == 0 && (-1 : Int) == 1 && items.size == items.size) = true then _ else _) _ _ s
  rw [if_neg hno, pick_rev]
  first
    | exact wpAny_bind (m := Builtin.Tuple.tupleExact _) (wpAny_newObj_type (wpAny_pure ⟨_, rfl, wpAny_pure h⟩) htake)
    | exact wpAny_bind (m := Builtin.Tuple.tupleExact _) (wpAny_newObj_type (wpAny_bind (wpAny_pure (wpAny_pure ⟨_, rfl, wpAny_pure h⟩))) htake)
    | exact wpAny_bind (wpAny_bind (m := Builtin.Tuple.tupleExact _) (wpAny_newObj_type (wpAny_pure (wpAny_pure ⟨_, rfl, wpAny_pure h⟩)) htake))
    | exact wpAny_bind (wpAny_bind (m := Builtin.Tuple.tupleExact _) (wpAny_newObj_type (wpAny_pure ⟨_, rfl, wpAny_pure h⟩) htake))
end
/-- a list or a tuple, the other way round -/
def tRevA (K : PySem.W.Frag) (te : TE) : TE := fun σ H Q => te σ H fun x H1 => ∃ a xs, x = .ref a ∧ ((SqL K H1 a xs ∧ ∀ p, H1 p = none → Q (.ref p) (upd H1 p (.lst xs.reverse))) ∨ (SqT K H1 a xs ∧ newT H1 xs.reverse Q))
theorem pe_revA {X : Cx} {e : Expr} {te : TE} {k : Nat} {p1 p2 p3 pos : Pos} (he : PE X e te) : PE X (.Subscript e (.Slice none none (some (.UnaryOp .USub (.Constant (.int 1) k p1) p2)) p3) pos) (tRevA X.K te) := by
  refine ⟨fun pins s σ H Q I h => ?_⟩
  refine Subscript_ (thn (he.run pins s σ H _ I h) fun v s1 ⟨x, H1, I1, r1, q1⟩ => ?_)
  obtain ⟨a, xs, ex, q⟩ := q1
  subst ex
  cases r1
  have hst : PO X (some (.UnaryOp .USub (.Constant (.int 1) k p1) p2)) (tPart (tUn (rU fun i => .int (-i)) (tC (.int 1)))) := po_some (pe_un un_neg pe_int)
  refine wpAny_Slice (thn (po_none.run pins s1 σ H1 (fun o H2 => o = none ∧ H2 = H1) I1 ⟨rfl, rfl⟩) fun vl s2 ⟨l, H2, I2, pl, el, e2⟩ => ?_)
  subst el e2
  refine thn (po_none.run pins s2 σ H2 (fun o H3 => o = none ∧ H3 = H2) I2 ⟨rfl, rfl⟩) fun vu s3 ⟨u, H3, I3, pu, eu, e3⟩ => ?_
  subst eu e3
  refine thn (hst.run pins s3 σ H3 (fun o H4 => o = some (-1) ∧ H4 = H3) I3 ⟨1, rfl, -1, rfl, rfl, rfl⟩) fun vs s4 ⟨o, H4, I4, ps, eo, e4⟩ => ?_
  subst eo e4
  have I5 : Inv X pins σ H4 { s4 with heap := s4.heap.push { cls := .type "slice", data := .fields #[vl, vu, vs] } } := I4.kept (t' := s4.toks) fun b ob q => Heap.get?_push_of_some _ q
  show wpAny (model X.prog X.w) X.A (subscriptTail e (.Slice none none (some (.UnaryOp .USub (.Constant (.int 1) k p1) p2)) p3) (.ref a) (.ref s4.heap.objs.size)) (EP X pins σ Q) X.xe { s4 with heap := s4.heap.push { cls := .type "slice", data := .fields #[vl, vu, vs] } }
  rcases q with ⟨hx, q⟩ | ⟨hx, q⟩
  · obtain ⟨its, r, ht, hz⟩ := I5.list hx
    have hlen := r.length
    refine tail_any (ops := [.ref a, .ref s4.heap.objs.size]) ht.isList.typeIs (PySem.slot_list_getitem.lookup) ?_ (by with_unfolding_all rfl)
    refine wpAny_getItem_list_slice ht.isList (Heap.IsSliceOf.new _ vl vu vs) pl pu ps (by decide) ?_ (by rw [List.size_toArray]; omega)
    rw [PySem.W.krv_pick]
    refine ⟨.ref _, _, I5.laid (t' := s4.toks) (o := .lst xs.reverse) (fun b ob q => Heap.get?_push_of_some _ q) (Nat.le_refl _) ?_, rfl, q _ (I5.hok.fresh (Nat.le_refl _))⟩
    exact ⟨by rw [List.length_reverse]; exact hz, _, 0, r.reverse, Heap.get?_push_size _ rfl⟩
  · obtain ⟨its, r, ht, hz⟩ := I5.tuple hx
    have hlen := r.length
    cases pl
    cases pu
    refine tail_any (ops := [.ref a, .ref s4.heap.objs.size]) ht.typeIs (PyProof.Rows.slot_tuple_getitem.lookup) ?_ (by with_unfolding_all rfl)
    refine getItem_tuple_rev ht (Heap.IsSliceOf.new _ .none .none vs) ps ?_ (by rw [List.size_toArray]; omega)
    exact newT_laid (t' := s4.toks) I5 (by rw [List.length_reverse]; exact hz) r.reverse q
end
/-! ## B0 -/
section

/-! ### answers to single questions -/
section
variable {K : PySem.W.Frag} {H : Hp} {Q : VK} {p l : Addr} {xs ys : List V} {i j n : Int} {v w : V} {a b : Str}
theorem addI (q : Q (.int (i + j)) H) : oAdd K (.int i) (.int j) H Q := .inl ⟨i, j, rfl, rfl, q⟩
theorem subI (q : Q (.int (i - j)) H) : rSubI (.int i) (.int j) H Q := ⟨i, j, rfl, rfl, q⟩
theorem mulI (h : -(2 ^ 64) < i ∧ i < 2 ^ 64) (q : Q (.int (i * j)) H) : oMulA K (.int i) (.int j) H Q := .inl ⟨i, j, rfl, rfl, .inl h, q⟩
theorem mulI2 (h : -(2 ^ 64) < j ∧ j < 2 ^ 64) (q : Q (.int (i * j)) H) : oMulA K (.int i) (.int j) H Q := .inl ⟨i, j, rfl, rfl, .inr h, q⟩
theorem modI (h : 0 < j) (q : Q (.int (i % j)) H) : rModI (.int i) (.int j) H Q := ⟨i, j, rfl, rfl, h, q⟩
theorem divI (h : 0 < j ∧ j < 1073741824) (q : Q (.int (i / j)) H) : rDivI (.int i) (.int j) H Q := ⟨i, j, rfl, rfl, h, q⟩
theorem powI (h : 0 ≤ j ∧ j ≤ 1000000 ∧ i.natAbs < 2 ^ 64) (q : Q (.int (i ^ j.toNat)) H) : rPowI (.int i) (.int j) H Q := ⟨i, j, rfl, rfl, h, q⟩
theorem int1 (q : Q (.int i) H) : rInt1 [.int i] H Q := .inl ⟨i, rfl, q⟩
theorem addS (h : a.length + b.length ≤ sizeLine) (q : Q (.str (a ++ b)) H) : oAdd K (.str a) (.str b) H Q := .inr (.inl ⟨a, b, rfl, rfl, h, q⟩)
theorem addL (h1 : H p = some (.lst xs)) (h2 : H l = some (.lst ys)) (h : xs.length + ys.length ≤ sizeLine) (q : ∀ r, H r = none → Q (.ref r) (upd H r (.lst (xs ++ ys)))) : oAdd K (.ref p) (.ref l) H Q :=
  .inr (.inr (.inl ⟨p, l, xs, ys, rfl, rfl, h1, h2, h, q⟩))
theorem getL (h : SqL K H p xs) (ha : atI xs i = some v) (q : Q v H) : oGet K (.ref p) (.int i) H Q := .inl ⟨p, xs, i, v, rfl, rfl, h, ha, q⟩
theorem getT (h : SqT K H p xs) (ha : atI xs i = some v) (q : Q v H) : oGet K (.ref p) (.int i) H Q := .inr (.inl ⟨p, xs, i, v, rfl, rfl, h, ha, q⟩)
theorem getS {c : Nat} (hl : a.length ≤ sizeLine) (ha : atI a.cps.toList i = some c) (q : Q (.str ⟨#[c]⟩) H) : oGet K (.str a) (.int i) H Q := .inr (.inr (.inl ⟨a, i, c, rfl, rfl, hl, ha, q⟩))
theorem setL {k : Nat} {Q : Hp → Prop} (h : H p = some (.lst xs)) (hi : ixN xs.length i = some k) (q : Q (upd H p (.lst (xs.set k v)))) : oSet (.ref p) (.int i) v H Q := .inl ⟨p, xs, i, k, rfl, rfl, h, hi, q⟩
theorem lenL (h : SqL K H p xs) (q : Q (.int xs.length) H) : oLen K [.ref p] H Q := .inl ⟨p, xs, rfl, .inl h, q⟩
theorem lenT (h : SqT K H p xs) (q : Q (.int xs.length) H) : oLen K [.ref p] H Q := .inl ⟨p, xs, rfl, .inr h, q⟩
theorem lenS (h : a.length ≤ sizeLine) (q : Q (.int a.length) H) : oLen K [.str a] H Q := .inr (.inl ⟨a, rfl, h, q⟩)
theorem eqF (h : scal v w = true) (q : Q (.bl (decide (v = w))) H) : oEq K v w H Q := .inl ⟨h, q⟩
theorem neF (h : scal v w = true) (q : Q (.bl (!decide (v = w))) H) : oNe K v w H Q := .inl ⟨h, q⟩
theorem eqD {d e : PyData} (h1 : Dp K H v d) (h2 : Dp K H w e) (s1 : SeqAt.shaped d = true) (s2 : SeqAt.shaped e = true) (q : Q (.bl (PyData.eqv d e)) H) : oEq K v w H Q := .inr ⟨d, e, h1, h2, s1, s2, q⟩
theorem neD {d e : PyData} (h1 : Dp K H v d) (h2 : Dp K H w e) (s1 : SeqAt.shaped d = true) (s2 : SeqAt.shaped e = true) (q : Q (.bl (!PyData.eqv d e)) H) : oNe K v w H Q := .inr ⟨d, e, h1, h2, s1, s2, q⟩
theorem inL {neg : Bool} (h : SqL K H p xs) (hx : flatV v = true) (ha : xs.all flatV = true) (q : Q (.bl (if neg then !inV v xs else inV v xs)) H) : oIn K neg v (.ref p) H Q := .inl ⟨p, xs, rfl, .inl h, hx, ha, q⟩
theorem inT {neg : Bool} (h : SqT K H p xs) (hx : flatV v = true) (ha : xs.all flatV = true) (q : Q (.bl (if neg then !inV v xs else inV v xs)) H) : oIn K neg v (.ref p) H Q := .inl ⟨p, xs, rfl, .inr h, hx, ha, q⟩
theorem inSg {neg : Bool} {c : Nat} (q : Q (.bl (if neg then !decide (c ∈ a.cps.toList) else decide (c ∈ a.cps.toList))) H) : oIn K neg (.str ⟨#[c]⟩) (.str a) H Q := .inr (.inr (.inl ⟨c, a, rfl, rfl, q⟩))
theorem slS {lo hi : Option Int} (h : a.length ≤ sizeLine) (q : Q (.str (cutS a lo hi)) H) : oSl K (.str a) lo hi H Q := .inr (.inr ⟨a, rfl, h, q⟩)
theorem slL {lo hi : Option Int} (h : SqL K H p xs) (q : ∀ r, H r = none → Q (.ref r) (upd H r (.lst (cutV xs lo hi)))) : oSl K (.ref p) lo hi H Q := .inl ⟨p, xs, rfl, h, q⟩
theorem ty_list (h : SqL K H p xs) : tyV K "list" (.ref p) H := .inl ⟨rfl, xs, h⟩
theorem isiF {t : String} {T : String} {r : Bool} (ty : TyX K H v (.type t)) (hk : PySem.W.kitOne K (.type t) (.type T) = some r) (q : Q (.bl r) H) : rIsi K [v, .ty T] H Q := ⟨v, .ty T, _, _, r, rfl, .ty T, ty, hk, q⟩
end

/-! ### the same as equations -/
section
variable {K : PySem.W.Frag} {H : Hp} {Q : VK} {i j : Int} {a b : Str}
theorem s_addI : oAdd K (.int i) (.int j) H Q = Q (.int (i + j)) H := by
  refine propext ⟨fun h => ?_, addI⟩
  rcases h with ⟨_, _, e1, e2, q⟩ | ⟨_, _, e1, _⟩ | ⟨_, _, _, _, e1, _⟩ | ⟨_, _, _, _, e1, _⟩
  · cases e1; cases e2; exact q
  all_goals cases e1
theorem s_addS : oAdd K (.str a) (.str b) H Q = (a.length + b.length ≤ sizeLine ∧ Q (.str (a ++ b)) H) := by
  refine propext ⟨fun h => ?_, fun h => addS h.1 h.2⟩
  rcases h with ⟨_, _, e1, _⟩ | ⟨_, _, e1, e2, q⟩ | ⟨_, _, _, _, e1, _⟩ | ⟨_, _, _, _, e1, _⟩
  · cases e1
  · cases e1; cases e2; exact q
  all_goals cases e1
theorem s_subI : rSubI (.int i) (.int j) H Q = Q (.int (i - j)) H := propext ⟨fun ⟨_, _, e1, e2, q⟩ => by cases e1; cases e2; exact q, subI⟩
theorem s_mulI : oMulA K (.int i) (.int j) H Q = (CMul i j ∧ Q (.int (i * j)) H) := by
  refine propext ⟨fun h => ?_, fun h => .inl ⟨i, j, rfl, rfl, h⟩⟩
  rcases h with ⟨_, _, e1, e2, q⟩ | ⟨_, _, _, e1, _⟩ | ⟨_, _, _, e1, _⟩
  · cases e1; cases e2; exact q
  all_goals cases e1
theorem s_modI : rModI (.int i) (.int j) H Q = (0 < j ∧ Q (.int (i % j)) H) := propext ⟨fun ⟨_, _, e1, e2, q⟩ => by cases e1; cases e2; exact q, fun h => modI h.1 h.2⟩
theorem s_divI : rDivI (.int i) (.int j) H Q = ((0 < j ∧ j < 1073741824) ∧ Q (.int (i / j)) H) := propext ⟨fun ⟨_, _, e1, e2, q⟩ => by cases e1; cases e2; exact q, fun h => divI h.1 h.2⟩
theorem s_powI : rPowI (.int i) (.int j) H Q = ((0 ≤ j ∧ j ≤ 1000000 ∧ i.natAbs < 2 ^ 64) ∧ Q (.int (i ^ j.toNat)) H) := propext ⟨fun ⟨_, _, e1, e2, q⟩ => by cases e1; cases e2; exact q, fun h => powI h.1 h.2⟩
theorem s_ltI : rLtI (.int i) (.int j) H Q = Q (.bl (decide (i < j))) H := propext ⟨fun ⟨_, _, e1, e2, q⟩ => by cases e1; cases e2; exact q, fun q => ⟨i, j, rfl, rfl, q⟩⟩
theorem s_leI : rLeI (.int i) (.int j) H Q = Q (.bl (decide (i ≤ j))) H := propext ⟨fun ⟨_, _, e1, e2, q⟩ => by cases e1; cases e2; exact q, fun q => ⟨i, j, rfl, rfl, q⟩⟩
theorem s_gtI : rGtI (.int i) (.int j) H Q = Q (.bl (decide (j < i))) H := propext ⟨fun ⟨_, _, e1, e2, q⟩ => by cases e1; cases e2; exact q, fun q => ⟨i, j, rfl, rfl, q⟩⟩
theorem s_geI : rGeI (.int i) (.int j) H Q = Q (.bl (decide (j ≤ i))) H := propext ⟨fun ⟨_, _, e1, e2, q⟩ => by cases e1; cases e2; exact q, fun q => ⟨i, j, rfl, rfl, q⟩⟩
theorem s_int1 : rInt1 [.int i] H Q = Q (.int i) H := by
  refine propext ⟨fun h => ?_, int1⟩
  rcases h with ⟨_, e1, q⟩ | ⟨_, e1, _⟩
  · cases e1; exact q
  · cases e1
theorem s_slS {lo hi : Option Int} : oSl K (.str a) lo hi H Q = (a.length ≤ sizeLine ∧ Q (.str (cutS a lo hi)) H) := by
  refine propext ⟨fun h => ?_, fun h => slS h.1 h.2⟩
  rcases h with ⟨_, _, e1, _⟩ | ⟨_, _, e1, _⟩ | ⟨_, e1, q⟩
  · cases e1
  · cases e1
  · cases e1; exact q
theorem s_lenS : oLen K [.str a] H Q = (a.length ≤ sizeLine ∧ Q (.int a.length) H) := by
  refine propext ⟨fun h => ?_, fun h => lenS h.1 h.2⟩
  rcases h with ⟨_, _, e1, _⟩ | ⟨_, e1, q⟩ | ⟨_, _, e1, _⟩ | ⟨_, _, e1, _⟩
  · cases e1
  · cases e1; exact q
  all_goals cases e1
theorem eqI (q : Q (.bl (decide (i = j))) H) : oEq K (.int i) (.int j) H Q := eqF rfl (by rw [dec_int, ← Bool.beq_eq_decide_eq] at *; exact q)
theorem neI (q : Q (.bl (!decide (i = j))) H) : oNe K (.int i) (.int j) H Q := neF rfl (by rw [dec_int, ← Bool.beq_eq_decide_eq] at *; exact q)
end

/-! ### loops and comprehensions -/
def FG (J : It) (g : TG) (tb : TS) (D : Ends) (σ : St) (H : Hp) : Prop := ∃ W : Nat → Nat → St → Hp → Prop, (∃ m, W 0 m σ H) ∧ ∀ i m σ H, W i m σ H →
  (J.stop i H ∧ D.nx σ H) ∨ (J.go i H ∧ ∃ N : St → Hp → Prop, (∀ σ' H', N σ' H' → ∃ m', m' < m ∧ W (i + 1) m' σ' H') ∧ ∀ x H', J.yld i H x H' → g x σ H' fun σ2 H2 => tb { D with nx := N, ct := N, bk := D.nx } σ2 H2)
theorem for_eq {wi : TI} {g : TG} {tb : TS} {D : Ends} {σ : St} {H : Hp} : tFor wi g tb D σ H = wi σ H fun J H1 => FG J g tb D σ H1 := rfl
theorem fg {J : It} {n : Nat} {G : Hp → Prop} {Y : Nat → Hp → V → Hp → Prop} (w : Walk J n G Y) {g : TG} {tb : TS} {D : Ends} {σ : St} {H : Hp} (Pv : Nat → St → Hp → Prop) (h0 : Pv 0 σ H) (hG : ∀ i σ H, i ≤ n → Pv i σ H → G H)
    (hs : ∀ i x σ H H', i < n → Pv i σ H → Y i H x H' → g x σ H' fun σ2 H2 => tb { D with nx := Pv (i + 1), ct := Pv (i + 1), bk := D.nx } σ2 H2) (hd : ∀ σ H, Pv n σ H → D.nx σ H) : FG J g tb D σ H := for_it w Pv h0 hG hs hd
def LG (J : It) (g : TG) (tt : TT) (te : TE) (vs : List Nat) (σ : St) (H1 : Hp) (Q : VK) : Prop := ∀ D, H1 D = none → ∃ W : Nat → Nat → Hp → Prop, (∃ m, W 0 m (upd H1 D (.lst []))) ∧ ∀ i m H, W i m H →
  (J.stop i H ∧ Q (.ref D) H) ∨ (J.go i H ∧ ∃ Nx : Hp → Prop, (∀ H', Nx H' → ∃ m', m' < m ∧ W (i + 1) m' H') ∧ ∀ x H', J.yld i H x H' → g x (wipe σ vs) H' fun σ2 H2 => wipe σ2 vs = wipe σ vs ∧ tt σ2 H2 fun b H3 =>
    if b = true then te σ2 H3 fun y H4 => ∃ acc, H4 D = some (.lst acc) ∧ acc.length < sizeLine ∧ Nx (upd H4 D (.lst (acc ++ [y]))) else Nx H3)
theorem lc_eq {wi : TI} {g : TG} {tt : TT} {te : TE} {vs : List Nat} {σ : St} {H : Hp} {Q : VK} : tLc wi g tt te vs σ H Q = wi σ H fun J H1 => LG J g tt te vs σ H1 Q := rfl
theorem lg {J : It} {n : Nat} {G : Hp → Prop} {Y : Nat → Hp → V → Hp → Prop} (w : Walk J n G Y) {g : TG} {tt : TT} {te : TE} {vs : List Nat} {σ : St} {H1 : Hp} {Q : VK} (Pv : Addr → Nat → Hp → Prop) (h0 : ∀ D, H1 D = none → Pv D 0 (upd H1 D (.lst []))) (hG : ∀ D, H1 D = none → ∀ i H, i ≤ n → Pv D i H → G H)
    (hs : ∀ D, H1 D = none → ∀ i x H H', i < n → Pv D i H → Y i H x H' → g x (wipe σ vs) H' fun σ2 H2 => wipe σ2 vs = wipe σ vs ∧ tt σ2 H2 fun b H3 =>
      if b = true then te σ2 H3 fun y H4 => ∃ acc, H4 D = some (.lst acc) ∧ acc.length < sizeLine ∧ Pv D (i + 1) (upd H4 D (.lst (acc ++ [y]))) else Pv D (i + 1) H3) (hd : ∀ D, H1 D = none → ∀ H, Pv D n H → Q (.ref D) H) : LG J g tt te vs σ H1 Q :=
  fun D hD => lc_it w (Pv D) (h0 D hD) (hG D hD) (hs D hD) (hd D hD)

/-! ### heaps -/
section
variable {H H' : Hp} {a p q : Addr} {o u : HO}
theorem at_new (hp : H p = none) (h : H a = some u) : upd H p o a = some u := (upd_ne (ne_of_none h hp)).trans h
theorem at_set (hn : a ≠ p) (h : H a = some u) : upd H p o a = some u := (upd_ne hn).trans h
theorem Same.new (hp : H p = none) : Same H (upd H p o) := fun b x e => at_new hp e
theorem Same.new2 (s : Same H H') (hp : H' p = none) : Same H (upd H' p o) := s.trans (Same.new hp)
theorem free_new {r : Addr} (hr : upd H p o r = none) : H r = none ∧ r ≠ p := by
  by_cases e : r = p
  · subst e; rw [upd_same] at hr; cases hr
  · rw [upd_ne e] at hr; exact ⟨hr, e⟩
end
end
/-! ## readings -/
/-- _law_pool -/
abbrev n_l_pool : List Str := ["_law_cell_here", "_law_folded"]
def t_l_pool (K : PySem.W.Frag) (E : XK) : TS :=
    tSeq (tAsg (tOp (oMulA K) (tC (.int 2)) (tVar 0)) (gName 1))
    (tSeq (tIfS (tTest (tOp rLtI (tVar 0) (tC (.int 0)))) (tAsg (tOp rSubI (tOp rSubI (tC (.int 0)) (tOp (oMulA K) (tC (.int 2)) (tVar 0))) (tC (.int 1))) (gName 1)) (tNext))
    (tSeq (tIfS (tTest (tOp rGeI (tVar 1) (tOp rPowI (tC (.int 10)) (tC (.int 18))))) (tRet (tLst (tCons (tVar 1) (tCons (tOp rModI (tCB rInt1 (tCons (tVar 1) (tNil))) (tC (.int 1000000007))) (tCons (tC (.int 0)) (tNil)))))) (tNext))
    (tRet (tLst (tCons (tC (.int 0)) (tCons (tOp rModI (tCB rInt1 (tCons (tVar 1) (tNil))) (tC (.int 1000000007))) (tCons (tC (.int 0)) (tNil))))))))
/-- _law_cell -/
abbrev n_l_cell : List Str := ["_law_script", "_law_k"]
def t_l_cell (K : PySem.W.Frag) (E : XK) : TS :=
    tSeq (tIfS (tTest (tOp rLtI (tVar 1) (tCB (oLen K) (tCons (tVar 0) (tNil))))) (tRet (tOp (oGet K) (tVar 0) (tVar 1))) (tNext))
    (tRet (tC (.int 0)))
/-- _law_take -/
abbrev n_l_take : List Str := ["_law_pool_here", "_law_many", "_law_draw", "_law_mixed"]
def t_l_take (K : PySem.W.Frag) (E : XK) : TS :=
    tSeq (tIfS (tTest (tOp rGtI (tOp (oGet K) (tVar 0) (tC (.int 0))) (tC (.int 0)))) (tSeq (tAsg (tOp rModI (tCB rInt1 (tCons (tOp (oGet K) (tVar 0) (tC (.int 0))) (tNil))) (tVar 1)) (gName 2))
    (tSeq (tAsg (tOp rDivI (tOp (oGet K) (tVar 0) (tC (.int 0))) (tVar 1)) (gSub (tVar 0) (tC (.int 0)) oSet))
    (tRet (tVar 2)))) (tNext))
    (tSeq (tAsg (tOp (oAdd K) (tOp (oGet K) (tVar 0) (tC (.int 2))) (tC (.int 1))) (gSub (tVar 0) (tC (.int 2)) oSet))
    (tSeq (tAsg (tOp rModI (tCB rInt1 (tCons (tOp rPowI (tOp (oAdd K) (tOp (oAdd K) (tOp (oGet K) (tVar 0) (tC (.int 1))) (tOp (oMulA K) (tC (.int 7919)) (tOp (oGet K) (tVar 0) (tC (.int 2))))) (tC (.int 104729))) (tC (.int 5))) (tNil))) (tC (.int 2147483647))) (gName 3))
    (tRet (tOp rModI (tOp rModI (tCB rInt1 (tCons (tOp (oMulA K) (tOp (oAdd K) (tVar 3) (tOp (oGet K) (tVar 0) (tC (.int 2)))) (tC (.int 40692))) (tNil))) (tC (.int 2147483629))) (tVar 1)))))
/-- _law_names -/
abbrev n_l_names : List Str := ["_law_pool_here", "_law_many", "_law_letters", "_law_signs", "_law_word", "_law_k", "_law_stem", "_law_place", "_law_told", "_law_start", "_law_names_here", "_law_sign"]
def t_l_names_b1 (K : PySem.W.Frag) (sp_l_take : Sp) (E : XK) : TS :=
    tAsg (tOp (oAdd K) (tVar 4) (tOp (oGet K) (tVar 3) (tCW sp_l_take [] (WD E) (tCons (tVar 0) (tCons (tC (.int 36)) (tNil)))))) (gName 4)
def t_l_names_e1 (K : PySem.W.Frag) (sp_l_take : Sp) (E : XK) : TE :=
    tSl (oSl K) (tVar 4) (tNoPart) (tPart (tOp (oAdd K) (tVar 5) (tC (.int 1))))
def t_l_names_b2 (K : PySem.W.Frag) (sp_l_take : Sp) (E : XK) : TS :=
    tSeq (tAsg (tOp (oGet K) (tVar 8) (tOp rModI (tOp (oAdd K) (tVar 9) (tOp (oMulA K) (tC (.int 7)) (tVar 5))) (tCB (oLen K) (tCons (tVar 8) (tNil))))) (gName 11))
    (tDrop (tBM K "list" rAppend (tVar 10) (tCons (tOp (oAdd K) (tOp (oAdd K) (tSl (oSl K) (tVar 6) (tNoPart) (tPart (tVar 7))) (tVar 11)) (tSl (oSl K) (tVar 6) (tPart (tVar 7)) (tNoPart))) (tNil))))
def t_l_names (K : PySem.W.Frag) (sp_l_take : Sp) (E : XK) : TS :=
    tSeq (tAsg (tC (.str "abcdefghijklmnopqrstuvwxyz")) (gName 2))
    (tSeq (tAsg (tOp (oAdd K) (tVar 2) (tC (.str "0123456789"))) (gName 3))
    (tSeq (tAsg (tOp (oGet K) (tVar 2) (tCW sp_l_take [] (WD E) (tCons (tVar 0) (tCons (tC (.int 26)) (tNil))))) (gName 4))
    (tSeq (tFor (iRng1 (tCons (tC (.int 7)) (tNil))) (gName 5) (t_l_names_b1 K sp_l_take E))
    (tSeq (tIfS (tTest (tOp (oEq K) (tCW sp_l_take [] (WD E) (tCons (tVar 0) (tCons (tC (.int 3)) (tNil)))) (tC (.int 0)))) (tRet (tLc (iRng1 (tCons (tVar 1) (tNil))) (gName 5) (tYes) (t_l_names_e1 K sp_l_take E) [5])) (tNext))
    (tSeq (tAsg (tSl (oSl K) (tVar 4) (tNoPart) (tPart (tCW sp_l_take [] (WD E) (tCons (tVar 0) (tCons (tC (.int 8)) (tNil)))))) (gName 6))
    (tSeq (tAsg (tCW sp_l_take [] (WD E) (tCons (tVar 0) (tCons (tOp (oAdd K) (tCB (oLen K) (tCons (tVar 6) (tNil))) (tC (.int 1))) (tNil)))) (gName 7))
    (tSeq (tAsg (tIf (tTest (tOp (oEq K) (tVar 7) (tC (.int 0)))) (tVar 2) (tVar 3)) (gName 8))
    (tSeq (tAsg (tCW sp_l_take [] (WD E) (tCons (tVar 0) (tCons (tC (.int 36)) (tNil)))) (gName 9))
    (tSeq (tAsg (tLst (tNil)) (gName 10))
    (tSeq (tFor (iRng1 (tCons (tVar 1) (tNil))) (gName 5) (t_l_names_b2 K sp_l_take E))
    (tRet (tVar 10))))))))))))
/-- is_name -/
abbrev n_is_name : List Str := ["word", "sign"]
def t_is_name_b1 (K : PySem.W.Frag) (E : XK) : TS :=
    tIfS (tTest (tOp (oIn K true) (tVar 1) (tC (.str "abcdefghijklmnopqrstuvwxyz0123456789")))) (tRet (tC (.bl false))) (tNext)
def t_is_name (K : PySem.W.Frag) (E : XK) : TS :=
    tSeq (tIfS (tOr (tNot (tB (tCB (rIsi K) (tCons (tVar 0) (tCons (tC (.ty "str")) (tNil)))))) (tOr (tTest (tOp rLtI (tCB (oLen K) (tCons (tVar 0) (tNil))) (tC (.int 1)))) (tTest (tOp rGtI (tCB (oLen K) (tCons (tVar 0) (tNil))) (tC (.int 8)))))) (tRet (tC (.bl false))) (tNext))
    (tSeq (tIfS (tTest (tOp (oIn K true) (tOp (oGet K) (tVar 0) (tC (.int 0))) (tC (.str "abcdefghijklmnopqrstuvwxyz")))) (tRet (tC (.bl false))) (tNext))
    (tSeq (tFor (iStr (tVar 0)) (gName 1) (t_is_name_b1 K  E))
    (tRet (tC (.bl true)))))
/-- BadName.__init__ -/
abbrev n_BadName_init : List Str := ["self", "name"]
def t_BadName_init (K : PySem.W.Frag) (E : XK) : TS :=
    tOst K "name" (tVar 0) (tVar 1)
/-- Row.__init__ -/
abbrev n_Row_init : List Str := ["self", "files", "name"]
def t_Row_init_b1 (K : PySem.W.Frag) (sp_is_name : Sp) (E : XK) : TS :=
    tIfS (tNot (tB (tCW sp_is_name [] (WD E) (tCons (tVar 2) (tNil))))) (tRs1 (He.ga K "BadName") "name" (WD E) (tVar 2)) (tNext)
def t_Row_init (K : PySem.W.Frag) (sp_is_name : Sp) (E : XK) : TS :=
    tSeq (tFor (iSeq K (tVar 1)) (gName 2) (t_Row_init_b1 K sp_is_name E))
    (sFld K (tVar 0) (tCB (rTupOf K) (tCons (tVar 1) (tNil))) "looks")
/-- _law_row -/
abbrev n_l_row : List Str := ["_law_pool_here", "_law_looks", "_law_given", "_law_row_here"]
def t_l_row (K : PySem.W.Frag) (sp_Row_init sp_l_take : Sp) (E : XK) : TS :=
    tSeq (tAsg (tCB (rListOf K) (tCons (tVar 1) (tNil))) (gName 2))
    (tSeq (tAsg (tNW (He.ga K "Row") sp_Row_init [] (WD E) (tCons (tVar 2) (tNil))) (gName 3))
    (tSeq (tIfS (tTest (tOp (oEq K) (tCW sp_l_take [] (WD E) (tCons (tVar 0) (tCons (tC (.int 2)) (tNil)))) (tC (.int 0)))) (tAsg (tNW (He.ga K "Row") sp_Row_init [] (WD E) (tCons (tCB (rTupOf K) (tCons (tVar 1) (tNil))) (tNil))) (gName 3)) (tNext))
    (tSeq (tDrop (tBM K "list" rAppend (tVar 2) (tCons (tC (.str "zz")) (tNil))))
    (tRet (tVar 3)))))
/-- _law_stranger -/
abbrev n_l_stranger : List Str := ["_law_pool_here", "_law_names_here", "_law_word", "_law_letters", "_law_start", "_law_k", "_law_one"]
def t_l_stranger_b1 (K : PySem.W.Frag) (sp_l_take : Sp) (E : XK) : TS :=
    tSeq (tAsg (tOp (oAdd K) (tOp (oGet K) (tVar 3) (tOp rModI (tOp (oAdd K) (tVar 4) (tVar 5)) (tC (.int 26)))) (tSl (oSl K) (tVar 2) (tPart (tC (.int 1))) (tNoPart))) (gName 6))
    (tIfS (tTest (tOp (oIn K true) (tVar 6) (tVar 1))) (tRet (tVar 6)) (tNext))
def t_l_stranger (K : PySem.W.Frag) (sp_l_take : Sp) (E : XK) : TS :=
    tSeq (tAsg (tC (.str "q")) (gName 2))
    (tSeq (tIfS (tTest (tOp (oNe K) (tVar 1) (tLst (tNil)))) (tAsg (tOp (oGet K) (tVar 1) (tCW sp_l_take [] (WD E) (tCons (tVar 0) (tCons (tCB (oLen K) (tCons (tVar 1) (tNil))) (tNil))))) (gName 2)) (tNext))
    (tSeq (tAsg (tC (.str "abcdefghijklmnopqrstuvwxyz")) (gName 3))
    (tSeq (tAsg (tCW sp_l_take [] (WD E) (tCons (tVar 0) (tCons (tC (.int 26)) (tNil)))) (gName 4))
    (tSeq (tFor (iRng1 (tCons (tC (.int 26)) (tNil))) (gName 5) (t_l_stranger_b1 K sp_l_take E))
    (tRet (tC (.str "nobody")))))))
/-- Row.__contains__ -/
abbrev n_Row_contains : List Str := ["self", "file"]
def t_Row_contains (K : PySem.W.Frag) (E : XK) : TS :=
    tRet (tOp (oIn K false) (tVar 1) (tFld K (tVar 0) "looks"))
/-- Row.__add__ -/
abbrev n_Row_add : List Str := ["self", "other"]
def t_Row_add (K : PySem.W.Frag) (sp_Row_init : Sp) (E : XK) : TS :=
    tSeq (tIfS (tNot (tB (tCB (rIsi K) (tCons (tVar 1) (tCons (tC (.ref (He.ga K "Row"))) (tNil)))))) (tNever) (tNext))
    (tRet (tNW (He.ga K "Row") sp_Row_init [] (WD E) (tCons (tOp (oAdd K) (tFld K (tVar 0) "looks") (tFld K (tVar 1) "looks")) (tNil))))
/-- Row.files -/
abbrev n_Row_files : List Str := ["self", "place", "file"]
def t_Row_files_e1 (K : PySem.W.Frag) (E : XK) : TE :=
    tVar 2
def t_Row_files_i1 (K : PySem.W.Frag) (E : XK) : TT :=
    tTest (tOp (oIn K true) (tVar 2) (tSl (oSl K) (tFld K (tVar 0) "looks") (tNoPart) (tPart (tVar 1))))
def t_Row_files (K : PySem.W.Frag) (E : XK) : TS :=
    tRet (tCB (rTupOf K) (tCons (tLc (iEnumT K (tCons (tFld K (tVar 0) "looks") (tNil))) (gTup K 2 (gCons (gName 1) (gCons (gName 2) (gNil)))) ((t_Row_files_i1 K  E)) (t_Row_files_e1 K  E) [1, 2]) (tNil)))
/-- _law_distinct -/
abbrev n_l_distinct : List Str := ["_law_looks", "_law_k", "_law_file"]
def t_l_distinct_e1 (K : PySem.W.Frag) (E : XK) : TE :=
    tVar 2
def t_l_distinct_i1 (K : PySem.W.Frag) (E : XK) : TT :=
    tTest (tOp (oIn K true) (tVar 2) (tSl (oSl K) (tVar 0) (tNoPart) (tPart (tVar 1))))
def t_l_distinct (K : PySem.W.Frag) (E : XK) : TS :=
    tRet (tCB (rTupOf K) (tCons (tLc (iEnum K (tCons (tVar 0) (tNil))) (gTup K 2 (gCons (gName 1) (gCons (gName 2) (gNil)))) ((t_l_distinct_i1 K  E)) (t_l_distinct_e1 K  E) [1, 2]) (tNil)))
/-- Row.__len__ -/
abbrev n_Row_len : List Str := ["self"]
def t_Row_len (K : PySem.W.Frag) (E : XK) : TS :=
    tRet (tCB (oLen K) (tCons (tFld K (tVar 0) "looks") (tNil)))
/-- is_whole -/
abbrev n_is_whole : List Str := ["value"]
def t_is_whole (K : PySem.W.Frag) (E : XK) : TS :=
    tRet (tAndV (tCB (rIsi K) (tCons (tVar 0) (tCons (tC (.ty "int")) (tNil)))) (tNotV (tCB (rIsi K) (tCons (tVar 0) (tCons (tC (.ty "bool")) (tNil))))))
/-- is_count -/
abbrev n_is_count : List Str := ["value"]
def t_is_count (K : PySem.W.Frag) (sp_is_whole : Sp) (E : XK) : TS :=
    tRet (tAndV (tCW sp_is_whole [] (WD E) (tCons (tVar 0) (tNil))) (tOp rGeI (tVar 0) (tC (.int 0))))
/-- BadNumber.__init__ -/
abbrev n_BadNumber_init : List Str := ["self", "value"]
def t_BadNumber_init (K : PySem.W.Frag) (E : XK) : TS :=
    tOst K "value" (tVar 0) (tVar 1)
/-- Row.__getitem__ -/
abbrev n_Row_getitem : List Str := ["self", "place"]
def t_Row_getitem (K : PySem.W.Frag) (sp_is_count : Sp) (E : XK) : TS :=
    tSeq (tIfS (tOr (tNot (tB (tCW sp_is_count [] (WD E) (tCons (tVar 1) (tNil))))) (tTest (tOp rGeI (tVar 1) (tCB (oLen K) (tCons (tFld K (tVar 0) "looks") (tNil)))))) (tRs1 (He.ga K "BadNumber") "value" (WD E) (tVar 1)) (tNext))
    (tRet (tOp (oGet K) (tFld K (tVar 0) "looks") (tVar 1)))
/-- _law_right -/
abbrev n_l_right : List Str := ["_law_row_here", "_law_looks", "_law_k"]
def t_l_right_e1 (K : PySem.W.Frag) (sp_Row_files sp_l_distinct sp_Row_len sp_Row_getitem : Sp) (E : XK) : TE :=
    tOpO2 (He.ga K "Row") sp_Row_getitem W0 (tVar 0) (tVar 2)
def t_l_right (K : PySem.W.Frag) (sp_Row_files sp_l_distinct sp_Row_len sp_Row_getitem : Sp) (E : XK) : TS :=
    tSeq (tIfS (tOr (tTest (tOp (oNe K) (tFld K (tVar 0) "looks") (tCB (rTupOf K) (tCons (tVar 1) (tNil))))) (tOr (tTest (tOp (oNe K) (tProp (He.ga K "Row") sp_Row_files [] E0 (tVar 0)) (tCW sp_l_distinct [] (WD E) (tCons (tVar 1) (tNil))))) (tTest (tOp (oNe K) (tCB (rLenO (He.ga K "Row") sp_Row_len) (tCons (tVar 0) (tNil))) (tCB (oLen K) (tCons (tVar 1) (tNil))))))) (tRet (tC (.bl false))) (tNext))
    (tSeq (tIfS (tOr (tNot (tB (tCB (rIsi K) (tCons (tFld K (tVar 0) "looks") (tCons (tC (.ty "tuple")) (tNil)))))) (tNot (tB (tCB (rIsi K) (tCons (tProp (He.ga K "Row") sp_Row_files [] E0 (tVar 0)) (tCons (tC (.ty "tuple")) (tNil))))))) (tRet (tC (.bl false))) (tNext))
    (tRet (tOp (oEq K) (tLc (iRng1 (tCons (tCB (oLen K) (tCons (tVar 1) (tNil))) (tNil))) (gName 2) (tYes) (t_l_right_e1 K sp_Row_files sp_l_distinct sp_Row_len sp_Row_getitem E) [2]) (tCB (rListOf K) (tCons (tVar 1) (tNil))))))
/-- Row.__neg__ -/
abbrev n_Row_neg : List Str := ["self"]
def t_Row_neg (K : PySem.W.Frag) (sp_Row_init : Sp) (E : XK) : TS :=
    tRet (tNW (He.ga K "Row") sp_Row_init [] (WD E) (tCons (tRevA K (tFld K (tVar 0) "looks")) (tNil)))
/-- repeated -/
abbrev n_repeated : List Str := ["looks", "number"]
def t_repeated (K : PySem.W.Frag) (sp_is_count : Sp) (E : XK) : TS :=
    tSeq (tIfS (tNot (tB (tCW sp_is_count [] (WD E) (tCons (tVar 1) (tNil))))) (tRs1 (He.ga K "BadNumber") "value" (WD E) (tVar 1)) (tNext))
    (tRet (tOp (oMulA K) (tVar 0) (tVar 1)))
/-- Row.__mul__ -/
abbrev n_Row_mul : List Str := ["self", "number"]
def t_Row_mul (K : PySem.W.Frag) (sp_Row_init sp_repeated : Sp) (E : XK) : TS :=
    tRet (tNW (He.ga K "Row") sp_Row_init [] (WD E) (tCons (tCW sp_repeated [] (WD E) (tCons (tFld K (tVar 0) "looks") (tCons (tVar 1) (tNil)))) (tNil)))
/-- Row.__rmul__ -/
abbrev n_Row_rmul : List Str := ["self", "number"]
def t_Row_rmul (K : PySem.W.Frag) (sp_Row_init sp_repeated : Sp) (E : XK) : TS :=
    tRet (tNW (He.ga K "Row") sp_Row_init [] (WD E) (tCons (tCW sp_repeated [] (WD E) (tCons (tFld K (tVar 0) "looks") (tCons (tVar 1) (tNil)))) (tNil)))
/-- Row.__eq__ -/
abbrev n_Row_eq : List Str := ["self", "other"]
def t_Row_eq (K : PySem.W.Frag) (E : XK) : TS :=
    tRet (tAndV (tCB (rIsi K) (tCons (tVar 1) (tCons (tC (.ref (He.ga K "Row"))) (tNil)))) (tOp (oEq K) (tFld K (tVar 0) "looks") (tFld K (tVar 1) "looks")))
/-- _law_counted -/
abbrev n_l_counted : List Str := ["_law_row_here", "_law_looks", "_law_many"]
def t_l_counted (K : PySem.W.Frag) (sp_l_right sp_Row_mul sp_Row_rmul sp_Row_eq : Sp) (E : XK) : TS :=
    tSeq (tIfS (tOr (tNot (tB (tCW sp_l_right [] (WD E) (tCons (tBinL K (He.ga K "Row") "mul" sp_Row_mul (WD E) (tVar 0) (tVar 2)) (tCons (tOp (oMulA K) (tVar 1) (tVar 2)) (tNil)))))) (tNot (tB (tCW sp_l_right [] (WD E) (tCons (tMulR K (He.ga K "Row") sp_Row_rmul (WD E) (tVar 2) (tVar 0)) (tCons (tOp (oMulA K) (tVar 1) (tVar 2)) (tNil))))))) (tRet (tC (.bl false))) (tNext))
    (tRet (tAndV (tOp rIsB (tOp (rCmpO K (He.ga K "Row") sp_Row_eq) (tBinL K (He.ga K "Row") "mul" sp_Row_mul (WD E) (tVar 0) (tVar 2)) (tMulR K (He.ga K "Row") sp_Row_rmul (WD E) (tVar 2) (tVar 0))) (tC (.bl true))) (tOp rIsB (tOp (rCmpO K (He.ga K "Row") sp_Row_eq) (tBinL K (He.ga K "Row") "mul" sp_Row_mul (WD E) (tVar 0) (tC (.int 1))) (tVar 0)) (tC (.bl true)))))
/-- law -/
abbrev n_law : List Str := ["_law_script", "_law_pool_here", "_law_stock", "_law_looks", "_law_others", "_law_one", "_law_two", "_law_new", "_law_file", "_law_many", "_law_k"]
def t_law_e1 (K : PySem.W.Frag) (sp_l_pool sp_l_cell sp_l_names sp_l_take sp_l_row sp_l_stranger sp_Row_contains sp_Row_add sp_l_right sp_Row_neg sp_l_counted sp_Row_eq sp_Row_init : Sp) (E : XK) : TE :=
    tOp (oGet K) (tVar 2) (tCW sp_l_take [] W0 (tCons (tVar 1) (tCons (tCB (oLen K) (tCons (tVar 2) (tNil))) (tNil))))
def t_law_e2 (K : PySem.W.Frag) (sp_l_pool sp_l_cell sp_l_names sp_l_take sp_l_row sp_l_stranger sp_Row_contains sp_Row_add sp_l_right sp_Row_neg sp_l_counted sp_Row_eq sp_Row_init : Sp) (E : XK) : TE :=
    tOp (oGet K) (tVar 2) (tCW sp_l_take [] W0 (tCons (tVar 1) (tCons (tCB (oLen K) (tCons (tVar 2) (tNil))) (tNil))))
def t_law_b1 (K : PySem.W.Frag) (sp_l_pool sp_l_cell sp_l_names sp_l_take sp_l_row sp_l_stranger sp_Row_contains sp_Row_add sp_l_right sp_Row_neg sp_l_counted sp_Row_eq sp_Row_init : Sp) (E : XK) : TS :=
    tIfS (tOr (tTest (tOp (oNe K) (tInO (He.ga K "Row") false sp_Row_contains (WD E) (tVar 8) (tVar 5)) (tOp (oIn K false) (tVar 8) (tVar 3)))) (tTest (tOp (oNe K) (tInO (He.ga K "Row") false sp_Row_contains (WD E) (tVar 8) (tBinO (He.ga K "Row") sp_Row_add (WD E) (tVar 5) (tVar 6))) (tOp (oIn K false) (tVar 8) (tOp (oAdd K) (tVar 3) (tVar 4)))))) (tRet (tC (.bl false))) (tNext)
def t_law (K : PySem.W.Frag) (sp_l_pool sp_l_cell sp_l_names sp_l_take sp_l_row sp_l_stranger sp_Row_contains sp_Row_add sp_l_right sp_Row_neg sp_l_counted sp_Row_eq sp_Row_init : Sp) (E : XK) : TS :=
    tSeq (tAsg (tCW sp_l_pool [] (WD E) (tCons (tCW sp_l_cell [] (WD E) (tCons (tVar 0) (tCons (tC (.int 0)) (tNil)))) (tNil))) (gName 1))
    (tSeq (tAsg (tCW sp_l_names [] (WD E) (tCons (tVar 1) (tCons (tOp (oAdd K) (tC (.int 1)) (tCW sp_l_take [] (WD E) (tCons (tVar 1) (tCons (tC (.int 6)) (tNil))))) (tNil)))) (gName 2))
    (tSeq (tAsg (tCW sp_l_pool [] (WD E) (tCons (tCW sp_l_cell [] (WD E) (tCons (tVar 0) (tCons (tC (.int 1)) (tNil)))) (tNil))) (gName 1))
    (tSeq (tAsg (tLc (iRng1 (tCons (tCW sp_l_take [] (WD E) (tCons (tVar 1) (tCons (tC (.int 11)) (tNil)))) (tNil))) (gName 10) (tYes) (t_law_e1 K sp_l_pool sp_l_cell sp_l_names sp_l_take sp_l_row sp_l_stranger sp_Row_contains sp_Row_add sp_l_right sp_Row_neg sp_l_counted sp_Row_eq sp_Row_init E) [10]) (gName 3))
    (tSeq (tAsg (tCW sp_l_pool [] (WD E) (tCons (tCW sp_l_cell [] (WD E) (tCons (tVar 0) (tCons (tC (.int 2)) (tNil)))) (tNil))) (gName 1))
    (tSeq (tAsg (tLc (iRng1 (tCons (tCW sp_l_take [] (WD E) (tCons (tVar 1) (tCons (tC (.int 11)) (tNil)))) (tNil))) (gName 10) (tYes) (t_law_e2 K sp_l_pool sp_l_cell sp_l_names sp_l_take sp_l_row sp_l_stranger sp_Row_contains sp_Row_add sp_l_right sp_Row_neg sp_l_counted sp_Row_eq sp_Row_init E) [10]) (gName 4))
    (tSeq (tAsg (tCW sp_l_row [] (WD E) (tCons (tVar 1) (tCons (tVar 3) (tNil)))) (gName 5))
    (tSeq (tAsg (tCW sp_l_row [] (WD E) (tCons (tVar 1) (tCons (tVar 4) (tNil)))) (gName 6))
    (tSeq (tAsg (tCW sp_l_stranger [] (WD E) (tCons (tVar 1) (tCons (tVar 2) (tNil)))) (gName 7))
    (tSeq (tFor (iSeq K (tOp (oAdd K) (tVar 2) (tLst (tCons (tVar 7) (tNil))))) (gName 8) (t_law_b1 K sp_l_pool sp_l_cell sp_l_names sp_l_take sp_l_row sp_l_stranger sp_Row_contains sp_Row_add sp_l_right sp_Row_neg sp_l_counted sp_Row_eq sp_Row_init E))
    (tSeq (tIfS (tOr (tNot (tB (tCW sp_l_right [] (WD E) (tCons (tVar 5) (tCons (tVar 3) (tNil)))))) (tOr (tNot (tB (tCW sp_l_right [] (WD E) (tCons (tVar 6) (tCons (tVar 4) (tNil)))))) (tNot (tB (tCW sp_l_right [] (WD E) (tCons (tBinO (He.ga K "Row") sp_Row_add (WD E) (tVar 5) (tVar 6)) (tCons (tOp (oAdd K) (tVar 3) (tVar 4)) (tNil)))))))) (tRet (tC (.bl false))) (tNext))
    (tSeq (tIfS (tOr (tNot (tB (tCW sp_l_right [] (WD E) (tCons (tOpO1 (He.ga K "Row") sp_Row_neg (WD E) (tVar 5)) (tCons (tRevA K (tVar 3)) (tNil)))))) (tNot (tB (tCW sp_l_right [] (WD E) (tCons (tOpO1 (He.ga K "Row") sp_Row_neg (WD E) (tBinO (He.ga K "Row") sp_Row_add (WD E) (tVar 6) (tVar 5))) (tCons (tOp (oAdd K) (tRevA K (tVar 3)) (tRevA K (tVar 4))) (tNil))))))) (tRet (tC (.bl false))) (tNext))
    (tSeq (tAsg (tCW sp_l_take [] (WD E) (tCons (tVar 1) (tCons (tC (.int 5)) (tNil)))) (gName 9))
    (tSeq (tIfS (tTest (tOp rLtI (tCB (oLen K) (tCons (tVar 3) (tNil))) (tC (.int 2)))) (tAsg (tOp (oAdd K) (tOp (oMulA K) (tC (.int 7)) (tVar 9)) (tCW sp_l_take [] (WD E) (tCons (tVar 1) (tCons (tC (.int 13)) (tNil))))) (gName 9)) (tNext))
    (tSeq (tIfS (tOr (tNot (tB (tCW sp_l_counted [] (WD E) (tCons (tVar 5) (tCons (tVar 3) (tCons (tVar 9) (tNil))))))) (tNot (tB (tCW sp_l_counted [] (WD E) (tCons (tVar 6) (tCons (tVar 4) (tCons (tC (.int 0)) (tNil)))))))) (tRet (tC (.bl false))) (tNext))
    (tSeq (tIfS (tOr (tTest (tOp (oNe K) (tOp (rCmpO K (He.ga K "Row") sp_Row_eq) (tVar 5) (tVar 6)) (tOp (oEq K) (tVar 3) (tVar 4)))) (tNot (tTest (tOp (rCmpO K (He.ga K "Row") sp_Row_eq) (tVar 5) (tNW (He.ga K "Row") sp_Row_init [] (WD E) (tCons (tVar 3) (tNil))))))) (tRet (tC (.bl false))) (tNext))
    (tSeq (tIfS (tOr (tTest (tOp (rCmpO K (He.ga K "Row") sp_Row_eq) (tVar 5) (tCB (rTupOf K) (tCons (tVar 3) (tNil))))) (tOr (tTest (tOp (rCmpO K (He.ga K "Row") sp_Row_eq) (tVar 5) (tVar 3))) (tTest (tOp (rCmpO K (He.ga K "Row") sp_Row_eq) (tVar 5) (tC (.int 0)))))) (tRet (tC (.bl false))) (tNext))
    (tRet (tAndV (tCW sp_l_right [] (WD E) (tCons (tVar 5) (tCons (tVar 3) (tNil)))) (tAndV (tCW sp_l_right [] (WD E) (tCons (tVar 6) (tCons (tVar 4) (tNil)))) (tOp (oEq K) (tOp (rCmpO K (He.ga K "Row") sp_Row_eq) (tOpO1 (He.ga K "Row") sp_Row_neg (WD E) (tVar 5)) (tVar 5)) (tOp (oEq K) (tVar 3) (tRevA K (tVar 3)))))))))))))))))))))))
/-! ## promises -/
section
local macro_rules | `(tactic| walk_at "rd") => `(tactic| try simp (maxSteps := 4000000) only [tSeq, tAsg, gName, gSub, gTup, gCons, gNil, tIfS, tTest, tB, tOp, tUn, tVar, tC, tCB, tCons, tNil, tRet, tRetN, tDrop, tNext, tCont, tBreak, tLst, tTup, tNot, tAnd, tOr, tNotV, tAndV, tOrV, tIf, tCW, tMW, tNW, tSl, tPart, tNoPart, tBM, tBM0, tFld, sFld, tRs1, tRs2, WE, tTryAs, tXf, tRevA, iEnumT, iEnum, iRng2, tOpO1, tOpO2, tBinO, tBinL, tMulR, tCmpO, tInO, tProp, tYes, for_eq, lc_eq, wipe, iRng1, iList, iTup, iSeq, iStr, start, List.map_cons, List.map_nil, List.length_cons, List.length_nil, List.cons_append, List.nil_append, List.append_nil, List.replicate_succ, List.replicate_zero, Nat.reduceAdd, Nat.reduceSub, Nat.sub_self, Nat.zero_add, List.getElem?_cons_zero, List.getElem?_cons_succ, List.set_cons_zero, List.set_cons_succ, Option.some.injEq, exists_eq_left', V.ref.injEq, V.int.injEq, V.bl.injEq, V.str.injEq, decide_eq_true_eq, true_and, and_true, if_true, if_false, Bool.false_eq_true, Bool.not_true, Bool.not_false, s_addI, s_addS, s_subI, s_mulI, s_modI, s_divI, s_powI, s_ltI, s_leI, s_gtI, s_geI, s_int1, s_slS, s_lenS])
/-! ### the draws -/
/-- a pool at p, from which at most n times was drawn -/
def PoolAt (H : Hp) (p : Addr) (n : Nat) : Prop := ∃ x y z : Int, H p = some (.lst [.int x, .int y, .int z]) ∧ 0 ≤ x ∧ 0 ≤ y ∧ y < 1000000007 ∧ 0 ≤ z ∧ z ≤ n
/-- only p has changed | all that stood stands, but p -/
def Alt (p : Addr) (H H' : Hp) : Prop := ∀ a, a ≠ p → H' a = H a
def But (p : Addr) (H H' : Hp) : Prop := ∀ a u, a ≠ p → H a = some u → H' a = some u
theorem Alt.but {p : Addr} {H H' : Hp} (h : Alt p H H') : But p H H' := fun a u n e => (h a n).trans e
theorem But.trans {p : Addr} {H H1 H2 : Hp} (a : But p H H1) (b : But p H1 H2) : But p H H2 := fun c u n e => b c u n (a c u n e)
theorem But.refl {p : Addr} {H : Hp} : But p H H := fun _ _ _ e => e
theorem But.new {p l : Addr} {o : HO} {H H' : Hp} (h : But p H H') (hl : H' l = none) : But p H (upd H' l o) := fun c u n e => at_new hl (h c u n e)
/-- an object that was new may change -/
theorem But.mut {p l : Addr} {o : HO} {H H' : Hp} (h : But p H H') (hl : H l = none) : But p H (upd H' l o) := fun c u n e => at_set (ne_of_none e hl) (h c u n e)
theorem But.of {p : Addr} {H H' : Hp} (h : Same H H') : But p H H' := fun a u _ e => h a u e
theorem PoolAt.mono {H : Hp} {p : Addr} {n m : Nat} (h : PoolAt H p n) (hm : n ≤ m) : PoolAt H p m := by
  obtain ⟨x, y, z, a, b, c, d, e, f⟩ := h
  exact ⟨x, y, z, a, b, c, d, e, by omega⟩
theorem PoolAt.ex {H : Hp} {p : Addr} {n : Nat} (h : PoolAt H p n) : ∃ u, H p = some u := by
  obtain ⟨x, y, z, a, _⟩ := h
  exact ⟨_, a⟩
theorem PoolAt.new {H : Hp} {p l : Addr} {n : Nat} {o : HO} (h : PoolAt H p n) (hl : H l = none) : PoolAt (upd H l o) p n := by
  obtain ⟨x, y, z, a, r⟩ := h
  exact ⟨x, y, z, at_new hl a, r⟩
theorem PoolAt.set {H : Hp} {p l : Addr} {n : Nat} {o : HO} (h : PoolAt H p n) (hl : p ≠ l) : PoolAt (upd H l o) p n := by
  obtain ⟨x, y, z, a, r⟩ := h
  exact ⟨x, y, z, at_set hl a, r⟩
theorem PoolAt.keep {H H' : Hp} {p : Addr} {n : Nat} (h : PoolAt H p n) (k : ∀ u, H p = some u → H' p = some u) : PoolAt H' p n := by
  obtain ⟨x, y, z, a, r⟩ := h
  exact ⟨x, y, z, k _ a, r⟩

def sp_l_cell (K : PySem.W.Frag) : Sp := fun vs H Q _ => ∃ (a : Addr) (ns : List Int) (k : Nat), vs = [.ref a, .int k] ∧ SqL K H a (ns.map V.int) ∧ ∀ i : Int, Q (.int i) H
theorem len_l_cell {K : PySem.W.Frag} : ∀ vs H Q E, sp_l_cell K vs H Q E → vs.length = 2 := by rintro _ _ _ _ ⟨_, _, _, rfl, _⟩; rfl
theorem pu_l_cell {K : PySem.W.Frag} : ∀ vs H Q E, sp_l_cell K vs H Q E → t_l_cell K E { nx := fun _ H' => Q .non H', rt := Q } (start ["_law_script", "_law_k"] vs) H := by
  rintro _ H Q E ⟨a, ns, k, rfl, hS, q⟩
  unfold t_l_cell
  walk_at "rd"
  refine lenL hS ?_
  walk_at "rd"
  split
  · rename_i c
    rw [List.length_map] at c
    have hk : k < ns.length := by omega
    refine getL (v := .int ns[k]) hS (atI_nat ?_) (q _)
    rw [List.getElem?_map, List.getElem?_eq_getElem hk]
    rfl
  · exact q 0

def sp_l_pool : Sp := fun vs H Q _ => ∃ i : Int, vs = [.int i] ∧ ∀ (p : Addr) (o : HO), H p = none → PoolAt (upd H p o) p 0 → Q (.ref p) (upd H p o)
theorem len_l_pool : ∀ vs H Q E, sp_l_pool vs H Q E → vs.length = 1 := by rintro _ _ _ _ ⟨_, rfl, _⟩; rfl
theorem pu_l_pool {K : PySem.W.Frag} : ∀ vs H Q E, sp_l_pool vs H Q E → t_l_pool K E { nx := fun _ H' => Q .non H', rt := Q } (start ["_law_cell_here", "_law_folded"] vs) H := by
  rintro _ H Q E ⟨i, rfl, q⟩
  unfold t_l_pool
  walk_at "rd"
  have e3 : (3 : Nat) ≤ sizeLine := by decide
  have key : ∀ f x : Int, 0 ≤ x → ∀ p, H p = none → Q (.ref p) (upd H p (.lst [.int x, .int (f % 1000000007), .int 0])) := fun f x hx p hp =>
    q p _ hp ⟨_, _, _, upd_same, hx, Int.emod_nonneg f (by decide), Int.emod_lt_of_pos f (by decide), by decide, by decide⟩
  refine ⟨.inl ⟨by decide, by decide⟩, ?_⟩
  split
  · refine ⟨.inl ⟨by decide, by decide⟩, ⟨by decide, by decide, by decide⟩, ?_⟩
    split
    · exact ⟨by decide, e3, key _ _ (by omega)⟩
    · exact ⟨by decide, e3, key _ _ (by omega)⟩
  · refine ⟨⟨by decide, by decide, by decide⟩, ?_⟩
    split
    · exact ⟨by decide, e3, key _ _ (by omega)⟩
    · exact ⟨by decide, e3, key _ _ (by omega)⟩

def sp_l_take : Sp := fun vs H Q _ => ∃ (p : Addr) (m : Int) (n : Nat), vs = [.ref p, .int m] ∧ PoolAt H p n ∧ n ≤ 1000000 ∧ 0 < m ∧ m < 1000000000 ∧ ∀ (r : Int) (H' : Hp), 0 ≤ r → r < m → PoolAt H' p (n + 1) → Alt p H H' → Q (.int r) H'
theorem len_l_take : ∀ vs H Q E, sp_l_take vs H Q E → vs.length = 2 := by rintro _ _ _ _ ⟨_, _, _, rfl, _⟩; rfl
theorem pu_l_take {K : PySem.W.Frag} : ∀ vs H Q E, sp_l_take vs H Q E → t_l_take K E { nx := fun _ H' => Q .non H', rt := Q } (start ["_law_pool_here", "_law_many", "_law_draw", "_law_mixed"] vs) H := by
  rintro _ H Q E ⟨p, m, n, rfl, ⟨x, y, z, hp, h0, h1, h2, h3, h4⟩, hn, hm0, hm1, q⟩
  have alt : ∀ o, Alt p H (upd H p o) := fun o a ha => upd_ne ha
  unfold t_l_take
  walk_at "rd"
  refine getL (v := .int x) (SqL.of hp) rfl ?_
  walk_at "rd"
  split
  · refine getL (v := .int x) (SqL.of hp) rfl ?_
    walk_at "rd"
    refine ⟨hm0, getL (v := .int x) (SqL.of hp) rfl ?_⟩
    walk_at "rd"
    refine ⟨⟨hm0, by omega⟩, setL (k := 0) hp rfl ?_⟩
    exact q _ _ (Int.emod_nonneg _ (by omega)) (Int.emod_lt_of_pos _ hm0) ⟨_, _, _, upd_same, Int.ediv_nonneg h0 (by omega), h1, h2, h3, by omega⟩ (alt _)
  · refine getL (v := .int z) (SqL.of hp) rfl ?_
    walk_at "rd"
    refine setL (k := 2) hp rfl ?_
    have g1 : upd H p (.lst [.int x, .int y, .int (z + 1)]) p = some (.lst [.int x, .int y, .int (z + 1)]) := upd_same
    refine getL (v := .int y) (SqL.of g1) rfl (getL (v := .int (z + 1)) (SqL.of g1) rfl ?_)
    walk_at "rd"
    refine ⟨.inl ⟨by decide, by decide⟩, ⟨by decide, by decide, ?_⟩, by decide, getL (v := .int (z + 1)) (SqL.of g1) rfl ?_⟩
    · have : (2 : Nat) ^ 64 = 18446744073709551616 := by decide
      omega
    · walk_at "rd"
      refine ⟨.inr ⟨by decide, by decide⟩, by decide, hm0, ?_⟩
      exact q _ _ (Int.emod_nonneg _ (by omega)) (Int.emod_lt_of_pos _ hm0) ⟨_, _, _, upd_same, h0, h1, h2, by omega, by omega⟩ (alt _)
/-! ### texts as lists of signs -/
def cl (s : Str) : List Nat := s.cps.toList
theorem cl_inj {s t : Str} (h : cl s = cl t) : s = t := by
  cases s; cases t; simp only [cl] at h; rw [Array.toList_inj.mp h]
theorem cl_app (a b : Str) : cl (a ++ b) = cl a ++ cl b := Array.toList_append
theorem cl_len (s : Str) : s.length = (cl s).length := rfl
theorem cl_one (c : Nat) : cl ⟨#[c]⟩ = [c] := rfl
theorem cl_hi (s : Str) (k : Nat) : cl (cutS s none (some (k : Int))) = (cl s).take k := by
  show (((cl s).drop (HT.sIx s.length 0 none)).take (HT.sIx s.length s.length (some (k : Int)) - HT.sIx s.length 0 none)).toArray.toList = _
  rw [HT.sIx_none, HT.sIx_nat, List.drop_zero, Nat.sub_zero, List.toList_toArray, cl_len, List.take_eq_take_iff]
  omega
theorem cl_lo (s : Str) (k : Nat) : cl (cutS s (some (k : Int)) none) = (cl s).drop k := by
  show (((cl s).drop (HT.sIx s.length 0 (some (k : Int)))).take (HT.sIx s.length s.length none - HT.sIx s.length 0 (some (k : Int)))).toArray.toList = _
  rw [HT.sIx_none, HT.sIx_nat, List.toList_toArray, cl_len]
  by_cases h : k ≤ (cl s).length
  · rw [Nat.min_eq_left h, List.take_of_length_le]
    rw [List.length_drop]; omega
  · rw [Nat.min_eq_right (by omega), List.drop_eq_nil_of_le (by omega : (cl s).length ≤ (cl s).length), List.drop_eq_nil_of_le (by omega : (cl s).length ≤ k), List.take_nil]
def Lt (c : Nat) : Prop := 97 ≤ c ∧ c < 123
def Sg (c : Nat) : Prop := (97 ≤ c ∧ c < 123) ∨ (48 ≤ c ∧ c < 58)
def NmL (l : List Nat) : Prop := 1 ≤ l.length ∧ l.length ≤ 8 ∧ (∀ c, l[0]? = some c → Lt c) ∧ ∀ c ∈ l, Sg c
/-- a name -/
def isNm (s : Str) : Prop := NmL (cl s)
abbrev letS : Str := "abcdefghijklmnopqrstuvwxyz"
abbrev sgS : Str := "abcdefghijklmnopqrstuvwxyz0123456789"
abbrev dgS : Str := "0123456789"
theorem cl_let : cl letS = List.range' 97 26 := by decide
theorem cl_dg : cl dgS = List.range' 48 10 := by decide
theorem cl_sg : cl sgS = List.range' 97 26 ++ List.range' 48 10 := by decide +kernel
theorem sg_eq : letS ++ dgS = sgS := cl_inj (by rw [cl_app, cl_let, cl_dg, cl_sg])
theorem mem_let {c : Nat} : c ∈ cl letS ↔ Lt c := by rw [cl_let, List.mem_range'_1]; rfl
theorem mem_sg {c : Nat} : c ∈ cl sgS ↔ Sg c := by rw [cl_sg, List.mem_append, List.mem_range'_1, List.mem_range'_1]; rfl
def sgC (i : Nat) : Nat := if i < 26 then 97 + i else 22 + i
theorem let_at {i : Nat} (h : i < 26) : (cl letS)[i]? = some (97 + i) := by
  rw [cl_let, List.getElem?_range' (by omega)]; simp
theorem sg_at {i : Nat} (h : i < 36) : (cl sgS)[i]? = some (sgC i) := by
  rw [cl_sg]
  unfold sgC
  split
  · rename_i c
    rw [List.getElem?_append_left (by simpa using c), List.getElem?_range' c]; simp
  · rename_i c
    rw [List.getElem?_append_right (by simp; omega), List.getElem?_range' (by simp; omega)]; simp; omega
theorem sgC_sg {i : Nat} (h : i < 36) : Sg (sgC i) := by unfold sgC Sg; split <;> omega
theorem let_lt {i : Nat} (h : i < 26) : Lt (97 + i) := by unfold Lt; omega
theorem Lt.sg {c : Nat} (h : Lt c) : Sg c := .inl h
theorem at_nat {α : Type} {xs : List α} {i : Int} {n : Nat} {v : α} (h0 : 0 ≤ i) (h : xs[i.toNat]? = some v) : atI xs i = some v := by
  have : i = (i.toNat : Int) := by omega
  rw [this]; exact atI_nat h
theorem small8 {s : Str} (h : (cl s).length ≤ 40) : s.length ≤ sizeLine := by
  have : (40 : Nat) ≤ sizeLine := by decide
  rw [cl_len]; omega
theorem small2 {s t : Str} (h : (cl s).length + (cl t).length ≤ 40) : s.length + t.length ≤ sizeLine := by
  have : (40 : Nat) ≤ sizeLine := by decide
  rw [cl_len, cl_len]; omega

/-! ### drawn names -/
def sp_l_names : Sp := fun vs H Q _ => ∃ (p : Addr) (m n : Nat), vs = [.ref p, .int m] ∧ PoolAt H p n ∧ n ≤ 999900 ∧ m ≤ 8 ∧
  ∀ (r : Addr) (ss : List Str) (H' : Hp), H r = none → H' r = some (.lst (ss.map V.str)) → ss.length = m → ss.Nodup → (∀ s ∈ ss, isNm s) → PoolAt H' p (n + 20) → But p H H' → Q (.ref r) H'
theorem len_l_names : ∀ vs H Q E, sp_l_names vs H Q E → vs.length = 2 := by rintro _ _ _ _ ⟨_, _, _, rfl, _⟩; rfl
theorem pu_l_names {K : PySem.W.Frag} : ∀ vs H Q E, sp_l_names vs H Q E → t_l_names K sp_l_take E { nx := fun _ H' => Q .non H', rt := Q } (start n_l_names vs) H := by
  rintro _ H Q E ⟨p, m, n, rfl, hp, hn, hm, q⟩
  unfold t_l_names n_l_names
  walk_at "rd"
  refine ⟨by decide, ?_⟩
  rw [sg_eq]
  refine ⟨p, 26, n, rfl, hp, by omega, by decide, by decide, fun r H1 r0 r1 hp1 a1 => ?_⟩
  refine getS (c := 97 + r.toNat) (by decide) (at_nat (n := 0) r0 (let_at (by omega))) ?_
  walk_at "rd"
  refine ⟨7, rfl, by decide, by decide, ?_⟩
  refine fg walk_range (fun i σ H' => ∃ (w : Str) (x5 : Option V), σ = [some (.ref p), some (.int m), some (.str letS), some (.str sgS), some (.str w), x5, none, none, none, none, none, none] ∧ (cl w).length = i + 1 ∧ (∀ c, (cl w)[0]? = some c → Lt c) ∧ (∀ c ∈ cl w, Sg c) ∧ PoolAt H' p (n + 1 + i) ∧ Alt p H H')
    ⟨_, _, rfl, rfl, by intro c h; cases h; exact let_lt (by omega), by intro c h; rw [cl_one, List.mem_singleton] at h; subst h; exact (let_lt (by omega)).sg, hp1, a1⟩ (fun _ _ _ _ _ => trivial) ?_ ?_
  · rintro i x _ H2 _ hi ⟨w, x5, rfl, w1, w2, w3, hp2, a2⟩ ⟨rfl, rfl⟩
    unfold t_l_names_b1
    walk_at "rd"
    refine ⟨p, 36, n + 1 + i, rfl, hp2, by omega, by decide, by decide, fun r H3 r0 r1 hp3 a3 => ?_⟩
    refine getS (c := sgC r.toNat) (by decide) (at_nat (n := 0) r0 (sg_at (by omega))) ?_
    walk_at "rd"
    have e : cl (w ++ (⟨#[sgC r.toNat]⟩ : Str)) = cl w ++ [sgC r.toNat] := cl_app _ _
    refine ⟨small2 (by rw [cl_one, List.length_singleton]; omega), _, _, rfl, ?_, ?_, ?_, hp3, fun a ha => (a3 a ha).trans (a2 a ha)⟩
    · rw [e, List.length_append, List.length_singleton, w1]
    · rw [e, List.getElem?_append_left (by omega)]; exact w2
    · intro c h
      rw [e, List.mem_append, List.mem_singleton] at h
      rcases h with h | h
      · exact w3 c h
      · subst h; exact sgC_sg (by omega)
  · rintro _ H2 ⟨w, x5, rfl, w1, w2, w3, hp2, a2⟩
    walk_at "rd"
    refine ⟨p, 3, n + 1 + 7, rfl, hp2, by omega, by decide, by decide, fun r H3 r0 r1 hp3 a3 => ?_⟩
    refine eqI ?_
    walk_at "rd"
    have a13 : Alt p H H3 := fun a ha => (a3 a ha).trans (a2 a ha)
    have z8 : (8 : Nat) ≤ sizeLine := by decide
    split
    · refine ⟨m, rfl, by omega, by omega, ?_⟩
      have wn : ∀ k, k < 8 → isNm (cutS w none (some ((k + 1 : Nat) : Int))) := by
        intro k hk
        unfold isNm
        rw [cl_hi]
        refine ⟨by rw [List.length_take]; omega, by rw [List.length_take]; omega, ?_, fun c hc => w3 c (List.mem_of_mem_take hc)⟩
        rw [List.getElem?_take_of_lt (by omega)]; exact w2
      refine lg walk_range (fun D i H' => H' D = some (.lst (((List.range i).map fun (k : Nat) => cutS w none (some ((k + 1 : Nat) : Int))).map V.str)) ∧ Same H3 H')
        (fun D hD => ⟨upd_same, Same.new hD⟩) (fun _ _ _ _ _ _ => trivial) ?_ ?_
      · rintro D hD i x H4 _ hi ⟨h4, s4⟩ ⟨rfl, rfl⟩
        unfold t_l_names_e1
        walk_at "rd"
        refine ⟨small8 (by omega), _, h4, by rw [List.length_map, List.length_map, List.length_range]; omega, ?_, fun a u e => at_set (fun e2 => by rw [e2, hD] at e; cases e) (s4 a u e)⟩
        rw [upd_same, List.range_succ, List.map_append, List.map_append, Int.zero_add]
        rfl
      · rintro D hD H4 ⟨h4, s4⟩
        have D0 : H D = none := by
          by_cases e : D = p
          · obtain ⟨u, hu⟩ := hp3.ex; rw [← e, hD] at hu; cases hu
          · rw [← a13 D e]; exact hD
        rw [Int.toNat_natCast] at h4
        refine q D _ H4 D0 h4 (by rw [List.length_map, List.length_range]) ?_ ?_ ((hp3.keep (s4 _)).mono (by omega)) fun a u ne e => s4 a u ((a13 a ne).trans e)
        · refine List.pairwise_map.mpr (List.Pairwise.imp_of_mem ?_ List.nodup_range)
          intro a b ha hb ne e
          rw [List.mem_range] at ha hb
          have := congrArg (fun s => (cl s).length) e
          simp only [cl_hi, List.length_take] at this
          omega
        · intro s hs
          obtain ⟨k, hk, rfl⟩ := List.mem_map.mp hs
          rw [List.mem_range] at hk
          exact wn k (by omega)
    · refine ⟨p, 8, n + 9, rfl, hp3, by omega, by decide, by decide, fun r8 H4 r80 r81 hp4 a4 => ?_⟩
      walk_at "rd"
      have er8 : r8 = (r8.toNat : Int) := by omega
      rw [er8]
      generalize hk8 : r8.toNat = k8 at *
      have k8l : k8 < 8 := by omega
      have e6 : cl (cutS w none (some (k8 : Int))) = (cl w).take k8 := cl_hi _ _
      generalize cutS w none (some (k8 : Int)) = st at *
      have sl : (cl st).length = k8 := by rw [e6, List.length_take]; omega
      have ssg : ∀ c ∈ cl st, Sg c := fun c h => w3 c (List.mem_of_mem_take (e6 ▸ h))
      have sf : ∀ c, (cl st)[0]? = some c → Lt c := by
        intro c h
        have h0 : 0 < (cl st).length := (List.getElem?_eq_some_iff.mp h).1
        rw [e6, List.getElem?_take_of_lt (by omega)] at h
        exact w2 c h
      refine ⟨small8 (by omega), small8 (by omega), ?_⟩
      refine ⟨p, _, n + 10, rfl, hp4, by omega, by rw [cl_len]; omega, by rw [cl_len]; omega, fun pl H5 pl0 pl1 hp5 a5 => ?_⟩
      rw [cl_len, sl] at pl1
      walk_at "rd"
      have a15 : Alt p H H5 := fun a ha => (a5 a ha).trans ((a4 a ha).trans (a13 a ha))
      refine eqI ?_
      walk_at "rd"
      have key : ∀ (told : Str) (N : Nat) (f : Nat → Nat), (cl told).length = N → N ≤ 36 → (∀ a b, a < 8 → b < 8 → ∀ x : Nat, (x + 7 * a) % N = (x + 7 * b) % N → a = b) → (∀ i, i < N → (cl told)[i]? = some (f i)) → (∀ i j, i < N → j < N → f i = f j → i = j) → (∀ i, i < N → Sg (f i)) → (pl = 0 → ∀ i, i < N → Lt (f i)) → 0 < N →
          ∀ (x : Int) (H6 : Hp) (A : Addr), 0 ≤ x → PoolAt H6 p (n + 12) → Alt p H5 H6 → H6 A = none → FG (Itr 0 (m : Int).toNat) (gName 5) (t_l_names_b2 K sp_l_take E) { nx := tRet (tVar 10) { nx := fun x H' => Q V.non H', rt := Q }, rt := Q }
            [some (V.ref p), some (V.int ↑m), some (V.str letS), some (V.str sgS), some (V.str w), x5, some (V.str st), some (V.int pl), some (V.str told), some (.int x), some (V.ref A), none] (upd H6 A (HO.lst [])) := by
        intro told N f tl N36 inj7 tat finj fsg flt N0 x H6 A x0 hp6 a6 hA
        have a16 : Alt p H H6 := fun a ha => (a6 a ha).trans (a15 a ha)
        have A0 : H A = none := by
          by_cases e : A = p
          · obtain ⟨u, hu⟩ := hp6.ex; rw [← e, hA] at hu; cases hu
          · rw [← a16 A e]; exact hA
        have Ap : p ≠ A := fun e => by obtain ⟨u, hu⟩ := hp6.ex; rw [e, hA] at hu; cases hu
        rw [Int.toNat_natCast]
        have epl : pl = (pl.toNat : Int) := by omega
        have ex : x = (x.toNat : Int) := by omega
        let sg : Nat → Nat := fun k => (x.toNat + 7 * k) % N
        have sgl : ∀ k, sg k < N := fun k => Nat.mod_lt _ N0
        let nm : Nat → Str := fun k => (cutS st none (some pl) ++ (⟨#[f (sg k)]⟩ : Str)) ++ cutS st (some pl) none
        have enm : ∀ k, cl (nm k) = ((cl st).take pl.toNat ++ [f (sg k)]) ++ (cl st).drop pl.toNat := by
          intro k
          show cl ((cutS st none (some pl) ++ (⟨#[f (sg k)]⟩ : Str)) ++ cutS st (some pl) none) = _
          rw [cl_app, cl_app, cl_one]
          rw [epl, cl_hi, cl_lo, Int.toNat_natCast]
        have lnm : ∀ k, (cl (nm k)).length = k8 + 1 := by
          intro k
          rw [enm, List.length_append, List.length_append, List.length_take, List.length_drop, List.length_singleton]
          omega
        refine fg walk_range (fun i σ H' => ∃ (x5 x11 : Option V), σ = [some (V.ref p), some (V.int ↑m), some (V.str letS), some (V.str sgS), some (V.str w), x5, some (V.str st), some (V.int pl), some (V.str told), some (.int x), some (V.ref A), x11] ∧
            H' A = some (.lst (((List.range i).map nm).map V.str)) ∧ PoolAt H' p (n + 12) ∧ But p H H') ⟨_, _, rfl, upd_same, hp6.new hA, a16.but.new hA⟩ (fun _ _ _ _ _ => trivial) ?_ ?_
        · rintro i x _ H7 _ hi ⟨x5, x11, rfl, h7, hp7, b7⟩ ⟨rfl, rfl⟩
          unfold t_l_names_b2
          walk_at "rd"
          refine ⟨.inl ⟨by decide, by decide⟩, small8 (by omega), by rw [cl_len]; omega, ?_⟩
          refine getS (c := f (sg i)) (small8 (by omega)) ?_ ?_
          · have : (x + 7 * (0 + (i : Int))) % (told.length : Int) = ((sg i : Nat) : Int) := by
              show _ = (((x.toNat + 7 * i) % N : Nat) : Int)
              rw [cl_len, tl, Int.natCast_emod]
              congr 1
              omega
            rw [this]
            exact atI_nat (tat _ (sgl i))
          · walk_at "rd"
            have c1 : (cl (cutS st none (some pl))).length ≤ 8 := by rw [epl, cl_hi, List.length_take]; omega
            have c2 : (cl (cutS st (some pl) none)).length ≤ 8 := by rw [epl, cl_lo, List.length_drop]; omega
            refine ⟨ty_list (SqL.of h7), small8 (by omega), small2 (by rw [cl_one, List.length_singleton]; omega), small8 (by omega), small2 (by rw [cl_app, List.length_append, cl_one, List.length_singleton]; omega), ?_⟩
            refine ⟨A, _, _, rfl, rfl, h7, by rw [List.length_map, List.length_map, List.length_range]; omega, _, _, rfl, ?_, hp7.set Ap, b7.mut A0⟩
            rw [upd_same, List.range_succ, List.map_append, List.map_append]
            rfl
        · rintro _ H7 ⟨x5, x11, rfl, h7, hp7, b7⟩
          walk_at "rd"
          refine q A _ H7 A0 h7 (by rw [List.length_map, List.length_range]) ?_ ?_ (hp7.mono (by omega)) b7
          · refine List.pairwise_map.mpr (List.Pairwise.imp_of_mem ?_ List.nodup_range)
            intro a b ha hb ne e
            rw [List.mem_range] at ha hb
            have e2 := congrArg cl e
            rw [enm, enm] at e2
            have e3 := List.append_cancel_left (List.append_cancel_right e2)
            have e4 : f (sg a) = f (sg b) := (List.cons.inj e3).1
            exact ne (inj7 a b (by omega) (by omega) _ (finj _ _ (sgl a) (sgl b) e4))
          · intro s hs
            obtain ⟨k, hk, rfl⟩ := List.mem_map.mp hs
            unfold isNm
            refine ⟨by rw [lnm]; omega, by rw [lnm]; omega, ?_, ?_⟩
            · intro c hc
              rw [enm] at hc
              by_cases e0 : pl = 0
              · rw [show pl.toNat = 0 by omega, List.take_zero, List.nil_append] at hc
                cases hc
                exact flt e0 _ (sgl k)
              · have h1 : 0 < ((cl st).take pl.toNat).length := by rw [List.length_take]; omega
                rw [List.append_assoc, List.getElem?_append_left h1, List.getElem?_take_of_lt (by omega)] at hc
                exact sf c hc
            · intro c hc
              rw [enm, List.mem_append, List.mem_append, List.mem_singleton] at hc
              rcases hc with (hc | hc) | hc
              · exact ssg c (List.mem_of_mem_take hc)
              · subst hc; exact fsg _ (sgl k)
              · exact ssg c (List.mem_of_mem_drop hc)
      split
      · refine ⟨p, 36, n + 11, rfl, hp5, by omega, by decide, by decide, fun x H6 x0 x1 hp6 a6 => ⟨by omega, fun A hA => ⟨m, rfl, by omega, by omega, ?_⟩⟩⟩
        exact key letS 26 (fun i => 97 + i) (by decide) (by decide) (by intro a b ha hb x h; omega) (fun i h => let_at h) (fun i j _ _ h => by omega) (fun i h => (let_lt h).sg) (fun _ i h => let_lt h) (by decide) x H6 A x0 hp6 a6 hA
      · rename_i h0
        refine ⟨p, 36, n + 11, rfl, hp5, by omega, by decide, by decide, fun x H6 x0 x1 hp6 a6 => ⟨by omega, fun A hA => ⟨m, rfl, by omega, by omega, ?_⟩⟩⟩
        exact key sgS 36 sgC (by decide +kernel) (by decide) (by intro a b ha hb x h; omega) (fun i h => sg_at h) (fun i j _ _ h => by unfold sgC at h; split at h <;> split at h <;> omega) (fun i h => sgC_sg h) (fun e => absurd e h0) (by decide) x H6 A x0 hp6 a6 hA
/-! ### lists of texts -/
theorem strOk_nm {s : Str} (h : isNm s) : PyData.strOk s = true := by
  unfold PyData.strOk
  rw [Array.all_eq_true']
  intro c hc
  have := h.2.2.2 c (Array.mem_toList_iff.mpr hc)
  unfold Sg at this
  simp only [decide_eq_true_eq]
  omega
theorem DpAll.strs {K : PySem.W.Frag} {H : Hp} : ∀ ss : List Str, DpAll K H (ss.map V.str) (ss.map PyData.str)
  | [] => .nil
  | s :: ss => .cons (.str s) (DpAll.strs ss)
theorem can_strs : ∀ {ss : List Str}, (∀ s ∈ ss, isNm s) → PyData.canLayAll0 (ss.map PyData.str) = true
  | [], _ => rfl
  | s :: ss, h => by
    show (PyData.strOk s && PyData.canLayAll0 (ss.map PyData.str)) = true
    rw [strOk_nm (h s List.mem_cons_self), can_strs fun t ht => h t (List.mem_cons_of_mem _ ht)]; rfl
theorem depth_strs : ∀ ss : List Str, PyData.depthAll (ss.map PyData.str) = 0
  | [] => rfl
  | s :: ss => by
    show max 0 (PyData.depthAll (ss.map PyData.str)) = 0
    rw [depth_strs ss]; rfl
theorem shaped_strs {ss : List Str} (h : ∀ s ∈ ss, isNm s) : SeqAt.shaped (.list (ss.map PyData.str)) = true := by
  show (PyData.canLayAll0 (ss.map PyData.str) && decide (PyData.depthAll (ss.map PyData.str) + 1 ≤ 64)) = true
  rw [can_strs h, depth_strs]; rfl
theorem shapedT_strs {ss : List Str} (h : ∀ s ∈ ss, isNm s) : SeqAt.shaped (.tuple (ss.map PyData.str)) = true := by
  show (PyData.canLayAll0 (ss.map PyData.str) && decide (PyData.depthAll (ss.map PyData.str) + 1 ≤ 64)) = true
  rw [can_strs h, depth_strs]; rfl
theorem flat_strs (ss : List Str) : (ss.map V.str).all flatV = true := by
  rw [List.all_eq_true]
  intro x hx
  obtain ⟨s, _, rfl⟩ := List.mem_map.mp hx
  rfl
theorem in_strs {s : Str} {ss : List Str} : inV (.str s) (ss.map V.str) = true ↔ s ∈ ss := by
  unfold inV
  rw [List.any_eq_true]
  constructor
  · rintro ⟨x, hx, e⟩
    obtain ⟨t, ht, rfl⟩ := List.mem_map.mp hx
    have : t = s := by simpa [eqV] using e
    exact this ▸ ht
  · intro h
    exact ⟨.str s, List.mem_map.mpr ⟨s, h, rfl⟩, by simp [eqV]⟩
theorem in_strs_no {s : Str} {ss : List Str} (h : s ∉ ss) : inV (.str s) (ss.map V.str) = false := Bool.eq_false_iff.mpr fun e => h (in_strs.mp e)
/-- more things than places: one is left out -/
theorem pigeon {α : Type} : ∀ {xs ys : List α}, xs.Nodup → (∀ x ∈ xs, x ∈ ys) → xs.length ≤ ys.length
  | [], _, _, _ => Nat.zero_le _
  | x :: xs, ys, hn, h => by
    have hx : x ∈ ys := h x List.mem_cons_self
    obtain ⟨l, r, rfl⟩ := List.append_of_mem hx
    have hn2 := List.nodup_cons.mp hn
    have := pigeon (xs := xs) (ys := l ++ r) hn2.2 fun y hy => by
      have := h y (List.mem_cons_of_mem _ hy)
      rw [List.mem_append, List.mem_cons] at this
      rw [List.mem_append]
      rcases this with h1 | h1 | h1
      · exact .inl h1
      · subst h1; exact absurd hy hn2.1
      · exact .inr h1
    simp only [List.length_append, List.length_cons] at *
    omega

def sp_l_stranger (K : PySem.W.Frag) : Sp := fun vs H Q _ => ∃ (p a : Addr) (n : Nat) (ss : List Str), vs = [.ref p, .ref a] ∧ PoolAt H p n ∧ n ≤ 999900 ∧ p ≠ a ∧ H a = some (.lst (ss.map V.str)) ∧ (∀ s ∈ ss, isNm s) ∧ ss.length ≤ 25 ∧
  ∀ (s : Str) (H' : Hp), isNm s → s ∉ ss → PoolAt H' p (n + 2) → But p H H' → Q (.str s) H'
theorem len_l_stranger {K : PySem.W.Frag} : ∀ vs H Q E, sp_l_stranger K vs H Q E → vs.length = 2 := by rintro _ _ _ _ ⟨_, _, _, _, rfl, _⟩; rfl
theorem pu_l_stranger {K : PySem.W.Frag} : ∀ vs H Q E, sp_l_stranger K vs H Q E → t_l_stranger K sp_l_take E { nx := fun _ H' => Q .non H', rt := Q } (start n_l_stranger vs) H := by
  rintro _ H Q E ⟨p, a, n, ss, rfl, hp, hn, hpa, ha, hs, hl, q⟩
  have key : ∀ (w : Str) (H1 : Hp), isNm w → PoolAt H1 p (n + 1) → But p H H1 → tSeq (tAsg (tC (.str "abcdefghijklmnopqrstuvwxyz")) (gName 3))
    (tSeq (tAsg (tCW sp_l_take [] (WD E) (tCons (tVar 0) (tCons (tC (.int 26)) (tNil)))) (gName 4))
    (tSeq (tFor (iRng1 (tCons (tC (.int 26)) (tNil))) (gName 5) (t_l_stranger_b1 K sp_l_take E))
    (tRet (tC (.str "nobody"))))) { nx := fun _ H' => Q .non H', rt := Q } [some (.ref p), some (.ref a), some (.str w), none, none, none, none] H1 := by
    intro w H1 hw hp1 b1
    walk_at "rd"
    refine ⟨p, 26, n + 1, rfl, hp1, by omega, by decide, by decide, fun r H2 r0 r1 hp2 a2 => ?_⟩
    walk_at "rd"
    refine ⟨26, rfl, by decide, by decide, ?_⟩
    have b2 : But p H H2 := b1.trans a2.but
    have ha2 : H2 a = some (.lst (ss.map V.str)) := b2 _ _ (Ne.symm hpa) ha
    let cand : Nat → Str := fun k => (⟨#[97 + (r.toNat + k) % 26]⟩ : Str) ++ cutS w (some ((1 : Nat) : Int)) none
    have ec : ∀ k, cl (cand k) = (97 + (r.toNat + k) % 26) :: (cl w).drop 1 := by
      intro k
      show cl ((⟨#[97 + (r.toNat + k) % 26]⟩ : Str) ++ cutS w (some ((1 : Nat) : Int)) none) = _
      rw [cl_app, cl_one, cl_lo]; rfl
    have nm : ∀ k, isNm (cand k) := by
      intro k
      obtain ⟨w1, w2, w3, w4⟩ := hw
      unfold isNm
      rw [ec]
      have hlt : (r.toNat + k) % 26 < 26 := Nat.mod_lt _ (by decide)
      refine ⟨by simp, by rw [List.length_cons, List.length_drop]; omega, ?_, ?_⟩
      · intro c hc
        cases hc
        exact let_lt hlt
      · intro c hc
        rcases List.mem_cons.mp hc with hc | hc
        · subst hc; exact (let_lt hlt).sg
        · exact w4 c (List.mem_of_mem_drop hc)
    refine fg walk_range (fun i σ H' => ∃ (x5 x6 : Option V), σ = [some (.ref p), some (.ref a), some (.str w), some (.str letS), some (.int r), x5, x6] ∧ H' = H2 ∧ ∀ j, j < i → cand j ∈ ss) ⟨_, _, rfl, rfl, fun j h => absurd h (Nat.not_lt_zero _)⟩ (fun _ _ _ _ _ => trivial) ?_ ?_
    · rintro i x _ _ _ hi ⟨x5, x6, rfl, rfl, hj⟩ ⟨rfl, rfl⟩
      unfold t_l_stranger_b1
      walk_at "rd"
      refine ⟨by decide, ?_⟩
      have hlt : (r.toNat + i) % 26 < 26 := Nat.mod_lt _ (by decide)
      refine getS (c := 97 + (r.toNat + i) % 26) (by decide) ?_ ?_
      · have : (r + (0 + (i : Int))) % 26 = (((r.toNat + i) % 26 : Nat) : Int) := by omega
        rw [this]
        exact atI_nat (let_at hlt)
      · walk_at "rd"
        have hc : (cl (cutS w (some 1) none)).length ≤ 8 := by
          rw [show (1 : Int) = ((1 : Nat) : Int) from rfl, cl_lo, List.length_drop]
          have := hw.2.1
          omega
        refine ⟨small8 (by have := hw.2.1; omega), small2 (by rw [cl_one, List.length_singleton]; omega), ?_⟩
        refine inL (SqL.of ha2) rfl (flat_strs ss) ?_
        walk_at "rd"
        have ei : ({ cps := #[97 + (r.toNat + i) % 26] } : Str) ++ cutS w (some 1) none = cand i := rfl
        rw [ei]
        split
        · rename_i c
          refine q _ _ (nm i) (fun h => ?_) hp2 b2
          rw [in_strs.mpr h] at c
          exact absurd c (by decide)
        · rename_i c
          refine ⟨_, _, rfl, fun j hj2 => ?_⟩
          by_cases e : j = i
          · subst e
            refine in_strs.mp ?_
            simpa using c
          · exact hj j (by omega)
    · rintro _ _ ⟨x5, x6, rfl, rfl, hj⟩
      exfalso
      have h1 : ((List.range 26).map cand).Nodup := by
        refine List.pairwise_map.mpr (List.Pairwise.imp_of_mem ?_ List.nodup_range)
        intro a b ha hb ne e
        rw [List.mem_range] at ha hb
        have e2 := congrArg cl e
        rw [ec, ec] at e2
        have e3 := (List.cons.inj e2).1
        omega
      have h2 := pigeon h1 (ys := ss) fun x hx => by
        obtain ⟨k, hk, rfl⟩ := List.mem_map.mp hx
        exact hj k (List.mem_range.mp hk)
      rw [List.length_map, List.length_range] at h2
      omega
  unfold t_l_stranger n_l_stranger
  walk_at "rd"
  refine ⟨by decide, fun e he => ?_⟩
  have ha1 : upd H e (.lst []) a = some (.lst (ss.map V.str)) := at_new he ha
  have hp1 : PoolAt (upd H e (.lst [])) p n := hp.new he
  have b1 : But p H (upd H e (.lst [])) := But.refl.new he
  refine neD (.lst (SqL.of ha1) (DpAll.strs ss)) (.lst (SqL.of upd_same) .nil) (shaped_strs hs) rfl ⟨_, rfl, ?_⟩
  cases ss with
  | nil =>
    rw [if_neg (by simp [PyData.eqv, PyData.eqvAll])]
    have eq : cl "q" = [113] := by decide
    have nq : isNm "q" := by
      refine ⟨by decide, by decide, ?_, ?_⟩
      · intro c h; rw [eq] at h; cases h; unfold Lt; decide
      · intro c h; rw [eq, List.mem_singleton] at h; subst h; unfold Sg; decide
    have k := key "q" _ nq (hp1.mono (by omega)) b1
    revert k
    walk_at "rd" <;> exact id
  | cons s0 ss0 =>
    rw [if_pos (by simp [PyData.eqv, PyData.eqvAll])]
    refine lenL (SqL.of ha1) ?_
    refine ⟨p, _, n, rfl, hp1, by omega, by rw [List.length_map]; simp only [List.length_cons]; omega, by rw [List.length_map]; omega, fun r H2 r0 r1 hp2 a2 => ?_⟩
    rw [List.length_map] at r1
    have ha2 : H2 a = some (.lst ((s0 :: ss0).map V.str)) := (a2 a (Ne.symm hpa)).trans ha1
    have hr : r.toNat < (s0 :: ss0).length := by omega
    refine getL (v := .str ((s0 :: ss0)[r.toNat])) (SqL.of ha2) (at_nat (n := 0) r0 ?_) ?_
    · rw [List.getElem?_map, List.getElem?_eq_getElem hr]; rfl
    · have k := key _ _ (hs _ (List.getElem_mem hr)) hp2 (b1.trans a2.but)
      revert k
      walk_at "rd" <;> exact id

/-! ### is_name -/
def sp_is_name (K : PySem.W.Frag) : Sp := fun vs H Q _ => ∃ v, vs = [v] ∧ ((∃ s : Str, v = .str s ∧ s.length ≤ sizeLine ∧ ∀ b : Bool, (b = true ↔ isNm s) → Q (.bl b) H) ∨ (∃ t, TyX K H v (.type t) ∧ PySem.W.kitOne K (.type t) (.type "str") = some false ∧ Q (.bl false) H))
theorem len_is_name {K : PySem.W.Frag} : ∀ vs H Q E, sp_is_name K vs H Q E → vs.length = 1 := by rintro _ _ _ _ ⟨_, rfl, _⟩; rfl
theorem pu_is_name {K : PySem.W.Frag} : ∀ vs H Q E, sp_is_name K vs H Q E → t_is_name K E { nx := fun _ H' => Q .non H', rt := Q } (start n_is_name vs) H := by
  rintro _ H Q E ⟨v, rfl, h⟩
  unfold t_is_name n_is_name
  walk_at "rd"
  rcases h with ⟨s, rfl, hl, q⟩ | ⟨t, ty, hk, q⟩
  · refine isiF (t := "str") (.base (.str s)) rfl ?_
    walk_at "rd"
    have no : ¬ isNm s → Q (.bl false) H := fun h => q false ⟨fun e => absurd e (by decide), fun e => absurd e h⟩
    refine ⟨hl, ?_⟩
    split
    · rename_i c
      refine no fun h => ?_
      have := h.1
      rw [cl_len] at c
      omega
    · rename_i c1
      refine ⟨hl, ?_⟩
      split
      · rename_i c
        refine no fun h => ?_
        have := h.2.1
        rw [cl_len] at c
        omega
      · rename_i c2
        rw [cl_len] at c1 c2
        have h0 : 0 < (cl s).length := by omega
        refine getS (c := (cl s)[0]) hl (at_nat (n := 0) (by decide) (List.getElem?_eq_getElem h0)) (inSg ?_)
        walk_at "rd"
        have m0 : (cl s)[0] ∈ (Str.ofString "abcdefghijklmnopqrstuvwxyz").cps.toList ↔ Lt (cl s)[0] := mem_let
        split
        · rename_i c
          refine no fun h => ?_
          have := m0.mpr (h.2.2.1 _ (List.getElem?_eq_getElem h0))
          rw [decide_eq_true this] at c
          exact absurd c (by decide)
        · rename_i c
          have l0 : Lt (cl s)[0] := by
            refine m0.mp ?_
            simpa using c
          refine fg walk_str (fun i σ H' => H' = H ∧ (∃ x1, σ = [some (.str s), x1]) ∧ ∀ j c, j < i → (cl s)[j]? = some c → Sg c) ⟨rfl, ⟨_, rfl⟩, fun j c h => absurd h (Nat.not_lt_zero _)⟩ (fun _ _ _ _ _ => trivial) ?_ ?_
          · rintro i x _ _ _ hi ⟨rfl, ⟨x1, rfl⟩, hj⟩ ⟨rfl, c, hc, rfl⟩
            have hc2 : (cl s)[i]? = some c := by rw [← hc]; exact Array.getElem?_toList
            unfold t_is_name_b1
            walk_at "rd"
            refine inSg ?_
            walk_at "rd"
            have mc : c ∈ (Str.ofString "abcdefghijklmnopqrstuvwxyz0123456789").cps.toList ↔ Sg c := mem_sg
            split
            · rename_i d
              refine no fun h => ?_
              have := mc.mpr (h.2.2.2 c (List.mem_of_getElem? hc2))
              rw [decide_eq_true this] at d
              exact absurd d (by decide)
            · rename_i d
              refine ⟨⟨_, rfl⟩, fun j c' hj2 hc' => ?_⟩
              by_cases e : j = i
              · subst e
                rw [hc2] at hc'
                cases hc'
                refine mc.mp ?_
                simpa using d
              · exact hj j c' (by omega) hc'
          · rintro _ _ ⟨rfl, ⟨x1, rfl⟩, hj⟩
            walk_at "rd"
            refine q true ⟨fun _ => ⟨by omega, by omega, ?_, ?_⟩, fun _ => rfl⟩
            · intro c hc
              rw [List.getElem?_eq_getElem h0] at hc
              cases hc
              exact l0
            · intro c hc
              obtain ⟨j, hj2, e⟩ := List.getElem_of_mem hc
              exact hj j c hj2 (by rw [List.getElem?_eq_getElem hj2, e])
  · refine isiF ty hk ?_
    walk_at "rd"
    exact q
/-! ### rows -/
structure RowK (K : PySem.W.Frag) : Prop where
  cls : Cls K (He.ga K "Row")
  looks : NoAttr K (He.ga K "Row") "looks"
def TupAt (H : Hp) (t : Addr) (xs : List V) : Prop := ∃ ob, H t = some (.frz ob (.tup xs)) ∧ ob.dict = none
theorem TupAt.sq {K : PySem.W.Frag} {H : Hp} {t : Addr} {xs : List V} (h : TupAt H t xs) : SqT K H t xs := by
  obtain ⟨ob, e, _⟩ := h
  exact .inl (.inr ⟨ob, e⟩)
theorem TupAt.same {H H' : Hp} {t : Addr} {xs : List V} (h : TupAt H t xs) (s : Same H H') : TupAt H' t xs := by
  obtain ⟨ob, e, d⟩ := h
  exact ⟨ob, s _ _ e, d⟩
theorem TupAt.but {H H' : Hp} {t p : Addr} {xs : List V} {u : HO} (h : TupAt H t xs) (hp : H p = some u) (hu : ∀ ob xs, u ≠ .frz ob (.tup xs)) (s : But p H H') : TupAt H' t xs := by
  obtain ⟨ob, e, d⟩ := h
  refine ⟨ob, s _ _ (fun e2 => ?_) e, d⟩
  subst e2
  rw [hp] at e
  cases e
  exact hu _ _ rfl
theorem TupAt.ex {H : Hp} {t : Addr} {xs : List V} (h : TupAt H t xs) : ∃ u, H t = some u := by
  obtain ⟨ob, e, _⟩ := h
  exact ⟨_, e⟩
def RowAt (K : PySem.W.Frag) (H : Hp) (a : Addr) (ss : List Str) : Prop := ∃ dx t, H a = some (.ins (He.ga K "Row") dx [("looks", .ref t)]) ∧ TupAt H t (ss.map V.str)
theorem RowAt.same {K : PySem.W.Frag} {H H' : Hp} {a : Addr} {ss : List Str} (h : RowAt K H a ss) (s : Same H H') : RowAt K H' a ss := by
  obtain ⟨dx, t, e, ht⟩ := h
  exact ⟨dx, t, s _ _ e, ht.same s⟩
theorem RowAt.but {K : PySem.W.Frag} {H H' : Hp} {a p : Addr} {ss : List Str} {xs : List V} (h : RowAt K H a ss) (hp : H p = some (.lst xs)) (s : But p H H') : RowAt K H' a ss := by
  obtain ⟨dx, t, e, ht⟩ := h
  refine ⟨dx, t, s _ _ (fun e2 => ?_) e, ht.but hp (fun _ _ e => by cases e) s⟩
  subst e2
  rw [hp] at e
  cases e
/-- the heap with an instance made: what stood stands -/
theorem made_same {H H' : Hp} {x dx : Addr} {o1 o2 : HO} (hx : H x = none) (hd : H dx = none) (b : But x (upd (upd H dx o1) x o2) H') : Same H H' := fun a u e =>
  b a u (ne_of_none e hx) (at_set (ne_of_none e hx) (at_new hd e))

def sp_Row_init (K : PySem.W.Frag) : Sp := fun vs H Q _ => ∃ (x f dx : Addr) (ss : List Str), vs = [.ref x, .ref f] ∧ H x = some (.ins (He.ga K "Row") dx []) ∧ (∀ s ∈ ss, isNm s) ∧ (SqL K H f (ss.map V.str) ∨ TupAt H f (ss.map V.str)) ∧
  ∀ (H' : Hp) (t : Addr), H' x = some (.ins (He.ga K "Row") dx [("looks", .ref t)]) → TupAt H' t (ss.map V.str) → But x H H' → Q .non H'
theorem len_Row_init {K : PySem.W.Frag} : ∀ vs H Q E, sp_Row_init K vs H Q E → vs.length = 2 := by rintro _ _ _ _ ⟨_, _, _, _, rfl, _⟩; rfl
theorem pu_Row_init {K : PySem.W.Frag} (R : RowK K) : ∀ vs H Q E, sp_Row_init K vs H Q E → t_Row_init K (sp_is_name K) E { nx := fun _ H' => Q .non H', rt := Q } (start n_Row_init vs) H := by
  rintro _ H Q E ⟨x, f, dx, ss, rfl, hx, hs, hf, q⟩
  have body : ∀ (i : Nat) (v : V) (D : Ends), (ss.map V.str)[i]? = some v → D.nx [some (.ref x), some (.ref f), some v] H → t_Row_init_b1 K (sp_is_name K) E D [some (.ref x), some (.ref f), some v] H := by
    intro i v D hv hN
    rw [List.getElem?_map] at hv
    obtain ⟨s, hs2, rfl⟩ := Option.map_eq_some_iff.mp hv
    unfold t_Row_init_b1
    walk_at "rd"
    have ns := hs s (List.mem_of_getElem? hs2)
    refine ⟨_, rfl, .inl ⟨s, rfl, small8 (by have := ns.2.1; omega), fun b hb => ?_⟩⟩
    obtain rfl : b = true := hb.mpr ns
    walk_at "rd"
    exact hN
  unfold t_Row_init n_Row_init
  walk_at "rd"
  have fin : ∀ (t : Addr) (H2 : Hp), Same H H2 → TupAt H2 t (ss.map V.str) → Q .non (upd H2 x (.ins (He.ga K "Row") dx [("looks", .ref t)])) := by
    intro t H2 s2 ht
    have hx2 := s2 _ _ hx
    refine q _ t upd_same ?_ ?_
    · obtain ⟨ob, e, d⟩ := ht
      refine ⟨ob, at_set (fun e2 => ?_) e, d⟩
      subst e2
      rw [hx2] at e
      cases e
    · intro a u ne e
      exact at_set ne (s2 _ _ e)
  rcases hf with hf | hf
  · refine .inl ⟨⟨_, hf⟩, ?_⟩
    refine fg walk_list (fun i σ H' => H' = H ∧ ∃ x2, σ = [some (.ref x), some (.ref f), x2]) ⟨rfl, _, rfl⟩ (fun i σ H' _ h => h.1 ▸ hf) ?_ ?_
    · rintro i v _ _ _ hi ⟨rfl, x2, rfl⟩ ⟨rfl, hv⟩
      walk_at "rd"
      refine body i v _ hv ?_
      exact ⟨rfl, _, rfl⟩
    · rintro _ _ ⟨rfl, x2, rfl⟩
      walk_at "rd"
      refine ⟨f, _, rfl, .inl ⟨hf, .inr fun t ob ht hd _ => ?_⟩⟩
      exact ⟨x, _, dx, [], rfl, at_new ht hx, R.cls, R.looks, by decide, fin t _ (Same.new ht) ⟨ob, upd_same, hd⟩⟩
  · refine .inr ⟨⟨_, hf.sq⟩, ?_⟩
    refine fg walk_tup (fun i σ H' => H' = H ∧ ∃ x2, σ = [some (.ref x), some (.ref f), x2]) ⟨rfl, _, rfl⟩ (fun i σ H' _ h => h.1 ▸ hf.sq) ?_ ?_
    · rintro i v _ _ _ hi ⟨rfl, x2, rfl⟩ ⟨rfl, hv⟩
      walk_at "rd"
      refine body i v _ hv ?_
      exact ⟨rfl, _, rfl⟩
    · rintro _ _ ⟨rfl, x2, rfl⟩
      walk_at "rd"
      refine ⟨f, _, rfl, .inr ⟨hf.sq, ?_⟩⟩
      exact ⟨x, _, dx, [], rfl, hx, R.cls, R.looks, by decide, fin f _ (fun _ _ e => e) hf⟩

/-! ### numbers -/
def NotInt (K : PySem.W.Frag) (H : Hp) (v : V) : Prop := ∃ t b1 b2, TyX K H v (.type t) ∧ PySem.W.kitOne K (.type t) (.type "int") = some b1 ∧ PySem.W.kitOne K (.type t) (.type "bool") = some b2 ∧ (b1 && !b2) = false
theorem TyX.same {K : PySem.W.Frag} {H H' : Hp} {v : V} {t : String} (h : TyX K H v (.type t)) (s : Same H H') : TyX K H' v (.type t) := by
  cases h with
  | base h =>
    cases h with
    | non => exact .base .non
    | bl x => exact .base (.bl x)
    | int i => exact .base (.int i)
    | str x => exact .base (.str x)
    | flt x => exact .base (.flt x)
    | lst e => exact .base (.lst (s _ _ e))
    | frz e => exact .base (.frz (s _ _ e))
    | tup e => exact .base (.tup (s _ _ e))
    | dK e => exact .base (.dK (s _ _ e))
    | dT e => exact .base (.dT (s _ _ e))
  | byt b => exact .byt b
  | set e => exact .set (s _ _ e)
  | kList e c => exact .kList e c
  | kTuple e c => exact .kTuple e c
  | kDict e c => exact .kDict e c
  | fTuple e => exact .fTuple (s _ _ e)
  | fDict e => exact .fDict (s _ _ e)
theorem NotInt.same {K : PySem.W.Frag} {H H' : Hp} {v : V} (h : NotInt K H v) (s : Same H H') : NotInt K H' v := by
  obtain ⟨t, b1, b2, ty, r⟩ := h
  exact ⟨t, b1, b2, TyX.same ty s, r⟩
def sp_is_whole (K : PySem.W.Frag) : Sp := fun vs H Q _ => ∃ v, vs = [v] ∧ ((∃ i, v = .int i ∧ Q (.bl true) H) ∨ (NotInt K H v ∧ Q (.bl false) H))
theorem len_is_whole {K : PySem.W.Frag} : ∀ vs H Q E, sp_is_whole K vs H Q E → vs.length = 1 := by rintro _ _ _ _ ⟨_, rfl, _⟩; rfl
theorem pu_is_whole {K : PySem.W.Frag} : ∀ vs H Q E, sp_is_whole K vs H Q E → t_is_whole K E { nx := fun _ H' => Q .non H', rt := Q } (start n_is_whole vs) H := by
  rintro _ H Q E ⟨v, rfl, h⟩
  unfold t_is_whole n_is_whole
  walk_at "rd"
  rcases h with ⟨i, rfl, q⟩ | ⟨⟨t, b1, b2, ty, k1, k2, hb⟩, q⟩
  · refine isiF (t := "int") (.base (.int i)) rfl ?_
    walk_at "rd"
    refine isiF (t := "int") (r := false) (.base (.int i)) rfl ?_
    walk_at "rd"
    exact q
  · refine isiF ty k1 ?_
    walk_at "rd"
    cases b1 with
    | false =>
      walk_at "rd"
      exact q
    | true =>
      walk_at "rd"
      refine isiF ty k2 ?_
      walk_at "rd"
      have : b2 = true := by simpa using hb
      subst this
      exact q
def sp_is_count (K : PySem.W.Frag) : Sp := fun vs H Q _ => ∃ v, vs = [v] ∧ ((∃ i, v = .int i ∧ Q (.bl (decide (0 ≤ i))) H) ∨ (NotInt K H v ∧ Q (.bl false) H))
theorem len_is_count {K : PySem.W.Frag} : ∀ vs H Q E, sp_is_count K vs H Q E → vs.length = 1 := by rintro _ _ _ _ ⟨_, rfl, _⟩; rfl
theorem pu_is_count {K : PySem.W.Frag} : ∀ vs H Q E, sp_is_count K vs H Q E → t_is_count K (sp_is_whole K) E { nx := fun _ H' => Q .non H', rt := Q } (start n_is_count vs) H := by
  rintro _ H Q E ⟨v, rfl, h⟩
  unfold t_is_count n_is_count
  walk_at "rd"
  rcases h with ⟨i, rfl, q⟩ | ⟨h, q⟩
  · refine ⟨_, rfl, .inl ⟨i, rfl, ?_⟩⟩
    walk_at "rd"
    exact q
  · refine ⟨_, rfl, .inr ⟨h, ?_⟩⟩
    walk_at "rd"
    exact q

/-! ### what a row refuses -/
/-- an exception of the class C with one field is raised, on a heap in which all of H stands -/
def Rz (K : PySem.W.Frag) (C f : Str) (v : V) (H : Hp) (E : XK) : Prop := ∀ H0 d, Same H H0 → H0 d = none → E (.ref (He.ga K C)) (some d) (upd H0 d (.xd [(f, v)]))
def BadPlace (K : PySem.W.Frag) (H : Hp) (v : V) (n : Nat) : Prop := NotInt K H v ∨ ∃ i : Int, v = .int i ∧ (i < 0 ∨ n ≤ i)
def sp_Row_getitem (K : PySem.W.Frag) : Sp := fun vs H Q E => ∃ (a : Addr) (v : V) (ss : List Str), vs = [.ref a, v] ∧ RowAt K H a ss ∧ ((BadPlace K H v ss.length ∧ Rz K "BadNumber" "value" v H E) ∨ ∃ (i : Nat) (s : Str), v = .int i ∧ ss[i]? = some s ∧ Q (.str s) H)
theorem len_Row_getitem {K : PySem.W.Frag} : ∀ vs H Q E, sp_Row_getitem K vs H Q E → vs.length = 2 := by rintro _ _ _ _ ⟨_, _, _, rfl, _⟩; rfl
theorem pu_Row_getitem {K : PySem.W.Frag} (R : RowK K) : ∀ vs H Q E, sp_Row_getitem K vs H Q E → t_Row_getitem K (sp_is_count K) E { nx := fun _ H' => Q .non H', rt := Q } (start n_Row_getitem vs) H := by
  rintro _ H Q E ⟨a, v, ss, rfl, ⟨dx, t, ha, ht⟩, h⟩
  unfold t_Row_getitem n_Row_getitem
  walk_at "rd"
  rcases h with ⟨hb, hz⟩ | ⟨i, s, rfl, hi, q⟩
  · have rz : ∀ d, H d = none → E (.ref (He.ga K "BadNumber")) (some d) (upd H d (.xd [("value", v)])) := fun d hd => hz H d (fun _ _ e => e) hd
    rcases hb with hb | ⟨i, rfl, hi⟩
    · refine ⟨_, rfl, .inr ⟨hb, ?_⟩⟩
      walk_at "rd"
      exact rz
    · refine ⟨_, rfl, .inl ⟨i, rfl, ?_⟩⟩
      walk_at "rd"
      split
      · exact rz
      · rename_i c
        have c0 : 0 ≤ i := by simpa using c
        refine ⟨a, _, dx, _, _, rfl, ha, R.cls, R.looks, rfl, lenT ht.sq ?_⟩
        walk_at "rd"
        rw [if_pos (by rw [List.length_map]; omega)]
        exact rz
  · have hl := (List.getElem?_eq_some_iff.mp hi).1
    refine ⟨_, rfl, .inl ⟨i, rfl, ?_⟩⟩
    walk_at "rd"
    rw [if_neg (by simp)]
    refine ⟨a, _, dx, _, _, rfl, ha, R.cls, R.looks, rfl, lenT ht.sq ?_⟩
    walk_at "rd"
    rw [if_neg (by rw [List.length_map]; omega)]
    refine ⟨a, _, dx, _, _, rfl, ha, R.cls, R.looks, rfl, getT ht.sq (atI_nat ?_) q⟩
    rw [List.getElem?_map, hi]; rfl
/-! ### rows, repeated -/
theorem same_refl {H : Hp} : Same H H := fun _ _ e => e
def sp_Row_len (K : PySem.W.Frag) : Sp := fun vs H Q _ => ∃ (a : Addr) (ss : List Str), vs = [.ref a] ∧ RowAt K H a ss ∧ Q (.int ss.length) H
theorem len_Row_len {K : PySem.W.Frag} : ∀ vs H Q E, sp_Row_len K vs H Q E → vs.length = 1 := by rintro _ _ _ _ ⟨_, _, rfl, _⟩; rfl
theorem pu_Row_len {K : PySem.W.Frag} (R : RowK K) : ∀ vs H Q E, sp_Row_len K vs H Q E → t_Row_len K E { nx := fun _ H' => Q .non H', rt := Q } (start n_Row_len vs) H := by
  rintro _ H Q E ⟨a, ss, rfl, ⟨dx, t, ha, ht⟩, q⟩
  unfold t_Row_len n_Row_len
  walk_at "rd"
  refine ⟨a, _, dx, _, _, rfl, ha, R.cls, R.looks, rfl, lenT ht.sq ?_⟩
  rw [List.length_map]
  exact q
def BadNum (K : PySem.W.Frag) (H : Hp) (v : V) : Prop := NotInt K H v ∨ ∃ i : Int, v = .int i ∧ i < 0
theorem BadNum.same {K : PySem.W.Frag} {H H' : Hp} {v : V} (h : BadNum K H v) (s : Same H H') : BadNum K H' v := h.imp (fun h => h.same s) id
def sp_repeated (K : PySem.W.Frag) : Sp := fun vs H Q E => ∃ (t : Addr) (v : V) (xs : List V), vs = [.ref t, v] ∧ TupAt H t xs ∧ xs.length ≤ 1000 ∧ ((BadNum K H v ∧ Rz K "BadNumber" "value" v H E) ∨
  ∃ k : Nat, v = .int k ∧ k ≤ 1000 ∧ ∀ (t' : Addr) (H' : Hp), TupAt H' t' (List.replicate k xs).flatten → Same H H' → Q (.ref t') H')
theorem len_repeated {K : PySem.W.Frag} : ∀ vs H Q E, sp_repeated K vs H Q E → vs.length = 2 := by rintro _ _ _ _ ⟨_, _, _, rfl, _⟩; rfl
theorem pu_repeated {K : PySem.W.Frag} : ∀ vs H Q E, sp_repeated K vs H Q E → t_repeated K (sp_is_count K) E { nx := fun _ H' => Q .non H', rt := Q } (start n_repeated vs) H := by
  rintro _ H Q E ⟨t, v, xs, rfl, ht, hx, h⟩
  unfold t_repeated n_repeated
  walk_at "rd"
  rcases h with ⟨hb, hz⟩ | ⟨k, rfl, hk, q⟩
  · have rz : ∀ d, H d = none → E (.ref (He.ga K "BadNumber")) (some d) (upd H d (.xd [("value", v)])) := fun d hd => hz H d same_refl hd
    rcases hb with hb | ⟨i, rfl, hi⟩
    · refine ⟨_, rfl, .inr ⟨hb, ?_⟩⟩
      walk_at "rd"
      exact rz
    · refine ⟨_, rfl, .inl ⟨i, rfl, ?_⟩⟩
      walk_at "rd"
      rw [if_pos (by simpa using hi)]
      exact rz
  · refine ⟨_, rfl, .inl ⟨k, rfl, ?_⟩⟩
    walk_at "rd"
    rw [if_neg (by simp)]
    refine .inr (.inr ⟨t, k, xs, rfl, rfl, ht.sq, hx, by omega, by omega, fun e => q t H ?_ same_refl, fun _ _ => .inr fun l ob hl hd _ => ?_⟩)
    · rcases e with e | e
      · subst e
        rw [List.flatten_replicate_nil]; exact ht
      · have : k = 1 := by omega
        subst this
        simpa using ht
    · rw [Int.toNat_natCast]
      exact q l _ ⟨ob, upd_same, hd⟩ (Same.new hl)
def sp_Row_mul (K : PySem.W.Frag) : Sp := fun vs H Q E => ∃ (a : Addr) (v : V) (ss : List Str), vs = [.ref a, v] ∧ RowAt K H a ss ∧ (∀ s ∈ ss, isNm s) ∧ ss.length ≤ 1000 ∧ ((BadNum K H v ∧ Rz K "BadNumber" "value" v H E) ∨
  ∃ k : Nat, v = .int k ∧ k ≤ 1000 ∧ ∀ (b : Addr) (H' : Hp), RowAt K H' b (List.replicate k ss).flatten → Same H H' → Q (.ref b) H')
theorem len_Row_mul {K : PySem.W.Frag} : ∀ vs H Q E, sp_Row_mul K vs H Q E → vs.length = 2 := by rintro _ _ _ _ ⟨_, _, _, rfl, _⟩; rfl
theorem pu_Row_mul {K : PySem.W.Frag} (R : RowK K) : ∀ vs H Q E, sp_Row_mul K vs H Q E → t_Row_mul K (sp_Row_init K) (sp_repeated K) E { nx := fun _ H' => Q .non H', rt := Q } (start n_Row_mul vs) H := by
  rintro _ H Q E ⟨a, v, ss, rfl, ⟨dx, t, ha, ht⟩, hs, hl, h⟩
  unfold t_Row_mul n_Row_mul
  walk_at "rd"
  refine ⟨a, _, dx, _, _, rfl, ha, R.cls, R.looks, rfl, ?_⟩
  refine ⟨t, v, _, rfl, ht, by rw [List.length_map]; exact hl, ?_⟩
  rcases h with ⟨hb, hz⟩ | ⟨k, rfl, hk, q⟩
  · exact .inl ⟨hb, hz⟩
  · refine .inr ⟨k, rfl, hk, fun t' H1 ht1 s1 x dx1 hx hdx hne => ?_⟩
    have e1 : (List.replicate k (ss.map V.str)).flatten = ((List.replicate k ss).flatten).map V.str := by rw [List.map_flatten, List.map_replicate]
    rw [e1] at ht1
    have s2 : Same H1 (upd (upd H1 dx1 (.own x)) x (.ins (He.ga K "Row") dx1 [])) := made_same hx hdx But.refl
    refine ⟨x, t', dx1, (List.replicate k ss).flatten, rfl, upd_same, ?_, .inr (ht1.same s2), fun H' t2 h1 h2 h3 => ⟨rfl, ?_⟩⟩
    · intro s hs2
      obtain ⟨l, hl2, hs3⟩ := List.mem_flatten.mp hs2
      rw [List.eq_of_mem_replicate hl2] at hs3
      exact hs s hs3
    · exact q x H' ⟨dx1, t2, h1, h2⟩ (s1.trans (made_same hx hdx h3))
theorem pu_Row_rmul {K : PySem.W.Frag} (R : RowK K) : ∀ vs H Q E, sp_Row_mul K vs H Q E → t_Row_rmul K (sp_Row_init K) (sp_repeated K) E { nx := fun _ H' => Q .non H', rt := Q } (start n_Row_rmul vs) H := pu_Row_mul R
/-! ### what stands, stands on a greater heap -/
theorem SqL.same {K : PySem.W.Frag} {H H' : Hp} {a : Addr} {xs : List V} (h : SqL K H a xs) (s : Same H H') : SqL K H' a xs := by
  rcases h with (h | ⟨o, h⟩) | h
  · exact .inl (.inl (s _ _ h))
  · exact .inl (.inr ⟨o, s _ _ h⟩)
  · exact .inr h
theorem SqT.same {K : PySem.W.Frag} {H H' : Hp} {a : Addr} {xs : List V} (h : SqT K H a xs) (s : Same H H') : SqT K H' a xs := by
  rcases h with (h | ⟨o, h⟩) | h
  · exact .inl (.inl (s _ _ h))
  · exact .inl (.inr ⟨o, s _ _ h⟩)
  · exact .inr h
mutual
theorem Dp.same {K : PySem.W.Frag} {H H' : Hp} (s : Same H H') : ∀ {v : V} {d : PyData}, Dp K H v d → Dp K H' v d
  | _, _, .non => .non
  | _, _, .bl b => .bl b
  | _, _, .int i => .int i
  | _, _, .str x => .str x
  | _, _, .lst h hs => .lst (SqL.same h s) (DpAll.same s hs)
  | _, _, .tup h hs => .tup (SqT.same h s) (DpAll.same s hs)
theorem DpAll.same {K : PySem.W.Frag} {H H' : Hp} (s : Same H H') : ∀ {vs : List V} {ds : List PyData}, DpAll K H vs ds → DpAll K H' vs ds
  | _, _, .nil => .nil
  | _, _, .cons h hs => .cons (Dp.same s h) (DpAll.same s hs)
end
/-- with p new in H, all of H stands -/
theorem But.same {H0 H H' : Hp} {p : Addr} (hp : H0 p = none) (s : Same H0 H) (b : But p H H') : Same H0 H' := fun a u e => b a u (ne_of_none e hp) (s a u e)
theorem Alt.same {H0 H H' : Hp} {p : Addr} (hp : H0 p = none) (s : Same H0 H) (b : Alt p H H') : Same H0 H' := But.same hp s b.but
theorem PoolAt.same {H H' : Hp} {p : Addr} {n : Nat} (h : PoolAt H p n) (s : Same H H') : PoolAt H' p n := h.keep (s p)
theorem PoolAt.ne {H : Hp} {p a : Addr} {n : Nat} (h : PoolAt H p n) (e : H a = none) : a ≠ p := by
  obtain ⟨u, hu⟩ := h.ex
  exact Ne.symm (ne_of_none hu e)
theorem PoolAt.lst {H : Hp} {p : Addr} {n : Nat} (h : PoolAt H p n) : ∃ xs, H p = some (.lst xs) := by
  obtain ⟨x, y, z, a, _⟩ := h
  exact ⟨_, a⟩
/-- a thing that one may tell apart from others by == -/
def Eqs (K : PySem.W.Frag) (H : Hp) (v : V) (d : PyData) : Prop := Dp K H v d ∧ SeqAt.shaped (.list [.list [.str "number", d], .list [.str "number", d]]) = true ∧ SeqAt.shaped (.list [.str "number", d]) = true ∧ PyData.eqv d d = true
section
variable {K : PySem.W.Frag} {H : Hp}
theorem sh_num {d : PyData} (h : PyData.canLay0 d = true) (h2 : PyData.depth d ≤ 10) : SeqAt.shaped (.list [.list [.str "number", d], .list [.str "number", d]]) = true ∧ SeqAt.shaped (.list [.str "number", d]) = true := by
  have e : PyData.strOk "number" = true := by decide +kernel
  constructor
  · show (PyData.canLayAll0 [.list [.str "number", d], .list [.str "number", d]] && decide (PyData.depthAll [.list [.str "number", d], .list [.str "number", d]] + 1 ≤ 64)) = true
    have c : PyData.canLayAll0 [.list [.str "number", d], .list [.str "number", d]] = true := by
      show ((PyData.strOk "number" && (PyData.canLay0 d && true)) && ((PyData.strOk "number" && (PyData.canLay0 d && true)) && true)) = true
      rw [e, h]; rfl
    have dd : PyData.depthAll [.list [.str "number", d], .list [.str "number", d]] + 1 ≤ 64 := by
      show max (max 0 (max (PyData.depth d) 0) + 1) (max (max 0 (max (PyData.depth d) 0) + 1) 0) + 1 ≤ 64
      omega
    rw [c, decide_eq_true dd]; rfl
  · show (PyData.canLayAll0 [.str "number", d] && decide (PyData.depthAll [.str "number", d] + 1 ≤ 64)) = true
    have c : PyData.canLayAll0 [.str "number", d] = true := by
      show (PyData.strOk "number" && (PyData.canLay0 d && true)) = true
      rw [e, h]; rfl
    have dd : PyData.depthAll [.str "number", d] + 1 ≤ 64 := by
      show max 0 (max (PyData.depth d) 0) + 1 ≤ 64
      omega
    rw [c, decide_eq_true dd]; rfl
theorem eqs_of {v : V} {d : PyData} (h : Dp K H v d) (h1 : PyData.canLay0 d = true) (h2 : PyData.depth d ≤ 10) (h3 : PyData.eqv d d = true) : Eqs K H v d := ⟨h, (sh_num h1 h2).1, (sh_num h1 h2).2, h3⟩
theorem eqs_int (i : Int) : Eqs K H (.int i) (.int i) := eqs_of (.int i) rfl (Nat.zero_le _) (by simp [PyData.eqv])
theorem eqs_bl (b : Bool) : Eqs K H (.bl b) (.bool b) := eqs_of (.bl b) rfl (Nat.zero_le _) (by simp [PyData.eqv])
theorem eqs_non : Eqs K H .non .none := eqs_of .non rfl (by decide) rfl
theorem eqs_str {s : Str} (h : PyData.strOk s = true) : Eqs K H (.str s) (.str s) := eqs_of (.str s) h (Nat.zero_le _) (by simp [PyData.eqv])
theorem eqs_tup1 {t : Addr} {i : Int} (h : SqT K H t [.int i]) : Eqs K H (.ref t) (.tuple [.int i]) := eqs_of (.tup h (.cons (.int i) .nil)) rfl (show max 0 0 + 1 ≤ 10 by decide) (by simp [PyData.eqv, PyData.eqvAll])
theorem notInt_bl (b : Bool) : NotInt K H (.bl b) := ⟨"bool", true, true, .base (.bl b), rfl, rfl, rfl⟩
theorem notInt_str (s : Str) : NotInt K H (.str s) := ⟨"str", false, false, .base (.str s), rfl, rfl, rfl⟩
theorem notInt_non : NotInt K H .non := ⟨"NoneType", false, false, .base .non, rfl, rfl, rfl⟩
theorem notInt_tup {t : Addr} {xs : List V} (h : H t = some (.tup xs)) : NotInt K H (.ref t) := ⟨"tuple", false, false, .base (.tup h), rfl, rfl, rfl⟩
end
theorem sh_file {s : Str} (h : isNm s) : SeqAt.shaped (.list [.str "file", .str s]) = true := by
  have e : PyData.strOk "file" = true := by decide +kernel
  show ((PyData.strOk "file" && (PyData.strOk s && true)) && decide (max 0 (max 0 0) + 1 ≤ 64)) = true
  rw [e, strOk_nm h]; rfl
theorem eq_file {s t : Str} : PyData.eqv (.list [.str "file", .str s]) (.list [.str "file", .str t]) = decide (s = t) := by
  by_cases h : s = t
  · subst h; simp [PyData.eqv, PyData.eqvAll]
  · simp [PyData.eqv, PyData.eqvAll, h]
theorem eqv_strs : ∀ ss : List Str, PyData.eqvAll (ss.map PyData.str) (ss.map PyData.str) = true
  | [] => rfl
  | s :: ss => by
    show (PyData.eqv (.str s) (.str s) && PyData.eqvAll (ss.map PyData.str) (ss.map PyData.str)) = true
    rw [eqv_strs ss]; simp [PyData.eqv]
/-! ### rows: the other methods -/
theorem tup2 {K : PySem.W.Frag} {H : Hp} {T : Addr} {x y : V} {σ : St} {i j : Nat} {Q : St → Hp → Prop} (q : Q ((σ.set i (some x)).set j (some y)) (upd H T (.tup [x, y]))) : gTup K 2 (gCons (gName i) (gCons (gName j) gNil)) (.ref T) σ (upd H T (.tup [x, y])) Q :=
  ⟨T, _, rfl, SqT.of upd_same, rfl, _, _, rfl, _, _, rfl, rfl, q⟩
theorem walk_enumT {K : PySem.W.Frag} {a : Addr} {xs : List V} : Walk (IteT K a) xs.length (fun H => SqT K H a xs) (YPair (fun i => some (.int (i : Nat))) (fun i => xs[i]?)) := by
  refine ⟨fun i _ hi q => ⟨xs, xs[i], q, by simp [hi]⟩, fun _ q => ⟨xs, q, Nat.le_refl _⟩, fun i H v H' _ q y => ?_⟩
  obtain ⟨T, x, h1, h2, h3, h4⟩ := y
  exact ⟨T, .int (i : Nat), x, h1, h2, h3, rfl, h4 xs q⟩
theorem isiO {K : PySem.W.Frag} {H : Hp} {Q : VK} {v : V} {t : Value} {C : Addr} {r : Bool} (ty : TyX K H v t) (hk : PySem.W.kitOne K t (.ref C) = some r) (q : Q (.bl r) H) : rIsi K [v, .ref C] H Q := ⟨v, .ref C, _, _, r, rfl, .own C, ty, hk, q⟩
theorem addT {K : PySem.W.Frag} {H : Hp} {Q : VK} {a b : Addr} {xs ys : List V} (ha : TupAt H a xs) (hb : TupAt H b ys) (hz : xs.length + ys.length ≤ sizeLine) (q : ∀ t H', TupAt H' t (xs ++ ys) → Same H H' → Q (.ref t) H') : oAdd K (.ref a) (.ref b) H Q := by
  refine .inr (.inr (.inr ⟨a, b, xs, ys, rfl, rfl, ha.sq, hb.sq, hz, fun e => q b H (by subst e; exact hb) same_refl, fun _ e => q a H (by subst e; rw [List.append_nil]; exact ha) same_refl, fun _ _ => .inr fun l ob hl hd _ => q l _ ⟨ob, upd_same, hd⟩ (Same.new hl)⟩))
theorem eqv_strs2 : ∀ ss tt : List Str, PyData.eqvAll (ss.map PyData.str) (tt.map PyData.str) = decide (ss = tt)
  | [], [] => rfl
  | [], _ :: _ => rfl
  | _ :: _, [] => rfl
  | s :: ss, t :: tt => by
    show (PyData.eqv (.str s) (.str t) && PyData.eqvAll (ss.map PyData.str) (tt.map PyData.str)) = _
    rw [eqv_strs2 ss tt]
    by_cases e : s = t
    · subst e
      by_cases e2 : ss = tt
      · subst e2; simp [PyData.eqv]
      · simp [PyData.eqv, e2]
    · simp [PyData.eqv, e]
/-- the different ones among the first n, in the order of their first places -/
def dstN (ss : List Str) : Nat → List Str
  | 0 => []
  | n + 1 => dstN ss n ++ match ss[n]? with
    | some s => if s ∈ ss.take n then [] else [s]
    | none => []
def dst (ss : List Str) : List Str := dstN ss ss.length
theorem dstN_len (ss : List Str) : ∀ n, (dstN ss n).length ≤ n
  | 0 => Nat.le_refl _
  | n + 1 => by
    have := dstN_len ss n
    show (dstN ss n ++ _).length ≤ n + 1
    rw [List.length_append]
    split
    · split <;> simp only [List.length_nil, List.length_singleton] <;> omega
    · simp only [List.length_nil]; omega
theorem dstN_mem (ss : List Str) : ∀ n, ∀ s ∈ dstN ss n, s ∈ ss
  | 0, s, h => absurd h List.not_mem_nil
  | n + 1, s, h => by
    rcases List.mem_append.mp h with h | h
    · exact dstN_mem ss n s h
    · split at h
      · rename_i t e
        split at h
        · exact absurd h List.not_mem_nil
        · rw [List.mem_singleton] at h; subst h; exact List.mem_of_getElem? e
      · exact absurd h List.not_mem_nil
theorem cutV_hi {xs : List V} {k : Nat} : cutV xs none (some (k : Int)) = xs.take k := by
  unfold cutV
  rw [HT.sIx_none, HT.sIx_nat, List.drop_zero, Nat.sub_zero, List.take_eq_take_iff]
  omega

def sp_Row_contains (K : PySem.W.Frag) : Sp := fun vs H Q _ => ∃ (a : Addr) (s : Str) (ss : List Str), vs = [.ref a, .str s] ∧ RowAt K H a ss ∧ Q (.bl (decide (s ∈ ss))) H
theorem len_Row_contains {K : PySem.W.Frag} : ∀ vs H Q E, sp_Row_contains K vs H Q E → vs.length = 2 := by rintro _ _ _ _ ⟨_, _, _, rfl, _⟩; rfl
theorem inV_strs {s : Str} {ss : List Str} : inV (.str s) (ss.map V.str) = decide (s ∈ ss) := by
  by_cases h : s ∈ ss
  · rw [in_strs.mpr h, decide_eq_true h]
  · rw [in_strs_no h, decide_eq_false h]
theorem pu_Row_contains {K : PySem.W.Frag} (R : RowK K) : ∀ vs H Q E, sp_Row_contains K vs H Q E → t_Row_contains K E { nx := fun _ H' => Q .non H', rt := Q } (start n_Row_contains vs) H := by
  rintro _ H Q E ⟨a, s, ss, rfl, ⟨dx, t, ha, ht⟩, q⟩
  unfold t_Row_contains n_Row_contains
  walk_at "rd"
  refine ⟨a, _, dx, _, _, rfl, ha, R.cls, R.looks, rfl, inT ht.sq rfl (flat_strs ss) ?_⟩
  walk_at "rd"
  rw [inV_strs]
  exact q
def sp_Row_add (K : PySem.W.Frag) : Sp := fun vs H Q E => ∃ (a b : Addr) (ss tt : List Str), vs = [.ref a, .ref b] ∧ RowAt K H a ss ∧ RowAt K H b tt ∧ (∀ s ∈ ss, isNm s) ∧ (∀ s ∈ tt, isNm s) ∧ ss.length ≤ 1000 ∧ tt.length ≤ 1000 ∧
  ∀ (c : Addr) (H' : Hp), RowAt K H' c (ss ++ tt) → Same H H' → Q (.ref c) H'
theorem len_Row_add {K : PySem.W.Frag} : ∀ vs H Q E, sp_Row_add K vs H Q E → vs.length = 2 := by rintro _ _ _ _ ⟨_, _, _, _, rfl, _⟩; rfl
/-- Row(a tuple of names that just was made) -/
theorem row_of {K : PySem.W.Frag} {H : Hp} {P : Addr → Hp → Prop} {E : XK} {t : Addr} {ss : List Str} (ht : TupAt H t (ss.map V.str)) (hs : ∀ s ∈ ss, isNm s) (q : ∀ (c : Addr) (H' : Hp), RowAt K H' c ss → Same H H' → P c H') :
    ∀ x dx, H x = none → H dx = none → dx ≠ x → sp_Row_init K [.ref x, .ref t] (upd (upd H dx (.own x)) x (.ins (He.ga K "Row") dx [])) (fun v H2 => v = .non ∧ P x H2) E := by
  intro x dx1 hx hdx hne
  have s2 : Same H (upd (upd H dx1 (.own x)) x (.ins (He.ga K "Row") dx1 [])) := made_same hx hdx But.refl
  exact ⟨x, t, dx1, ss, rfl, upd_same, hs, .inr (ht.same s2), fun H' t2 h1 h2 h3 => ⟨rfl, q x H' ⟨dx1, t2, h1, h2⟩ (made_same hx hdx h3)⟩⟩
theorem row_ofL {K : PySem.W.Frag} {H : Hp} {P : Addr → Hp → Prop} {E : XK} {t : Addr} {ss : List Str} (ht : SqL K H t (ss.map V.str)) (hs : ∀ s ∈ ss, isNm s) (q : ∀ (c : Addr) (H' : Hp), RowAt K H' c ss → Same H H' → P c H') :
    ∀ x dx, H x = none → H dx = none → dx ≠ x → sp_Row_init K [.ref x, .ref t] (upd (upd H dx (.own x)) x (.ins (He.ga K "Row") dx [])) (fun v H2 => v = .non ∧ P x H2) E := by
  intro x dx1 hx hdx hne
  have s2 : Same H (upd (upd H dx1 (.own x)) x (.ins (He.ga K "Row") dx1 [])) := made_same hx hdx But.refl
  exact ⟨x, t, dx1, ss, rfl, upd_same, hs, .inl (SqL.same ht s2), fun H' t2 h1 h2 h3 => ⟨rfl, q x H' ⟨dx1, t2, h1, h2⟩ (made_same hx hdx h3)⟩⟩
theorem pu_Row_add {K : PySem.W.Frag} (R : RowK K) (C : ClsI K (He.ga K "Row")) : ∀ vs H Q E, sp_Row_add K vs H Q E → t_Row_add K (sp_Row_init K) E { nx := fun _ H' => Q .non H', rt := Q } (start n_Row_add vs) H := by
  rintro _ H Q E ⟨a, b, ss, tt, rfl, ⟨dx, t, ha, ht⟩, ⟨dy, t2, hb, ht2⟩, hs, hs2, l1, l2, q⟩
  unfold t_Row_add n_Row_add
  walk_at "rd"
  refine isiO (C.ty hb) C.self ?_
  walk_at "rd"
  refine ⟨a, _, dx, _, _, rfl, ha, R.cls, R.looks, rfl, b, _, dy, _, _, rfl, hb, R.cls, R.looks, rfl, ?_⟩
  have z : (2000 : Nat) ≤ sizeLine := by decide
  refine addT ht ht2 (by rw [List.length_map, List.length_map]; omega) fun t3 H1 ht3 s1 => ?_
  rw [← List.map_append] at ht3
  refine row_of ht3 (fun s h => (List.mem_append.mp h).elim (hs s) (hs2 s)) fun c H' hc s2 => q c H' hc (s1.trans s2)
def sp_Row_neg (K : PySem.W.Frag) : Sp := fun vs H Q E => ∃ (a : Addr) (ss : List Str), vs = [.ref a] ∧ RowAt K H a ss ∧ (∀ s ∈ ss, isNm s) ∧ ∀ (c : Addr) (H' : Hp), RowAt K H' c ss.reverse → Same H H' → Q (.ref c) H'
theorem len_Row_neg {K : PySem.W.Frag} : ∀ vs H Q E, sp_Row_neg K vs H Q E → vs.length = 1 := by rintro _ _ _ _ ⟨_, _, rfl, _⟩; rfl
theorem pu_Row_neg {K : PySem.W.Frag} (R : RowK K) : ∀ vs H Q E, sp_Row_neg K vs H Q E → t_Row_neg K (sp_Row_init K) E { nx := fun _ H' => Q .non H', rt := Q } (start n_Row_neg vs) H := by
  rintro _ H Q E ⟨a, ss, rfl, ⟨dx, t, ha, ht⟩, hs, q⟩
  unfold t_Row_neg n_Row_neg
  walk_at "rd"
  refine ⟨a, _, dx, _, _, rfl, ha, R.cls, R.looks, rfl, t, _, rfl, .inr ⟨ht.sq, .inr fun l ob hl hd _ => ?_⟩⟩
  have h1 : TupAt (upd H l (.frz ob (.tup (ss.map V.str).reverse))) l (ss.reverse.map V.str) := ⟨ob, by rw [upd_same, List.map_reverse], hd⟩
  exact row_of h1 (fun s h => hs s (List.mem_reverse.mp h)) fun c H' hc s2 => q c H' hc (Same.trans (Same.new hl) s2)
def sp_Row_eq (K : PySem.W.Frag) : Sp := fun vs H Q E => ∃ (a : Addr) (y : V) (ss : List Str), vs = [.ref a, y] ∧ RowAt K H a ss ∧ (∀ s ∈ ss, isNm s) ∧ ((∃ (b : Addr) (tt : List Str), y = .ref b ∧ RowAt K H b tt ∧ (∀ s ∈ tt, isNm s) ∧ Q (.bl (decide (ss = tt))) H) ∨
  ∃ t, TyX K H y (.type t) ∧ PySem.W.kitOne K (.type t) (.ref (He.ga K "Row")) = some false ∧ Q (.bl false) H)
theorem len_Row_eq {K : PySem.W.Frag} : ∀ vs H Q E, sp_Row_eq K vs H Q E → vs.length = 2 := by rintro _ _ _ _ ⟨_, _, _, rfl, _⟩; rfl
theorem pu_Row_eq {K : PySem.W.Frag} (R : RowK K) (C : ClsI K (He.ga K "Row")) : ∀ vs H Q E, sp_Row_eq K vs H Q E → t_Row_eq K E { nx := fun _ H' => Q .non H', rt := Q } (start n_Row_eq vs) H := by
  rintro _ H Q E ⟨a, y, ss, rfl, ⟨dx, t, ha, ht⟩, hs, h⟩
  unfold t_Row_eq n_Row_eq
  walk_at "rd"
  rcases h with ⟨b, tt, rfl, ⟨dy, t2, hb, ht2⟩, hs2, q⟩ | ⟨ty, hty, hk, q⟩
  · refine isiO (C.ty hb) C.self ?_
    walk_at "rd"
    refine ⟨a, _, dx, _, _, rfl, ha, R.cls, R.looks, rfl, b, _, dy, _, _, rfl, hb, R.cls, R.looks, rfl, ?_⟩
    refine eqD (.tup ht.sq (DpAll.strs ss)) (.tup ht2.sq (DpAll.strs tt)) (shapedT_strs hs) (shapedT_strs hs2) ?_
    rw [show PyData.eqv (.tuple (ss.map PyData.str)) (.tuple (tt.map PyData.str)) = decide (ss = tt) from eqv_strs2 ss tt]
    exact q
  · refine isiO hty hk ?_
    walk_at "rd"
    exact q
def sp_Row_files (K : PySem.W.Frag) : Sp := fun vs H Q E => ∃ (a : Addr) (ss : List Str), vs = [.ref a] ∧ RowAt K H a ss ∧ ss.length ≤ 2000 ∧ ∀ (t : Addr) (H' : Hp), TupAt H' t ((dst ss).map V.str) → Same H H' → Q (.ref t) H'
theorem len_Row_files {K : PySem.W.Frag} : ∀ vs H Q E, sp_Row_files K vs H Q E → vs.length = 1 := by rintro _ _ _ _ ⟨_, _, rfl, _⟩; rfl
theorem pu_Row_files {K : PySem.W.Frag} (R : RowK K) : ∀ vs H Q E, sp_Row_files K vs H Q E → t_Row_files K E { nx := fun _ H' => Q .non H', rt := Q } (start n_Row_files vs) H := by
  rintro _ H Q E ⟨a, ss, rfl, ⟨dx, t, ha, ht⟩, hl, q⟩
  unfold t_Row_files n_Row_files
  walk_at "rd"
  refine ⟨a, _, dx, _, _, rfl, ha, R.cls, R.looks, rfl, t, _, rfl, ht.sq, ?_⟩
  have z : (2000 : Nat) ≤ sizeLine := by decide
  refine lg walk_enumT (fun D i H' => Same H H' ∧ H' D = some (.lst ((dstN ss i).map V.str))) (fun D hD => ⟨Same.new hD, upd_same⟩) (fun D hD i H' _ h => SqT.same ht.sq h.1) ?_ ?_
  · rintro D hD i x H1 _ hi ⟨s1, h1⟩ ⟨T, x1, x2, rfl, hT, rfl, e1, e2⟩
    cases e1
    have e2 : (ss.map V.str)[i]? = some x2 := e2
    rw [List.getElem?_map] at e2
    obtain ⟨s, es, rfl⟩ := Option.map_eq_some_iff.mp e2
    have s2 := Same.new2 (o := .tup [.int i, .str s]) s1 hT
    have h2 := at_new (o := .tup [.int i, .str s]) hT h1
    have hD2 : D ≠ T := ne_of_none h1 hT
    have hi2 : i < ss.length := by rw [List.length_map] at hi; exact hi
    refine tup2 ?_
    revert s2 h2
    generalize upd H1 T (.tup [.int i, .str s]) = H2
    intro s2 h2
    unfold t_Row_files_i1 t_Row_files_e1
    walk_at "rd"
    refine ⟨a, _, dx, _, _, rfl, s2 _ _ ha, R.cls, R.looks, rfl, ?_⟩
    have key : ∀ (p : Addr) (H3 : Hp), SqT K H3 p ((ss.take i).map V.str) → Same H H3 → H3 D = some (.lst ((dstN ss i).map V.str)) → oIn K true (.str s) (.ref p) H3 fun x H' => ∃ k, x = V.bl k ∧ if k = true then ∃ acc, H' D = some (.lst acc) ∧ acc.length < sizeLine ∧ Same H (upd H' D (.lst (acc ++ [.str s]))) ∧ upd H' D (.lst (acc ++ [.str s])) D = some (.lst ((dstN ss (i + 1)).map V.str)) else Same H H' ∧ H' D = some (.lst ((dstN ss (i + 1)).map V.str)) := by
      intro p H3 hp s3 h3
      refine inT hp rfl (flat_strs _) ⟨_, rfl, ?_⟩
      have ed : dstN ss (i + 1) = dstN ss i ++ (if s ∈ ss.take i then [] else [s]) := by
        show dstN ss i ++ _ = _
        rw [es]
      by_cases c : s ∈ ss.take i
      · rw [if_neg (by rw [in_strs.mpr c]; decide), ed, if_pos c, List.append_nil]
        exact ⟨s3, h3⟩
      · rw [if_pos (by rw [in_strs_no c]; rfl), ed, if_neg c]
        refine ⟨_, h3, by have := dstN_len ss i; rw [List.length_map]; omega, fun b u e => at_set (ne_of_none e hD) (s3 _ _ e), ?_⟩
        rw [upd_same, List.map_append]; rfl
    refine .inr (.inl ⟨t, _, rfl, SqT.same ht.sq s2, fun e => ?_, fun _ p hp => ?_⟩)
    · exfalso
      have e2 := e.2
      rw [HT.sIx_nat, List.length_map] at e2
      omega
    · rw [cutV_hi, ← List.map_take]
      have := key p _ (SqT.of upd_same) (Same.new2 s2 hp) (at_new hp h2)
      revert this
      walk_at "rd" <;> exact id
  · rintro D hD H1 ⟨s1, h1⟩
    rw [List.length_map] at h1
    refine ⟨D, _, rfl, .inl ⟨SqL.of h1, .inr fun l ob hl hd _ => ?_⟩⟩
    exact q l _ ⟨ob, upd_same, hd⟩ (Same.new2 s1 hl)
def sp_l_distinct (K : PySem.W.Frag) : Sp := fun vs H Q E => ∃ (a : Addr) (ss : List Str), vs = [.ref a] ∧ SqL K H a (ss.map V.str) ∧ ss.length ≤ 2000 ∧ ∀ (t : Addr) (H' : Hp), TupAt H' t ((dst ss).map V.str) → Same H H' → Q (.ref t) H'
theorem len_l_distinct {K : PySem.W.Frag} : ∀ vs H Q E, sp_l_distinct K vs H Q E → vs.length = 1 := by rintro _ _ _ _ ⟨_, _, rfl, _⟩; rfl
theorem pu_l_distinct {K : PySem.W.Frag} : ∀ vs H Q E, sp_l_distinct K vs H Q E → t_l_distinct K E { nx := fun _ H' => Q .non H', rt := Q } (start n_l_distinct vs) H := by
  rintro _ H Q E ⟨a, ss, rfl, ht, hl, q⟩
  unfold t_l_distinct n_l_distinct
  walk_at "rd"
  refine ⟨a, _, rfl, ht, ?_⟩
  have z : (2000 : Nat) ≤ sizeLine := by decide
  refine lg walk_enum (fun D i H' => Same H H' ∧ H' D = some (.lst ((dstN ss i).map V.str))) (fun D hD => ⟨Same.new hD, upd_same⟩) (fun D hD i H' _ h => SqL.same ht h.1) ?_ ?_
  · rintro D hD i x H1 _ hi ⟨s1, h1⟩ ⟨T, x1, x2, rfl, hT, rfl, e1, e2⟩
    cases e1
    have e2 : (ss.map V.str)[i]? = some x2 := e2
    rw [List.getElem?_map] at e2
    obtain ⟨s, es, rfl⟩ := Option.map_eq_some_iff.mp e2
    have s2 := Same.new2 (o := .tup [.int i, .str s]) s1 hT
    have h2 := at_new (o := .tup [.int i, .str s]) hT h1
    have hi2 : i < ss.length := by rw [List.length_map] at hi; exact hi
    refine tup2 ?_
    revert s2 h2
    generalize upd H1 T (.tup [.int i, .str s]) = H2
    intro s2 h2
    unfold t_l_distinct_i1 t_l_distinct_e1
    walk_at "rd"
    refine slL (SqL.same ht s2) fun p hp => ?_
    rw [cutV_hi, ← List.map_take]
    have s3 := Same.new2 (o := .lst ((ss.take i).map V.str)) s2 hp
    have h3 := at_new (o := .lst ((ss.take i).map V.str)) hp h2
    refine inL (SqL.of upd_same) rfl (flat_strs _) ?_
    walk_at "rd"
    have ed : dstN ss (i + 1) = dstN ss i ++ (if s ∈ ss.take i then [] else [s]) := by
      show dstN ss i ++ _ = _
      rw [es]
    by_cases c : s ∈ ss.take i
    · rw [if_neg (by rw [in_strs.mpr c]; decide), ed, if_pos c, List.append_nil]
      exact ⟨s3, h3⟩
    · rw [if_pos (by rw [in_strs_no c]; rfl), ed, if_neg c]
      refine ⟨_, h3, by have := dstN_len ss i; rw [List.length_map]; omega, fun b u e => at_set (ne_of_none e hD) (s3 _ _ e), ?_⟩
      rw [upd_same, List.map_append]; rfl
  · rintro D hD H1 ⟨s1, h1⟩
    rw [List.length_map] at h1
    refine ⟨D, _, rfl, .inl ⟨SqL.of h1, .inr fun l ob hl hd _ => ?_⟩⟩
    exact q l _ ⟨ob, upd_same, hd⟩ (Same.new2 s1 hl)
theorem eqRow {K : PySem.W.Frag} {H : Hp} {Q : VK} {a b : Addr} {ss tt : List Str} (C : ClsI K (He.ga K "Row")) (ha : RowAt K H a ss) (hb : RowAt K H b tt) (hs : ∀ s ∈ ss, isNm s) (ht : ∀ s ∈ tt, isNm s) (q : Q (.bl (decide (ss = tt))) H) :
    rCmpO K (He.ga K "Row") (sp_Row_eq K) (.ref a) (.ref b) H Q := by
  obtain ⟨dx, t, e, _⟩ := id ha
  obtain ⟨dx2, t2, e2, _⟩ := id hb
  exact ⟨a, dx, _, _, rfl, e, C.ty e2, C.nf, a, _, ss, rfl, ha, hs, .inl ⟨b, tt, rfl, hb, ht, q⟩⟩
theorem eqOther {K : PySem.W.Frag} {H : Hp} {Q : VK} {a : Addr} {y : V} {ss : List Str} {t : String} (ha : RowAt K H a ss) (hs : ∀ s ∈ ss, isNm s) (ty : TyX K H y (.type t)) (nf : PySem.W.notFirst K (He.ga K "Row") (.type t) = true)
    (kt : PySem.W.kitOne K (.type t) (.ref (He.ga K "Row")) = some false) (q : Q (.bl false) H) : rCmpO K (He.ga K "Row") (sp_Row_eq K) (.ref a) y H Q := by
  obtain ⟨dx, t0, e, _⟩ := id ha
  exact ⟨a, dx, _, _, rfl, e, ty, nf, a, y, ss, rfl, ha, hs, .inr ⟨t, ty, kt, q⟩⟩
theorem isB {H : Hp} {Q : VK} {a b : Bool} (q : Q (.bl (a == b)) H) : rIsB (.bl a) (.bl b) H Q := ⟨a, b, rfl, rfl, q⟩
/-! ### law k28 -/
def sp_l_row (K : PySem.W.Frag) : Sp := fun vs H Q E => ∃ (p l : Addr) (n : Nat) (ss : List Str), vs = [.ref p, .ref l] ∧ PoolAt H p n ∧ n ≤ 999900 ∧ p ≠ l ∧ H l = some (.lst (ss.map V.str)) ∧ (∀ s ∈ ss, isNm s) ∧ ss.length ≤ 1000 ∧
  ∀ (r : Addr) (H' : Hp), RowAt K H' r ss → PoolAt H' p (n + 1) → But p H H' → Q (.ref r) H'
theorem len_l_row {K : PySem.W.Frag} : ∀ vs H Q E, sp_l_row K vs H Q E → vs.length = 2 := by rintro _ _ _ _ ⟨_, _, _, _, rfl, _⟩; rfl
theorem pu_l_row {K : PySem.W.Frag} : ∀ vs H Q E, sp_l_row K vs H Q E → t_l_row K (sp_Row_init K) sp_l_take E { nx := fun _ H' => Q .non H', rt := Q } (start n_l_row vs) H := by
  rintro _ H Q E ⟨p, l, n, ss, rfl, hp, hn, hpl, hl, hs, hz, q⟩
  unfold t_l_row n_l_row
  walk_at "rd"
  have z : (2000 : Nat) ≤ sizeLine := by decide
  refine ⟨l, _, rfl, .inl (SqL.of hl), fun g hg => ?_⟩
  have s1 : Same H (upd H g (.lst (ss.map V.str))) := Same.new hg
  have gp : p ≠ g := Ne.symm (hp.ne hg)
  have h1 : upd H g (.lst (ss.map V.str)) g = some (.lst (ss.map V.str)) := upd_same
  revert s1 h1
  generalize upd H g (.lst (ss.map V.str)) = H1
  intro s1 h1
  walk_at "rd"
  refine row_ofL (SqL.of h1) hs fun r H2 hr s2 => ?_
  have s12 := s1.trans s2
  refine ⟨p, 2, n, rfl, hp.same s12, by omega, by decide, by decide, fun k H3 k0 k1 p3 a3 => ?_⟩
  have b3 : But p H H3 := (But.of s12).trans a3.but
  obtain ⟨xs, hxs⟩ := (hp.same s12).lst
  have hr3 := hr.but hxs a3.but
  have h3 := a3.but _ _ (Ne.symm gp) (s2 _ _ h1)
  refine eqI ?_
  walk_at "rd"
  have fin : ∀ (r : Addr) (H4 : Hp), RowAt K H4 r ss → Same H3 H4 → Q (.ref r) (upd H4 g (.lst (ss.map V.str ++ [.str "zz"]))) := by
    intro r H4 hr4 s4
    have h4 := s4 _ _ h3
    refine q r _ ?_ ((p3.same s4).set gp) (fun a u ne e => at_set (ne_of_none e hg) (s4 _ _ (b3 a u ne e)))
    obtain ⟨dx, t, e1, ob, e2, e3⟩ := hr4
    refine ⟨dx, t, at_set (fun e => ?_) e1, ob, at_set (fun e => ?_) e2, e3⟩
    · subst e; rw [h4] at e1; cases e1
    · subst e; rw [h4] at e2; cases e2
  split
  · refine ⟨l, _, rfl, .inl ⟨SqL.of (b3 _ _ (Ne.symm hpl) hl), .inr fun t ob ht hd _ => ?_⟩⟩
    refine row_of (ss := ss) ⟨ob, upd_same, hd⟩ hs fun r4 H4 hr4 s4 => ?_
    have s34 := Same.trans (Same.new ht) s4
    refine ⟨ty_list (SqL.of (s34 _ _ h3)), g, _, _, rfl, rfl, s34 _ _ h3, by rw [List.length_map]; omega, fin _ _ hr4 s34⟩
  · exact ⟨ty_list (SqL.of h3), g, _, _, rfl, rfl, h3, by rw [List.length_map]; omega, fin _ _ hr3 same_refl⟩
def sp_l_right (K : PySem.W.Frag) : Sp := fun vs H Q E => ∃ (r l : Addr) (ss : List Str), vs = [.ref r, .ref l] ∧ RowAt K H r ss ∧ SqL K H l (ss.map V.str) ∧ (∀ s ∈ ss, isNm s) ∧ ss.length ≤ 2000 ∧ ∀ H' : Hp, Same H H' → Q (.bl true) H'
theorem len_l_right {K : PySem.W.Frag} : ∀ vs H Q E, sp_l_right K vs H Q E → vs.length = 2 := by rintro _ _ _ _ ⟨_, _, _, rfl, _⟩; rfl
theorem pu_l_right {K : PySem.W.Frag} (R : RowK K) : ∀ vs H Q E, sp_l_right K vs H Q E → t_l_right K (sp_Row_files K) (sp_l_distinct K) (sp_Row_len K) (sp_Row_getitem K) E { nx := fun _ H' => Q .non H', rt := Q } (start n_l_right vs) H := by
  rintro _ H Q E ⟨r, l, ss, rfl, hr, hl, hs, hz, q⟩
  have z : (2000 : Nat) ≤ sizeLine := by decide
  have hds : ∀ s ∈ dst ss, isNm s := fun s h => hs s (dstN_mem ss _ s h)
  unfold t_l_right n_l_right
  walk_at "rd"
  obtain ⟨dx, t, ha, ht⟩ := id hr
  refine ⟨r, _, dx, _, _, rfl, ha, R.cls, R.looks, rfl, l, _, rfl, .inl ⟨hl, .inl fun t1 ht1 => ?_⟩⟩
  have s1 : Same H (upd H t1 (.tup (ss.map V.str))) := Same.new ht1
  refine neD (.tup (SqT.same ht.sq s1) (DpAll.strs ss)) (.tup (SqT.of upd_same) (DpAll.strs ss)) (shapedT_strs hs) (shapedT_strs hs) ?_
  rw [show PyData.eqv (.tuple (ss.map PyData.str)) (.tuple (ss.map PyData.str)) = true from eqv_strs ss]
  revert s1
  generalize upd H t1 (.tup (ss.map V.str)) = H1
  intro s1
  walk_at "rd"
  refine ⟨r, dx, _, rfl, s1 _ _ ha, r, ss, rfl, hr.same s1, hz, fun t2 H2 ht2 s2 => ?_⟩
  have s02 := s1.trans s2
  refine ⟨l, ss, rfl, SqL.same hl s02, hz, fun t3 H3 ht3 s3 => ?_⟩
  have s03 := s02.trans s3
  refine neD (.tup (ht2.same s3).sq (DpAll.strs _)) (.tup ht3.sq (DpAll.strs _)) (shapedT_strs hds) (shapedT_strs hds) ?_
  rw [show PyData.eqv (.tuple ((dst ss).map PyData.str)) (.tuple ((dst ss).map PyData.str)) = true from eqv_strs _]
  walk_at "rd"
  refine ⟨r, dx, _, rfl, s03 _ _ ha, r, ss, rfl, hr.same s03, _, rfl, by omega, by omega, lenL (SqL.same hl s03) ?_⟩
  rw [List.length_map]
  refine neI ?_
  rw [decide_eq_true rfl]
  walk_at "rd"
  refine ⟨r, _, dx, _, _, rfl, s03 _ _ ha, R.cls, R.looks, rfl, isiF (t := "tuple") (r := true) (.fTuple (ht.same s03).choose_spec.1) rfl ?_⟩
  walk_at "rd"
  refine ⟨r, dx, _, rfl, s03 _ _ ha, r, ss, rfl, hr.same s03, hz, fun t4 H4 ht4 s4 => ?_⟩
  have s04 := s03.trans s4
  refine isiF (t := "tuple") (r := true) (.fTuple ht4.choose_spec.1) rfl ?_
  walk_at "rd"
  refine lenL (SqL.same hl s04) ⟨_, rfl, by omega, by rw [List.length_map]; omega, ?_⟩
  rw [Int.toNat_natCast, List.length_map]
  refine lg walk_range (fun D i H' => Same H4 H' ∧ H' D = some (.lst ((ss.take i).map V.str))) (fun D hD => ⟨Same.new hD, upd_same⟩) (fun _ _ _ _ _ _ => trivial) ?_ ?_
  · rintro D hD i x _ H5 hi ⟨s5, h5⟩ ⟨rfl, rfl⟩
    unfold t_l_right_e1
    walk_at "rd"
    have s05 := s04.trans s5
    refine ⟨r, dx, _, rfl, s05 _ _ ha, r, _, ss, rfl, hr.same s05, .inr ⟨i, ss[i], by rw [Int.zero_add], List.getElem?_eq_getElem hi, ?_⟩⟩
    refine ⟨_, h5, by rw [List.length_map, List.length_take]; omega, fun b u e => at_set (ne_of_none e hD) (s5 _ _ e), ?_⟩
    rw [upd_same, List.take_succ_eq_append_getElem hi, List.map_append]
    rfl
  · rintro D hD H5 ⟨s5, h5⟩
    have s05 := s04.trans s5
    rw [List.take_length] at h5
    refine ⟨l, _, rfl, .inl (SqL.same hl s05), fun l2 hl2 => ?_⟩
    refine eqD (.lst (SqL.of (at_new hl2 h5)) (DpAll.strs ss)) (.lst (SqL.of upd_same) (DpAll.strs ss)) (shaped_strs hs) (shaped_strs hs) ?_
    rw [show PyData.eqv (.list (ss.map PyData.str)) (.list (ss.map PyData.str)) = true from eqv_strs ss]
    exact q _ (Same.new2 s05 hl2)
def sp_l_counted (K : PySem.W.Frag) : Sp := fun vs H Q E => ∃ (r l : Addr) (k : Nat) (ss : List Str), vs = [.ref r, .ref l, .int k] ∧ RowAt K H r ss ∧ H l = some (.lst (ss.map V.str)) ∧ (∀ s ∈ ss, isNm s) ∧ ss.length ≤ 1000 ∧ k ≤ 1000 ∧ k * ss.length ≤ 1000 ∧ ∀ H' : Hp, Same H H' → Q (.bl true) H'
theorem len_l_counted {K : PySem.W.Frag} : ∀ vs H Q E, sp_l_counted K vs H Q E → vs.length = 3 := by rintro _ _ _ _ ⟨_, _, _, _, rfl, _⟩; rfl
theorem pu_l_counted {K : PySem.W.Frag} (R : RowK K) (C : ClsI K (He.ga K "Row")) (B : BinT K (He.ga K "Row") "mul" "int") : ∀ vs H Q E, sp_l_counted K vs H Q E → t_l_counted K (sp_l_right K) (sp_Row_mul K) (sp_Row_mul K) (sp_Row_eq K) E { nx := fun _ H' => Q .non H', rt := Q } (start n_l_counted vs) H := by
  rintro _ H Q E ⟨r, l, k, ss, rfl, hr, hl, hs, hz, hk, hkz, q⟩
  have z : (2000 : Nat) ≤ sizeLine := by decide
  have el : ((List.replicate k ss).flatten.length : Nat) = k * ss.length := by rw [List.length_flatten, List.map_replicate, List.sum_replicate_nat]
  have hrs : ∀ j, ∀ s ∈ (List.replicate j ss).flatten, isNm s := by
    intro j s hs2
    obtain ⟨l, hl2, hs3⟩ := List.mem_flatten.mp hs2
    rw [List.eq_of_mem_replicate hl2] at hs3
    exact hs s hs3
  have em : (List.replicate k (ss.map V.str)).flatten = ((List.replicate k ss).flatten).map V.str := by rw [List.map_flatten, List.map_replicate]
  unfold t_l_counted n_l_counted
  walk_at "rd"
  have mulL : ∀ {H0 : Hp} {Q0 : VK} {E0 : XK} (j : Nat), Same H H0 → j ≤ 1000 → (∀ (b : Addr) (H' : Hp), RowAt K H' b (List.replicate j ss).flatten → Same H0 H' → Q0 (.ref b) H') → ∃ a dx fs T, r = a ∧ H0 a = some (.ins (He.ga K "Row") dx fs) ∧ TyX K H0 (.int j) (.type T) ∧ BinT K (He.ga K "Row") "mul" T ∧ sp_Row_mul K [.ref r, .int j] H0 Q0 E0 := by
    intro H0 Q0 E0 j s0 hj q0
    obtain ⟨dx, t, ha, ht⟩ := id (hr.same s0)
    exact ⟨r, dx, _, "int", rfl, ha, .base (.int _), B, r, _, ss, rfl, hr.same s0, hs, hz, .inr ⟨j, rfl, hj, q0⟩⟩
  refine mulL k same_refl hk fun b1 H1 hb1 s1 => ?_
  have rep : ∀ {H0 : Hp} {Q0 : VK}, Same H H0 → (∀ (m : Addr) (H' : Hp), SqL K H' m (((List.replicate k ss).flatten).map V.str) → Same H0 H' → Q0 (.ref m) H') → oMulA K (.ref l) (.int k) H0 Q0 := by
    intro H0 Q0 s0 q0
    refine .inr (.inl ⟨l, k, _, rfl, rfl, s0 _ _ hl, by omega, by omega, by rw [Int.toNat_natCast, List.length_map, Nat.mul_comm]; omega, fun m hm => ?_⟩)
    rw [Int.toNat_natCast, em]
    exact q0 m _ (SqL.of upd_same) (Same.new hm)
  refine rep s1 fun m1 H2 hm1 s2 => ?_
  have s02 := s1.trans s2
  refine ⟨b1, m1, _, rfl, hb1.same s2, hm1, hrs k, by rw [el]; omega, fun H3 s3 => ?_⟩
  have s03 := s02.trans s3
  walk_at "rd"
  obtain ⟨dx, t, ha, ht⟩ := id (hr.same s03)
  refine ⟨r, dx, _, "int", rfl, ha, .base (.int _), B, .inl ⟨_, rfl, rfl⟩, r, _, ss, rfl, hr.same s03, hs, hz, .inr ⟨k, rfl, hk, fun b2 H4 hb2 s4 => ?_⟩⟩
  have s04 := s03.trans s4
  refine rep s04 fun m2 H5 hm2 s5 => ?_
  have s05 := s04.trans s5
  refine ⟨b2, m2, _, rfl, hb2.same s5, hm2, hrs k, by rw [el]; omega, fun H6 s6 => ?_⟩
  have s06 := s05.trans s6
  walk_at "rd"
  refine mulL k s06 hk fun b3 H7 hb3 s7 => ?_
  have s07 := s06.trans s7
  obtain ⟨dx7, t7, ha7, ht7⟩ := id (hr.same s07)
  refine ⟨r, dx7, _, "int", rfl, ha7, .base (.int _), B, .inl ⟨_, rfl, rfl⟩, r, _, ss, rfl, hr.same s07, hs, hz, .inr ⟨k, rfl, hk, fun b4 H8 hb4 s8 => ?_⟩⟩
  have s08 := s07.trans s8
  walk_at "rd"
  refine eqRow C (hb3.same s8) hb4 (hrs k) (hrs k) (isB ?_)
  rw [decide_eq_true rfl]
  walk_at "rd"
  refine mulL 1 s08 (by decide) fun b5 H9 hb5 s9 => ?_
  have s09 := s08.trans s9
  have e1 : (List.replicate 1 ss).flatten = ss := by simp
  rw [e1] at hb5
  refine eqRow C hb5 (hr.same s09) hs hs (isB ?_)
  rw [decide_eq_true rfl]
  exact q _ s09
structure RowN (K : PySem.W.Frag) : Prop where
  nt : PySem.W.notFirst K (He.ga K "Row") (.type "tuple") = true
  nl : PySem.W.notFirst K (He.ga K "Row") (.type "list") = true
  ni : PySem.W.notFirst K (He.ga K "Row") (.type "int") = true
  kt : PySem.W.kitOne K (.type "tuple") (.ref (He.ga K "Row")) = some false
  kl : PySem.W.kitOne K (.type "list") (.ref (He.ga K "Row")) = some false
  ki : PySem.W.kitOne K (.type "int") (.ref (He.ga K "Row")) = some false
def sp_law (K : PySem.W.Frag) : Sp := fun vs H Q _ => ∃ (a : Addr) (ns : List Int), vs = [.ref a] ∧ SqL K H a (ns.map V.int) ∧ ∀ H', Q (.bl true) H'
theorem len_law {K : PySem.W.Frag} : ∀ vs H Q E, sp_law K vs H Q E → vs.length = 1 := by rintro _ _ _ _ ⟨_, _, rfl, _⟩; rfl
theorem pu_law {K : PySem.W.Frag} (R : RowK K) (C : ClsI K (He.ga K "Row")) (N : RowN K) : ∀ vs H Q E, sp_law K vs H Q E → t_law K sp_l_pool (sp_l_cell K) sp_l_names sp_l_take (sp_l_row K) (sp_l_stranger K) (sp_Row_contains K) (sp_Row_add K) (sp_l_right K) (sp_Row_neg K) (sp_l_counted K) (sp_Row_eq K) (sp_Row_init K) E { nx := fun _ H' => Q .non H', rt := Q } (start n_law vs) H := by
  rintro _ H Q E ⟨a, ns, rfl, ha, q⟩
  unfold t_law n_law
  walk_at "rd"
  refine ⟨a, ns, 0, rfl, ha, fun i0 => ?_⟩
  refine ⟨i0, rfl, fun p o hp hpo => ?_⟩
  walk_at "rd"
  have s1 : Same H (upd H p o) := Same.new hp
  revert hpo s1
  generalize upd H p o = H1
  intro p1 s1
  refine ⟨p, 6, 0, rfl, p1, by decide, by decide, by decide, fun r H2 r0 r1 p2 a2 => ?_⟩
  walk_at "rd"
  have s2 := a2.same hp s1
  refine ⟨p, (1 + r).toNat, 1, by rw [show ((1 + r).toNat : Int) = 1 + r by omega], p2, by decide, by omega, fun st ss H3 st0 hst sl nd hnm p3 b3 => ?_⟩
  have s3 := b3.same hp s2
  walk_at "rd"
  clear p3 nd st0
  refine ⟨a, ns, 1, rfl, SqL.same ha s3, fun i1 => ⟨i1, rfl, fun p' o' hp' hpo' => ?_⟩⟩
  walk_at "rd"
  have s4 : Same H3 (upd H3 p' o') := Same.new hp'
  revert hpo' s4
  generalize upd H3 p' o' = H4
  intro p4 s4
  have sH4 := s3.trans s4
  have nst : st ≠ p' := ne_of_none hst hp'
  refine ⟨p', 11, 0, rfl, p4, by decide, by decide, by decide, fun m H5 m0 m1 p5 a5 => ?_⟩
  walk_at "rd"
  refine ⟨_, rfl, by omega, by omega, ?_⟩
  have s35 : Same H3 H5 := a5.same hp' s4
  have hst5 := s35 _ _ hst
  refine lg walk_range (fun D i H' => ∃ ls : List Str, ls.length = i ∧ (∀ s ∈ ls, s ∈ ss) ∧ H' D = some (.lst (ls.map V.str)) ∧ PoolAt H' p' (1 + i) ∧ But p' H5 H')
        (fun D hD => ⟨[], rfl, fun _ h => absurd h List.not_mem_nil, upd_same, (p5.new hD), But.refl.new hD⟩) (fun _ _ _ _ _ _ => trivial) ?_ ?_
  · rintro D hD i x _ H6 hi ⟨ls, l1, l2, h6, p6, b6⟩ ⟨rfl, rfl⟩
    unfold t_law_e1
    walk_at "rd"
    have nDp : D ≠ p' := p5.ne hD
    have hst6 := b6 _ _ nst hst5
    refine lenL (SqL.of hst6) ?_
    refine ⟨p', _, 1 + i, rfl, p6, by omega, by rw [List.length_map]; omega, by rw [List.length_map]; omega, fun r H7 r0 r1 p7 a7 => ?_⟩
    rw [List.length_map] at r1
    have hr : r.toNat < ss.length := by omega
    refine getL (v := .str (ss[r.toNat])) (SqL.of (a7.but _ _ nst hst6)) (at_nat (n := 0) r0 (by rw [List.getElem?_map, List.getElem?_eq_getElem hr]; rfl)) ?_
    have z : (11 : Nat) ≤ sizeLine := by decide
    refine ⟨_, a7.but _ _ nDp h6, by rw [List.length_map]; omega, ls ++ [ss[r.toNat]], by rw [List.length_append, l1]; rfl, ?_, ?_, p7.set (Ne.symm nDp), (b6.trans a7.but).mut hD⟩
    · intro s hs
      rcases List.mem_append.mp hs with h | h
      · exact l2 s h
      · rw [List.mem_singleton] at h; subst h; exact List.getElem_mem hr
    · rw [upd_same, List.map_append]; rfl
  rintro D hD H6 ⟨ls, l1, l2, h6, p6, b6⟩
  walk_at "rd"
  have s36 : Same H3 H6 := b6.same hp' s35
  have hst6 := s36 _ _ hst
  have sH6 := s3.trans s36
  have lnm : ∀ s ∈ ls, isNm s := fun s h => hnm s (l2 s h)
  clear s35 hst5 p5 a5 b6 hD p6 p4 s4 hp' nst
  refine ⟨a, ns, 2, rfl, SqL.same ha sH6, fun i2 => ⟨i2, rfl, fun p2 o2 hp2 hpo2 => ?_⟩⟩
  walk_at "rd"
  have s4 : Same H6 (upd H6 p2 o2) := Same.new hp2
  revert hpo2 s4
  generalize upd H6 p2 o2 = H7
  intro p7 s7
  have nst : st ≠ p2 := ne_of_none hst6 hp2
  have nD : D ≠ p2 := ne_of_none h6 hp2
  refine ⟨p2, 11, 0, rfl, p7, by decide, by decide, by decide, fun m2 H8 m20 m21 p8 a8 => ?_⟩
  walk_at "rd"
  refine ⟨_, rfl, by omega, by omega, ?_⟩
  have s68 : Same H6 H8 := a8.same hp2 s7
  have hst8 := s68 _ _ hst6
  refine lg walk_range (fun D i H' => ∃ ls : List Str, ls.length = i ∧ (∀ s ∈ ls, s ∈ ss) ∧ H' D = some (.lst (ls.map V.str)) ∧ PoolAt H' p2 (1 + i) ∧ But p2 H8 H')
        (fun D hD => ⟨[], rfl, fun _ h => absurd h List.not_mem_nil, upd_same, (p8.new hD), But.refl.new hD⟩) (fun _ _ _ _ _ _ => trivial) ?_ ?_
  · rintro D hD i x _ H9 hi ⟨ls, l1, l2, h9, p9, b9⟩ ⟨rfl, rfl⟩
    unfold t_law_e2
    walk_at "rd"
    have nDp : D ≠ p2 := p8.ne hD
    have hst9 := b9 _ _ nst hst8
    refine lenL (SqL.of hst9) ?_
    refine ⟨p2, _, 1 + i, rfl, p9, by omega, by rw [List.length_map]; omega, by rw [List.length_map]; omega, fun r H7 r0 r1 p7 a7 => ?_⟩
    rw [List.length_map] at r1
    have hr : r.toNat < ss.length := by omega
    refine getL (v := .str (ss[r.toNat])) (SqL.of (a7.but _ _ nst hst9)) (at_nat (n := 0) r0 (by rw [List.getElem?_map, List.getElem?_eq_getElem hr]; rfl)) ?_
    have z : (11 : Nat) ≤ sizeLine := by decide
    refine ⟨_, a7.but _ _ nDp h9, by rw [List.length_map]; omega, ls ++ [ss[r.toNat]], by rw [List.length_append, l1]; rfl, ?_, ?_, p7.set (Ne.symm nDp), (b9.trans a7.but).mut hD⟩
    · intro s hs
      rcases List.mem_append.mp hs with h | h
      · exact l2 s h
      · rw [List.mem_singleton] at h; subst h; exact List.getElem_mem hr
    · rw [upd_same, List.map_append]; rfl
  rintro D2 hD2 H9 ⟨ot, o1, o2, h9, p9, b9⟩
  walk_at "rd"
  have onm : ∀ s ∈ ot, isNm s := fun s h => hnm s (o2 s h)
  have nD2 : D2 ≠ p2 := p8.ne hD2
  have hD9 := b9 _ _ nD (s68 _ _ h6)
  have hst9 := b9 _ _ nst hst8
  clear hst8 p7 p8 a8 s7 b9
  refine ⟨p2, D, _, ls, rfl, p9, by omega, Ne.symm nD, hD9, lnm, by omega, fun one H10 r10 p10 b10 => ?_⟩
  have h10 := b10 _ _ nD2 h9
  have hD10 := b10 _ _ nD hD9
  have hst10 := b10 _ _ nst hst9
  walk_at "rd"
  refine ⟨p2, D2, _, ot, rfl, p10, by omega, Ne.symm nD2, h10, onm, by omega, fun two H11 r11 p11 b11 => ?_⟩
  obtain ⟨xs10, hxs10⟩ := p10.lst
  have r10' := r10.but hxs10 b11
  have h11 := b11 _ _ nD2 h10
  have hD11 := b11 _ _ nD hD10
  have hst11 := b11 _ _ nst hst10
  walk_at "rd"
  refine ⟨p2, st, _, ss, rfl, p11, by omega, Ne.symm nst, hst11, hnm, by omega, fun nw H12 nnw new p12 b12 => ?_⟩
  obtain ⟨xs11, hxs11⟩ := p11.lst
  have rA := r10'.but hxs11 b12
  have rB := r11.but hxs11 b12
  have hO := b12 _ _ nD2 h11
  have hL := b12 _ _ nD hD11
  have hS := b12 _ _ nst hst11
  clear h11 hD11 hst11 r11 r10 r10' hxs10 hxs11 p11 p10 h10 hD10 hst10 hst9 hD9 h9 p9 b10 b11 b12
  walk_at "rd"
  refine ⟨by decide, fun e1 he1 => ?_⟩
  have z : (2000 : Nat) ≤ sizeLine := by decide
  refine addL (at_new he1 hS) upd_same (by rw [List.length_map]; simp only [List.length_cons, List.length_nil]; omega) fun e2 he2 => ?_
  have z12 : Same H12 (upd (upd H12 e1 (.lst [.str nw])) e2 (.lst (ss.map V.str ++ [.str nw]))) := Same.new2 (Same.new he1) he2
  have ge2 : upd (upd H12 e1 (.lst [.str nw])) e2 (.lst (ss.map V.str ++ [.str nw])) e2 = some (.lst ((ss ++ [nw]).map V.str)) := by rw [upd_same, List.map_append]; rfl
  revert z12 ge2
  generalize upd (upd H12 e1 (.lst [.str nw])) e2 (.lst (ss.map V.str ++ [.str nw])) = H13
  intro z12 ge2
  have rowOf : ∀ {H' : Hp} {r : Addr} {l : List Str}, RowAt K H' r l → ∃ dx fs, H' r = some (.ins (He.ga K "Row") dx fs) := fun h => by
    obtain ⟨dx, t, e, _⟩ := h
    exact ⟨dx, _, e⟩
  refine .inl ⟨e2, rfl, ⟨_, SqL.of ge2⟩, ?_⟩
  refine fg walk_list (fun i σ H' => Same H12 H' ∧ H' e2 = some (.lst ((ss ++ [nw]).map V.str)) ∧ ∃ x8, σ = [some (V.ref a), some (V.ref p2), some (V.ref st), some (V.ref D), some (V.ref D2), some (V.ref one), some (V.ref two), some (.str nw), x8, none, none]) ⟨z12, ge2, _, rfl⟩ (fun i σ H' _ h => SqL.of h.2.1) ?_ ?_
  · rintro i v _ _ H14 hi ⟨s14, g14, x8, rfl⟩ ⟨rfl, hv⟩
    rw [List.getElem?_map] at hv
    obtain ⟨f, hf, rfl⟩ := Option.map_eq_some_iff.mp hv
    unfold t_law_b1
    walk_at "rd"
    have rA' := rA.same s14
    have rB' := rB.same s14
    obtain ⟨dx, fs, ea⟩ := rowOf rA'
    obtain ⟨dy, gs, eb⟩ := rowOf rB'
    refine ⟨one, dx, fs, rfl, ea, one, f, ls, rfl, rA', _, rfl, inL (SqL.of (s14 _ _ hL)) rfl (flat_strs ls) ?_⟩
    walk_at "rd"
    rw [inV_strs]
    refine neF rfl ?_
    rw [decide_eq_true rfl]
    walk_at "rd"
    refine ⟨one, dx, fs, two, dy, gs, rfl, rfl, ea, eb, one, two, ls, ot, rfl, rA', rB', lnm, onm, by omega, by omega, fun c H15 hc s15 => ?_⟩
    obtain ⟨dc, hs, ec⟩ := rowOf hc
    have s1215 := s14.trans s15
    refine ⟨c, dc, hs, rfl, ec, c, f, _, rfl, hc, _, rfl, addL (s1215 _ _ hL) (s1215 _ _ hO) (by rw [List.length_map, List.length_map]; omega) fun e5 he5 => ?_⟩
    rw [← List.map_append]
    refine inL (SqL.of upd_same) rfl (flat_strs _) ?_
    walk_at "rd"
    rw [inV_strs]
    refine neF rfl ?_
    rw [decide_eq_true rfl]
    walk_at "rd"
    exact ⟨Same.new2 s1215 he5, at_new he5 (s15 _ _ g14), _, rfl⟩
  rintro _ H14 ⟨s14, g14, x8, rfl⟩
  walk_at "rd"
  have rA' := rA.same s14
  have rB' := rB.same s14
  have hL' := s14 _ _ hL
  have hO' := s14 _ _ hO
  have p14 := p12.same s14
  clear rA rB hL hO p12 g14 ge2 z12
  refine ⟨one, D, ls, rfl, rA', SqL.of hL', lnm, by omega, fun H15 s15 => ?_⟩
  walk_at "rd"
  refine ⟨two, D2, ot, rfl, rB'.same s15, SqL.of (s15 _ _ hO'), onm, by omega, fun H16 s16 => ?_⟩
  have t16 := s15.trans s16
  walk_at "rd"
  obtain ⟨dx16, fs16, ea16⟩ := rowOf (rA'.same t16)
  obtain ⟨dy16, gs16, eb16⟩ := rowOf (rB'.same t16)
  refine ⟨one, dx16, fs16, two, dy16, gs16, rfl, rfl, ea16, eb16, one, two, ls, ot, rfl, rA'.same t16, rB'.same t16, lnm, onm, by omega, by omega, fun c H17 hc s17 => ?_⟩
  have t17 := t16.trans s17
  refine addL (t17 _ _ hL') (t17 _ _ hO') (by rw [List.length_map, List.length_map]; omega) fun e5 he5 => ?_
  rw [← List.map_append]
  have lonm : ∀ s ∈ ls ++ ot, isNm s := fun s h => (List.mem_append.mp h).elim (lnm s) (onm s)
  refine ⟨c, e5, ls ++ ot, rfl, hc.same (Same.new he5), SqL.of upd_same, lonm, by rw [List.length_append]; omega, fun H18 s18 => ?_⟩
  have t18 := t17.trans (Same.trans (Same.new he5) s18)
  walk_at "rd"
  obtain ⟨dx18, fs18, ea18⟩ := rowOf (rA'.same t18)
  refine ⟨one, dx18, fs18, rfl, ea18, one, ls, rfl, rA'.same t18, lnm, fun c2 H19 hc2 s19 => ?_⟩
  have t19 := t18.trans s19
  refine ⟨D, _, rfl, .inl ⟨SqL.of (t19 _ _ hL'), fun e6 he6 => ?_⟩⟩
  rw [← List.map_reverse]
  refine ⟨c2, e6, ls.reverse, rfl, hc2.same (Same.new he6), SqL.of upd_same, fun s h => lnm s (List.mem_reverse.mp h), by rw [List.length_reverse]; omega, fun H20 s20 => ?_⟩
  have t20 := t19.trans (Same.trans (Same.new he6) s20)
  walk_at "rd"
  obtain ⟨dx20, fs20, ea20⟩ := rowOf (rA'.same t20)
  obtain ⟨dy20, gs20, eb20⟩ := rowOf (rB'.same t20)
  refine ⟨two, dy20, gs20, one, dx20, fs20, rfl, rfl, eb20, ea20, two, one, ot, ls, rfl, rB'.same t20, rA'.same t20, onm, lnm, by omega, by omega, fun c3 H21 hc3 s21 => ?_⟩
  have t21 := t20.trans s21
  obtain ⟨dx21, fs21, ea21⟩ := rowOf hc3
  have olnm : ∀ s ∈ ot ++ ls, isNm s := fun s h => (List.mem_append.mp h).elim (onm s) (lnm s)
  refine ⟨c3, dx21, fs21, rfl, ea21, c3, ot ++ ls, rfl, hc3, olnm, fun c4 H22 hc4 s22 => ?_⟩
  have t22 := t21.trans s22
  refine ⟨D, _, rfl, .inl ⟨SqL.of (t22 _ _ hL'), fun e7 he7 => ?_⟩⟩
  have t23 := Same.new2 (o := .lst (ls.map V.str).reverse) t22 he7
  refine ⟨D2, _, rfl, .inl ⟨SqL.of (t23 _ _ hO'), fun e8 he8 => ?_⟩⟩
  have t24 := Same.new2 (o := .lst (ot.map V.str).reverse) t23 he8
  refine addL (at_new he8 upd_same) upd_same (by rw [List.length_reverse, List.length_reverse, List.length_map, List.length_map]; omega) fun e9 he9 => ?_
  have t24b := Same.new2 (o := .lst ((ls.map V.str).reverse ++ (ot.map V.str).reverse)) t24 he9
  have c4b := hc4.same (Same.new2 (Same.new2 (Same.new (o := .lst (ls.map V.str).reverse) he7) (o := .lst (ot.map V.str).reverse) he8) (o := .lst ((ls.map V.str).reverse ++ (ot.map V.str).reverse)) he9)
  have ge9 : upd (upd (upd H22 e7 (.lst (ls.map V.str).reverse)) e8 (.lst (ot.map V.str).reverse)) e9 (.lst ((ls.map V.str).reverse ++ (ot.map V.str).reverse)) e9 = some (.lst (((ot ++ ls).reverse).map V.str)) := by
    rw [upd_same, List.reverse_append, List.map_append, List.map_reverse, List.map_reverse]
  revert t24b c4b ge9
  generalize upd (upd (upd H22 e7 (.lst (ls.map V.str).reverse)) e8 (.lst (ot.map V.str).reverse)) e9 (.lst ((ls.map V.str).reverse ++ (ot.map V.str).reverse)) = H24
  intro t24b c4b ge9
  refine ⟨c4, e9, (ot ++ ls).reverse, rfl, c4b, SqL.of ge9, fun s h => olnm s (List.mem_reverse.mp h), by rw [List.length_reverse, List.length_append]; omega, fun H25 s25 => ?_⟩
  have t25 : Same H14 H25 := t24b.trans s25
  walk_at "rd"
  have p25 := p14.same t25
  have tail : ∀ (k : Nat) (H' : Hp), k ≤ 1000 → k * ls.length ≤ 1000 → RowAt K H' one ls → RowAt K H' two ot → H' D = some (.lst (ls.map V.str)) → H' D2 = some (.lst (ot.map V.str)) →
      (tSeq (tIfS (tOr (tNot (tB (tCW (sp_l_counted K) [] (WD E) (tCons (tVar 5) (tCons (tVar 3) (tCons (tVar 9) (tNil))))))) (tNot (tB (tCW (sp_l_counted K) [] (WD E) (tCons (tVar 6) (tCons (tVar 4) (tCons (tC (.int 0)) (tNil)))))))) (tRet (tC (.bl false))) (tNext))
    (tSeq (tIfS (tOr (tTest (tOp (oNe K) (tOp (rCmpO K (He.ga K "Row") (sp_Row_eq K)) (tVar 5) (tVar 6)) (tOp (oEq K) (tVar 3) (tVar 4)))) (tNot (tTest (tOp (rCmpO K (He.ga K "Row") (sp_Row_eq K)) (tVar 5) (tNW (He.ga K "Row") (sp_Row_init K) [] (WD E) (tCons (tVar 3) (tNil))))))) (tRet (tC (.bl false))) (tNext))
    (tSeq (tIfS (tOr (tTest (tOp (rCmpO K (He.ga K "Row") (sp_Row_eq K)) (tVar 5) (tCB (rTupOf K) (tCons (tVar 3) (tNil))))) (tOr (tTest (tOp (rCmpO K (He.ga K "Row") (sp_Row_eq K)) (tVar 5) (tVar 3))) (tTest (tOp (rCmpO K (He.ga K "Row") (sp_Row_eq K)) (tVar 5) (tC (.int 0)))))) (tRet (tC (.bl false))) (tNext))
    (tRet (tAndV (tCW (sp_l_right K) [] (WD E) (tCons (tVar 5) (tCons (tVar 3) (tNil)))) (tAndV (tCW (sp_l_right K) [] (WD E) (tCons (tVar 6) (tCons (tVar 4) (tNil)))) (tOp (oEq K) (tOp (rCmpO K (He.ga K "Row") (sp_Row_eq K)) (tOpO1 (He.ga K "Row") (sp_Row_neg K) (WD E) (tVar 5)) (tVar 5)) (tOp (oEq K) (tVar 3) (tRevA K (tVar 3)))))))))) { nx := fun _ H' => Q .non H', rt := Q } [some (V.ref a), some (V.ref p2), some (V.ref st), some (V.ref D), some (V.ref D2), some (V.ref one), some (V.ref two), some (V.str nw), x8, some (.int k), none] H' := by
    intro k H' hk hkl rA rB hL hO
    walk_at "rd"
    refine ⟨one, D, k, ls, rfl, rA, hL, lnm, by omega, hk, hkl, fun H1 s1 => ?_⟩
    walk_at "rd"
    refine ⟨two, D2, 0, ot, rfl, rB.same s1, s1 _ _ hO, onm, by omega, by decide, by omega, fun H2 s2 => ?_⟩
    have u2 := s1.trans s2
    walk_at "rd"
    refine eqRow C (rA.same u2) (rB.same u2) lnm onm ?_
    refine eqD (.lst (SqL.of (u2 _ _ hL)) (DpAll.strs ls)) (.lst (SqL.of (u2 _ _ hO)) (DpAll.strs ot)) (shaped_strs lnm) (shaped_strs onm) ?_
    rw [show PyData.eqv (.list (ls.map PyData.str)) (.list (ot.map PyData.str)) = decide (ls = ot) from eqv_strs2 ls ot]
    refine neF rfl ?_
    rw [decide_eq_true rfl]
    walk_at "rd"
    refine row_ofL (SqL.of (u2 _ _ hL)) lnm fun c H3 hc s3 => ?_
    have u3 := u2.trans s3
    refine eqRow C (rA.same u3) hc lnm lnm ?_
    rw [decide_eq_true rfl]
    walk_at "rd"
    have hL3 := u3 _ _ hL
    have rA3 := rA.same u3
    refine ⟨D, _, rfl, .inl ⟨SqL.of hL3, .inl fun t1 ht1 => ?_⟩⟩
    have s4 : Same H3 (upd H3 t1 (.tup (ls.map V.str))) := Same.new ht1
    have h4 : upd H3 t1 (.tup (ls.map V.str)) t1 = some (.tup (ls.map V.str)) := upd_same
    revert s4 h4
    generalize upd H3 t1 (.tup (ls.map V.str)) = H4
    intro s4 h4
    have u4 := u3.trans s4
    refine eqOther (rA.same u4) lnm (.base (.tup h4)) N.nt N.kt ?_
    walk_at "rd"
    refine eqOther (rA.same u4) lnm (.base (.lst (u4 _ _ hL))) N.nl N.kl ?_
    walk_at "rd"
    refine eqOther (rA.same u4) lnm (.base (.int 0)) N.ni N.ki ?_
    walk_at "rd"
    refine ⟨one, D, ls, rfl, rA.same u4, SqL.of (u4 _ _ hL), lnm, by omega, fun H5 s5 => ?_⟩
    have u5 := u4.trans s5
    walk_at "rd"
    refine ⟨two, D2, ot, rfl, rB.same u5, SqL.of (u5 _ _ hO), onm, by omega, fun H6 s6 => ?_⟩
    have u6 := u5.trans s6
    walk_at "rd"
    obtain ⟨dx6, fs6, ea6⟩ := rowOf (rA.same u6)
    refine ⟨one, dx6, fs6, rfl, ea6, one, ls, rfl, rA.same u6, lnm, fun c7 H7 hc7 s7 => ?_⟩
    have u7 := u6.trans s7
    refine eqRow C hc7 (rA.same u7) (fun s h => lnm s (List.mem_reverse.mp h)) lnm ?_
    refine ⟨D, _, rfl, .inl ⟨SqL.of (u7 _ _ hL), fun e8 he8 => ?_⟩⟩
    rw [← List.map_reverse]
    refine eqD (.lst (SqL.of (at_new he8 (u7 _ _ hL))) (DpAll.strs ls)) (.lst (SqL.of upd_same) (DpAll.strs ls.reverse)) (shaped_strs lnm) (shaped_strs fun s h => lnm s (List.mem_reverse.mp h)) ?_
    rw [show PyData.eqv (.list (ls.map PyData.str)) (.list (ls.reverse.map PyData.str)) = decide (ls = ls.reverse) from eqv_strs2 ls ls.reverse]
    have ee : decide (ls.reverse = ls) = decide (ls = ls.reverse) := by
      by_cases h : ls = ls.reverse
      · rw [decide_eq_true h, decide_eq_true h.symm]
      · rw [decide_eq_false h, decide_eq_false (fun e => h e.symm)]
    rw [ee]
    refine eqF rfl ?_
    rw [decide_eq_true rfl]
    exact q _
  refine ⟨p2, 5, _, rfl, p25, by omega, by decide, by decide, fun mn H26 mn0 mn1 p26 a26 => ?_⟩
  obtain ⟨xs25, hxs25⟩ := p25.lst
  have b26 : But p2 H14 H26 := (But.of t25).trans a26.but
  have rA26 := (rA'.same t25).but hxs25 a26.but
  have rB26 := (rB'.same t25).but hxs25 a26.but
  have hL26 := b26 _ _ nD hL'
  have hO26 := b26 _ _ nD2 hO'
  walk_at "rd"
  refine lenL (SqL.of hL26) ?_
  rw [List.length_map]
  walk_at "rd"
  by_cases c : (ls.length : Int) < 2
  · rw [if_pos c]
    refine ⟨.inl ⟨by decide, by decide⟩, p2, 13, _, rfl, p26, by omega, by decide, by decide, fun m3 H27 m30 m31 p27 a27 => ?_⟩
    obtain ⟨xs26, hxs26⟩ := p26.lst
    have e : 7 * mn + m3 = ((7 * mn + m3).toNat : Int) := by omega
    have hk : (7 * mn + m3).toNat ≤ 40 := by omega
    have hl1 : ls.length ≤ 1 := by omega
    have hm1 : (7 * mn + m3).toNat * ls.length ≤ 40 * 1 := Nat.mul_le_mul hk hl1
    have kk := tail (7 * mn + m3).toNat H27 (by omega) (by omega) (rA26.but hxs26 a27.but) (rB26.but hxs26 a27.but) (a27.but _ _ nD hL26) (a27.but _ _ nD2 hO26)
    rw [← e] at kk
    revert kk
    walk_at "rd" <;> exact id
  · rw [if_neg c]
    have e : mn = (mn.toNat : Int) := by omega
    have hk : mn.toNat ≤ 4 := by omega
    have hl1 : ls.length ≤ 10 := by omega
    have hm1 : mn.toNat * ls.length ≤ 4 * 10 := Nat.mul_le_mul hk hl1
    have kk := tail mn.toNat H26 (by omega) (by omega) rA26 rB26 hL26 hO26
    rw [← e] at kk
    revert kk
    walk_at "rd" <;> exact id
end
/-! ## derivations -/
def top (i : Nat) : Stmt := PySem.Challenge.pw_lookrows_k28_rows_as_sequences.main.body.getD i (.Pass ⟨0, 0, 0, 0⟩)
structure Txt (K : PySem.W.Frag) (mg : Str → Option Value) : Prop where
  g_l_cell : mg "_law_cell" = some (.ref (He.ga K "_law_cell"))
  g_l_pool : mg "_law_pool" = some (.ref (He.ga K "_law_pool"))
  g_l_take : mg "_law_take" = some (.ref (He.ga K "_law_take"))
  g_l_names : mg "_law_names" = some (.ref (He.ga K "_law_names"))
  z_range : mg "range" = none
  z_len : mg "len" = none
  g_l_row : mg "_law_row" = some (.ref (He.ga K "_law_row"))
  g_l_stranger : mg "_law_stranger" = some (.ref (He.ga K "_law_stranger"))
  m_Row_contains : Meth K (He.ga K "Row") "__contains__" (He.ma K (He.ga K "Row") "__contains__") ∧ PySem.W.fnIn K (He.ma K (He.ga K "Row") "__contains__") = true
  c_Row : ClsI K (He.ga K "Row")
  m_Row_add : Meth K (He.ga K "Row") "__add__" (He.ma K (He.ga K "Row") "__add__") ∧ PySem.W.fnIn K (He.ma K (He.ga K "Row") "__add__") = true
  g_l_right : mg "_law_right" = some (.ref (He.ga K "_law_right"))
  m_Row_neg : Meth K (He.ga K "Row") "__neg__" (He.ma K (He.ga K "Row") "__neg__") ∧ PySem.W.fnIn K (He.ma K (He.ga K "Row") "__neg__") = true
  g_l_counted : mg "_law_counted" = some (.ref (He.ga K "_law_counted"))
  nf_Row_tuple : PySem.W.notFirst K (He.ga K "Row") (.type "tuple") = true
  kt_tuple_Row : PySem.W.kitOne K (.type "tuple") (.ref (He.ga K "Row")) = some false
  nf_Row_list : PySem.W.notFirst K (He.ga K "Row") (.type "list") = true
  kt_list_Row : PySem.W.kitOne K (.type "list") (.ref (He.ga K "Row")) = some false
  nf_Row_int : PySem.W.notFirst K (He.ga K "Row") (.type "int") = true
  kt_int_Row : PySem.W.kitOne K (.type "int") (.ref (He.ga K "Row")) = some false
  m_Row_eq : Meth K (He.ga K "Row") "__eq__" (He.ma K (He.ga K "Row") "__eq__") ∧ PySem.W.fnIn K (He.ma K (He.ga K "Row") "__eq__") = true
  k_Row : Mk K (He.ga K "Row") (He.ma K (He.ga K "Row") "__init__")
  g_Row : mg "Row" = some (.ref (He.ga K "Row"))
  z_tuple : mg "tuple" = none
  z_int : mg "int" = none
  z_list : mg "list" = none
  g_is_name : mg "is_name" = some (.ref (He.ga K "is_name"))
  x_BadName : XC K (He.ga K "BadName") (He.ma K (He.ga K "BadName") "__init__")
  g_BadName : mg "BadName" = some (.ref (He.ga K "BadName"))
  n_Row_looks : NoAttr K (He.ga K "Row") "looks"
  z_isinstance : mg "isinstance" = none
  z_str : mg "str" = none
  i_LONGEST : ∃ t, mg "LONGEST" = some (.int 8 t)
  s_LETTERS : ∃ t, mg "LETTERS" = some (.str "abcdefghijklmnopqrstuvwxyz" t)
  s_SIGNS : ∃ t, mg "SIGNS" = some (.str "abcdefghijklmnopqrstuvwxyz0123456789" t)
  p_Row_files : PropOf K (He.ga K "Row") "files" (He.ma K (He.ga K "Row") "files") (pAd K "Row" "files")
  g_l_distinct : mg "_law_distinct" = some (.ref (He.ga K "_law_distinct"))
  m_Row_len : Meth K (He.ga K "Row") "__len__" (He.ma K (He.ga K "Row") "__len__") ∧ PySem.W.fnIn K (He.ma K (He.ga K "Row") "__len__") = true
  m_Row_getitem : Meth K (He.ga K "Row") "__getitem__" (He.ma K (He.ga K "Row") "__getitem__") ∧ PySem.W.fnIn K (He.ma K (He.ga K "Row") "__getitem__") = true
  z_enumerate : mg "enumerate" = none
  g_is_count : mg "is_count" = some (.ref (He.ga K "is_count"))
  x_BadNumber : XC K (He.ga K "BadNumber") (He.ma K (He.ga K "BadNumber") "__init__")
  g_BadNumber : mg "BadNumber" = some (.ref (He.ga K "BadNumber"))
  g_is_whole : mg "is_whole" = some (.ref (He.ga K "is_whole"))
  z_bool : mg "bool" = none
  bt_Row_mul_int : BinT K (He.ga K "Row") "mul" "int"
  bt_Row_mul_bool : BinT K (He.ga K "Row") "mul" "bool"
  bt_Row_mul_str : BinT K (He.ga K "Row") "mul" "str"
  bt_Row_mul_NoneType : BinT K (He.ga K "Row") "mul" "NoneType"
  bt_Row_mul_tuple : BinT K (He.ga K "Row") "mul" "tuple"
  m_Row_mul : Meth K (He.ga K "Row") "__mul__" (He.ma K (He.ga K "Row") "__mul__") ∧ PySem.W.fnIn K (He.ma K (He.ga K "Row") "__mul__") = true
  m_Row_rmul : Meth K (He.ga K "Row") "__rmul__" (He.ma K (He.ga K "Row") "__rmul__") ∧ PySem.W.fnIn K (He.ma K (He.ga K "Row") "__rmul__") = true
  g_repeated : mg "repeated" = some (.ref (He.ga K "repeated"))
  g_law : mg "law" = some (.ref (He.ga K "law"))
  nx_BadName_name : PySem.W.findIn K (.ref (He.ga K "BadName")) "name" = some none
  nx_BadNumber_value : PySem.W.findIn K (.ref (He.ga K "BadNumber")) "value" = some none
section
variable {P : Program} {w : World} {K : PySem.W.Frag} {mg : Str → Option Value} {base : Heap}
abbrev s_l_pool : Stmt := top 23
theorem sc_l_pool : FnScope n_l_pool ["_law_cell_here"] (defScope s_l_pool) := ⟨rfl, rfl, rfl, by decide +kernel, rfl, by decide +kernel, by decide +kernel⟩
theorem ok_l_pool {sp : Sp} {fd : FuncData} (T : Txt K mg) (F : FunD K "_law_pool" "_law_pool" (defArgs s_l_pool) (defBody s_l_pool) (defScope s_l_pool) [] [] (He.ga K "_law_pool") fd) 
    (len : ∀ vs H Q E, sp vs H Q E → vs.length = 1) (pu : ∀ vs H Q E, sp vs H Q E → t_l_pool K  E { nx := fun _ H' => Q .non H', rt := Q } (start n_l_pool vs) H) : Df P w K mg base 1 (He.ga K "_law_pool") ["_law_cell_here"] sp [] := by
  refine df_of (t := fun E => t_l_pool K  E) F sc_l_pool len (fun _ _ _ _ _ _ us hl => match us, hl with | [_], _ => rfl) (fun cdv A outer s H E hr => ?_) pu
  exact (pss_cons (ps_set (i := 1) sc_l_pool.nd rfl (Or.inl rfl) (pe_op op_mulA pe_int (pv 0)))
    (pss_cons (ps_if (pt_cmpR op_lt (pv 0) pe_int (nomark _)) (pss_one (ps_set (i := 1) sc_l_pool.nd rfl (Or.inl rfl) (pe_op op_sub (pe_op op_sub pe_int (pe_op op_mulA pe_int (pv 0))) pe_int))) pss_nil)
    (pss_cons (ps_if (pt_cmpR op_ge (pv 1) (pe_op op_pow pe_int pe_int) (nomark _)) (pss_one (ps_ret (pe_lst (pa_cons (pv 1) (pa_cons (pe_op op_mod (pe_callTy c_int rfl T.z_int boot_int (pa_cons (pv 1) pa_nil)) pe_int) (pa_cons pe_int pa_nil)))))) pss_nil)
    (pss_one (ps_ret (pe_lst (pa_cons pe_int (pa_cons (pe_op op_mod (pe_callTy c_int rfl T.z_int boot_int (pa_cons (pv 1) pa_nil)) pe_int) (pa_cons pe_int pa_nil)))))))))
abbrev s_l_cell : Stmt := top 22
theorem sc_l_cell : FnScope n_l_cell ["_law_script", "_law_k"] (defScope s_l_cell) := ⟨rfl, rfl, rfl, by decide +kernel, rfl, by decide +kernel, by decide +kernel⟩
theorem ok_l_cell {sp : Sp} {fd : FuncData} (T : Txt K mg) (F : FunD K "_law_cell" "_law_cell" (defArgs s_l_cell) (defBody s_l_cell) (defScope s_l_cell) [] [] (He.ga K "_law_cell") fd) 
    (len : ∀ vs H Q E, sp vs H Q E → vs.length = 2) (pu : ∀ vs H Q E, sp vs H Q E → t_l_cell K  E { nx := fun _ H' => Q .non H', rt := Q } (start n_l_cell vs) H) : Df P w K mg base 1 (He.ga K "_law_cell") ["_law_script", "_law_k"] sp [] := by
  refine df_of (t := fun E => t_l_cell K  E) F sc_l_cell len (fun _ _ _ _ _ _ us hl => match us, hl with | [_, _], _ => rfl) (fun cdv A outer s H E hr => ?_) pu
  exact (pss_cons (ps_if (pt_cmpR op_lt (pv 1) (pe_callB call_lenU rfl T.z_len boot_len (pa_cons (pv 0) pa_nil)) (nomark _)) (pss_one (ps_ret (pe_ix (ix_U (hu1 hr)) (pv 0) (pv 1) (fun _ _ => rfl)))) pss_nil)
    (pss_one (ps_ret pe_int)))
abbrev s_l_take : Stmt := top 24
theorem sc_l_take : FnScope n_l_take ["_law_pool_here", "_law_many"] (defScope s_l_take) := ⟨rfl, rfl, rfl, by decide +kernel, rfl, by decide +kernel, by decide +kernel⟩
theorem ok_l_take {sp : Sp} {fd : FuncData} (T : Txt K mg) (F : FunD K "_law_take" "_law_take" (defArgs s_l_take) (defBody s_l_take) (defScope s_l_take) [] [] (He.ga K "_law_take") fd) 
    (len : ∀ vs H Q E, sp vs H Q E → vs.length = 2) (pu : ∀ vs H Q E, sp vs H Q E → t_l_take K  E { nx := fun _ H' => Q .non H', rt := Q } (start n_l_take vs) H) : Df P w K mg base 1 (He.ga K "_law_take") ["_law_pool_here", "_law_many"] sp [] := by
  refine df_of (t := fun E => t_l_take K  E) F sc_l_take len (fun _ _ _ _ _ _ us hl => match us, hl with | [_, _], _ => rfl) (fun cdv A outer s H E hr => ?_) pu
  exact (pss_cons (ps_if (pt_cmpR op_gt (pe_ix (ix_U (hu1 hr)) (pv 0) pe_int (fun _ _ => rfl)) pe_int (nomark _)) (pss_cons (ps_set (i := 2) sc_l_take.nd rfl (Or.inl rfl) (pe_op op_mod (pe_callTy c_int rfl T.z_int boot_int (pa_cons (pe_ix (ix_U (hu1 hr)) (pv 0) pe_int (fun _ _ => rfl)) pa_nil)) (pv 1)))
    (pss_cons (ps_asg (pe_op op_fdiv (pe_ix (ix_U (hu1 hr)) (pv 0) pe_int (fun _ _ => rfl)) (pv 1)) (pg_sub (pv 0) pe_int (set_U (hu1 hr))))
    (pss_one (ps_ret (pv 2))))) pss_nil)
    (pss_cons (ps_asg (pe_op op_addU (pe_ix (ix_U (hu1 hr)) (pv 0) pe_int (fun _ _ => rfl)) pe_int) (pg_sub (pv 0) pe_int (set_U (hu1 hr))))
    (pss_cons (ps_set (i := 3) sc_l_take.nd rfl (Or.inl rfl) (pe_op op_mod (pe_callTy c_int rfl T.z_int boot_int (pa_cons (pe_op op_pow (pe_op op_addU (pe_op op_addU (pe_ix (ix_U (hu1 hr)) (pv 0) pe_int (fun _ _ => rfl)) (pe_op op_mulA pe_int (pe_ix (ix_U (hu1 hr)) (pv 0) pe_int (fun _ _ => rfl)))) pe_int) pe_int) pa_nil)) pe_int))
    (pss_one (ps_ret (pe_op op_mod (pe_op op_mod (pe_callTy c_int rfl T.z_int boot_int (pa_cons (pe_op op_mulA (pe_op op_addU (pv 3) (pe_ix (ix_U (hu1 hr)) (pv 0) pe_int (fun _ _ => rfl))) pe_int) pa_nil)) pe_int) (pv 1)))))))
abbrev s_l_names : Stmt := top 25
theorem sc_l_names : FnScope n_l_names ["_law_pool_here", "_law_many"] (defScope s_l_names) := ⟨rfl, rfl, rfl, by decide +kernel, rfl, by decide +kernel, by decide +kernel⟩
theorem ok_l_names {sp_l_take sp : Sp} {fd : FuncData} (T : Txt K mg) (F : FunD K "_law_names" "_law_names" (defArgs s_l_names) (defBody s_l_names) (defScope s_l_names) [] [] (He.ga K "_law_names") fd) (D_l_take : Df P w K mg base 1 (He.ga K "_law_take") ["_law_pool_here", "_law_many"] sp_l_take [])
    (len : ∀ vs H Q E, sp vs H Q E → vs.length = 2) (pu : ∀ vs H Q E, sp vs H Q E → t_l_names K sp_l_take E { nx := fun _ H' => Q .non H', rt := Q } (start n_l_names vs) H) : Df P w K mg base 2 (He.ga K "_law_names") ["_law_pool_here", "_law_many"] sp [] := by
  refine df_of (t := fun E => t_l_names K sp_l_take E) F sc_l_names len (fun _ _ _ _ _ _ us hl => match us, hl with | [_, _], _ => rfl) (fun cdv A outer s H E hr => ?_) pu
  exact (pss_cons (ps_set (i := 2) sc_l_names.nd rfl (Or.inl rfl) pe_str)
    (pss_cons (ps_set (i := 3) sc_l_names.nd rfl (Or.inl rfl) (pe_op op_addU (pv 2) pe_str))
    (pss_cons (ps_set (i := 4) sc_l_names.nd rfl (Or.inr rfl) (pe_ix (ix_U (hu1 hr)) (pv 2) (pe_c D_l_take hr (takes_of rfl rfl rfl rfl) T.g_l_take (pa_cons (pv 0) (pa_cons pe_int pa_nil))) (fun _ _ => rfl)))
    (pss_cons (ps_for (passes_of rfl) rfl (pi_range1 rfl T.z_range (pa_cons pe_int pa_nil)) (pg_name (i := 5) sc_l_names.nd rfl (by first | exact Or.inl rfl | exact Or.inr rfl)) (pss_one (ps_set (i := 4) sc_l_names.nd rfl (Or.inr rfl) (pe_op op_addU (pv 4) (pe_ix (ix_U (hu1 hr)) (pv 3) (pe_c D_l_take hr (takes_of rfl rfl rfl rfl) T.g_l_take (pa_cons (pv 0) (pa_cons pe_int pa_nil))) (fun _ _ => rfl))))))
    (pss_cons (ps_if (pt_cmpR (op_eqU (hu64 hr)) (pe_c D_l_take hr (takes_of rfl rfl rfl rfl) T.g_l_take (pa_cons (pv 0) (pa_cons pe_int pa_nil))) pe_int (nomark _)) (pss_one (ps_ret (pe_lc (own := [("_law_k", 5)]) (g := gName 5) (tt := tYes) rfl sc_l_names.nd (pi_range1 rfl T.z_range (pa_cons (pv 1) pa_nil)) (blkOk_by (own := [("_law_k", 5)]) (N := n_l_names) (sc := defScope s_l_names) (by decide +kernel)) (fun _ _ _ _ _ => (pg_name (i := 5) sc_l_names.nd rfl (by first | exact Or.inl rfl | exact Or.inr rfl))) (fun _ _ _ _ _ => pts_nil) (fun _ _ _ _ _ => (pe_slice sl_U (pv 4) po_none (po_some (pe_op op_addU (pv 5) pe_int))))))) pss_nil)
    (pss_cons (ps_set (i := 6) sc_l_names.nd rfl (Or.inl rfl) (pe_slice sl_U (pv 4) po_none (po_some (pe_c D_l_take hr (takes_of rfl rfl rfl rfl) T.g_l_take (pa_cons (pv 0) (pa_cons pe_int pa_nil))))))
    (pss_cons (ps_set (i := 7) sc_l_names.nd rfl (Or.inl rfl) (pe_c D_l_take hr (takes_of rfl rfl rfl rfl) T.g_l_take (pa_cons (pv 0) (pa_cons (pe_op op_addU (pe_callB call_lenU rfl T.z_len boot_len (pa_cons (pv 6) pa_nil)) pe_int) pa_nil))))
    (pss_cons (ps_set (i := 8) sc_l_names.nd rfl (Or.inl rfl) (pe_ifExp (pt_cmpR (op_eqU (hu64 hr)) (pv 7) pe_int (nomark _)) (pv 2) (pv 3)))
    (pss_cons (ps_set (i := 9) sc_l_names.nd rfl (Or.inl rfl) (pe_c D_l_take hr (takes_of rfl rfl rfl rfl) T.g_l_take (pa_cons (pv 0) (pa_cons pe_int pa_nil))))
    (pss_cons (ps_set (i := 10) sc_l_names.nd rfl (Or.inl rfl) (pe_lst pa_nil))
    (pss_cons (ps_for (passes_of rfl) rfl (pi_range1 rfl T.z_range (pa_cons (pv 1) pa_nil)) (pg_name (i := 5) sc_l_names.nd rfl (by first | exact Or.inl rfl | exact Or.inr rfl)) (pss_cons (ps_set (i := 11) sc_l_names.nd rfl (Or.inl rfl) (pe_ix (ix_U (hu1 hr)) (pv 8) (pe_op op_mod (pe_op op_addU (pv 9) (pe_op op_mulA pe_int (pv 5))) (pe_callB call_lenU rfl T.z_len boot_len (pa_cons (pv 8) pa_nil))) (fun _ _ => rfl)))
    (pss_one (ps_expr (pe_bm PySem.F.plainAttrs_list PySem.F.slot_list_append PySem.F.type_list_append mt_append (pv 10) (pa_cons (pe_op op_addU (pe_op op_addU (pe_slice sl_U (pv 6) po_none (po_some (pv 7))) (pv 11)) (pe_slice sl_U (pv 6) (po_some (pv 7)) po_none)) pa_nil))))))
    (pss_one (ps_ret (pv 10))))))))))))))
abbrev s_is_name : Stmt := top 10
theorem sc_is_name : FnScope n_is_name ["word"] (defScope s_is_name) := ⟨rfl, rfl, rfl, by decide +kernel, rfl, by decide +kernel, by decide +kernel⟩
theorem ok_is_name {sp : Sp} {fd : FuncData} (T : Txt K mg) (F : FunD K "is_name" "is_name" (defArgs s_is_name) (defBody s_is_name) (defScope s_is_name) [] [] (He.ga K "is_name") fd) 
    (len : ∀ vs H Q E, sp vs H Q E → vs.length = 1) (pu : ∀ vs H Q E, sp vs H Q E → t_is_name K  E { nx := fun _ H' => Q .non H', rt := Q } (start n_is_name vs) H) : Df P w K mg base 1 (He.ga K "is_name") ["word"] sp [] := by
  refine df_of (t := fun E => t_is_name K  E) F sc_is_name len (fun _ _ _ _ _ _ us hl => match us, hl with | [_], _ => rfl) (fun cdv A outer s H E hr => ?_) pu
  exact (pss_cons (ps_if (PW.pt (pw_or (pt_not (pt_val (pe_callB call_isi rfl T.z_isinstance boot_isinstance (pa_cons (pv 0) (pa_cons (pe_bltn (v := .ty "str") rfl T.z_str boot_str rfl) pa_nil))))) (pw_or (pt_cmpR op_lt (pe_callB call_lenU rfl T.z_len boot_len (pa_cons (pv 0) pa_nil)) pe_int (nomark _)) (pw_or1 (pt_cmpR op_gt (pe_callB call_lenU rfl T.z_len boot_len (pa_cons (pv 0) pa_nil)) (pe_gcU rfl (let ⟨t, h⟩ := T.i_LONGEST; ⟨_, h, ⟨t, rfl⟩⟩)) (nomark _)))))) (pss_one (ps_ret pe_bl)) pss_nil)
    (pss_cons (ps_if (pt_cmpR (op_notInU (hu65 hr)) (pe_ix (ix_U (hu1 hr)) (pv 0) pe_int (fun _ _ => rfl)) (pe_gcU rfl (let ⟨t, h⟩ := T.s_LETTERS; ⟨_, h, ⟨t, rfl⟩⟩)) rfl) (pss_one (ps_ret pe_bl)) pss_nil)
    (pss_cons (ps_for (passes_of rfl) rfl (pi_str (pv 0)) (pg_name (i := 1) sc_is_name.nd rfl (by first | exact Or.inl rfl | exact Or.inr rfl)) (pss_one (ps_if (pt_cmpR (op_notInU (hu65 hr)) (pv 1) (pe_gcU rfl (let ⟨t, h⟩ := T.s_SIGNS; ⟨_, h, ⟨t, rfl⟩⟩)) rfl) (pss_one (ps_ret pe_bl)) pss_nil)))
    (pss_one (ps_ret pe_bl)))))
abbrev s_BadName_init : Stmt := inClass (top 3) 0
theorem sc_BadName_init : FnScope n_BadName_init ["self", "name"] (defScope s_BadName_init) := ⟨rfl, rfl, rfl, by decide +kernel, rfl, by decide +kernel, by decide +kernel⟩
theorem ok_BadName_init {sp : Sp} {fd : FuncData} (T : Txt K mg) (F : FunD K "__init__" "BadName.__init__" (defArgs s_BadName_init) (defBody s_BadName_init) (defScope s_BadName_init) [] [] (He.ma K (He.ga K "BadName") "__init__") fd) 
    (len : ∀ vs H Q E, sp vs H Q E → vs.length = 2) (pu : ∀ vs H Q E, sp vs H Q E → t_BadName_init K  E { nx := fun _ H' => Q .non H', rt := Q } (start n_BadName_init vs) H) : Df P w K mg base 1 (He.ma K (He.ga K "BadName") "__init__") ["self", "name"] sp [] := by
  refine df_of (t := fun E => t_BadName_init K  E) F sc_BadName_init len (fun _ _ _ _ _ _ us hl => match us, hl with | [_, _], _ => rfl) (fun cdv A outer s H E hr => ?_) pu
  exact (pss_one (ps_ost (pv 0) (pv 1)))
abbrev s_Row_init : Stmt := inClass (top 14) 0
theorem sc_Row_init : FnScope n_Row_init ["self", "files"] (defScope s_Row_init) := ⟨rfl, rfl, rfl, by decide +kernel, rfl, by decide +kernel, by decide +kernel⟩
theorem ok_Row_init {sp_is_name sp : Sp} {fd : FuncData} (T : Txt K mg) (F : FunD K "__init__" "Row.__init__" (defArgs s_Row_init) (defBody s_Row_init) (defScope s_Row_init) [] [] (He.ma K (He.ga K "Row") "__init__") fd) (D_is_name : Df P w K mg base 1 (He.ga K "is_name") ["word"] sp_is_name []) (D_BadName_init : Df P w K mg base 1 (He.ma K (He.ga K "BadName") "__init__") ["self", "name"] (spX1 (He.ga K "BadName") "name") [])
    (len : ∀ vs H Q E, sp vs H Q E → vs.length = 2) (pu : ∀ vs H Q E, sp vs H Q E → t_Row_init K sp_is_name E { nx := fun _ H' => Q .non H', rt := Q } (start n_Row_init vs) H) : Df P w K mg base 3 (He.ma K (He.ga K "Row") "__init__") ["self", "files"] sp [] := by
  refine df_of (t := fun E => t_Row_init K sp_is_name E) F sc_Row_init len (fun _ _ _ _ _ _ us hl => match us, hl with | [_, _], _ => rfl) (fun cdv A outer s H E hr => ?_) pu
  exact (pss_cons (ps_for (passes_of rfl) rfl (pi_seq (pv 1)) (pg_name (i := 2) sc_Row_init.nd rfl (by first | exact Or.inl rfl | exact Or.inr rfl)) (pss_one (ps_if (pt_not (pt_val (pe_c D_is_name hr (takes_of rfl rfl rfl rfl) T.g_is_name (pa_cons (pv 2) pa_nil)))) (pss_one (ps_raise1 rfl T.x_BadName.x D_BadName_init hr (takes_of rfl rfl rfl rfl) T.g_BadName (pv 2))) pss_nil)))
    (pss_one (ps_fld (pv 0) (pe_callTy c_tuple rfl T.z_tuple boot_tuple (pa_cons (pv 1) pa_nil)) rfl)))
abbrev s_l_row : Stmt := top 29
theorem sc_l_row : FnScope n_l_row ["_law_pool_here", "_law_looks"] (defScope s_l_row) := ⟨rfl, rfl, rfl, by decide +kernel, rfl, by decide +kernel, by decide +kernel⟩
theorem ok_l_row {sp_Row_init sp_l_take sp : Sp} {fd : FuncData} (T : Txt K mg) (F : FunD K "_law_row" "_law_row" (defArgs s_l_row) (defBody s_l_row) (defScope s_l_row) [] [] (He.ga K "_law_row") fd) (D_Row_init : Df P w K mg base 3 (He.ma K (He.ga K "Row") "__init__") ["self", "files"] sp_Row_init []) (D_l_take : Df P w K mg base 1 (He.ga K "_law_take") ["_law_pool_here", "_law_many"] sp_l_take [])
    (len : ∀ vs H Q E, sp vs H Q E → vs.length = 2) (pu : ∀ vs H Q E, sp vs H Q E → t_l_row K sp_Row_init sp_l_take E { nx := fun _ H' => Q .non H', rt := Q } (start n_l_row vs) H) : Df P w K mg base 5 (He.ga K "_law_row") ["_law_pool_here", "_law_looks"] sp [] := by
  refine df_of (t := fun E => t_l_row K sp_Row_init sp_l_take E) F sc_l_row len (fun _ _ _ _ _ _ us hl => match us, hl with | [_, _], _ => rfl) (fun cdv A outer s H E hr => ?_) pu
  exact (pss_cons (ps_set (i := 2) sc_l_row.nd rfl (Or.inl rfl) (pe_callTy c_list rfl T.z_list boot_list (pa_cons (pv 1) pa_nil)))
    (pss_cons (ps_set (i := 3) sc_l_row.nd rfl (Or.inl rfl) (pe_n T.k_Row D_Row_init hr (takes_of rfl rfl rfl rfl) T.g_Row (pa_cons (pv 2) pa_nil)))
    (pss_cons (ps_if (pt_cmpR (op_eqU (hu64 hr)) (pe_c D_l_take hr (takes_of rfl rfl rfl rfl) T.g_l_take (pa_cons (pv 0) (pa_cons pe_int pa_nil))) pe_int (nomark _)) (pss_one (ps_set (i := 3) sc_l_row.nd rfl (Or.inl rfl) (pe_n T.k_Row D_Row_init hr (takes_of rfl rfl rfl rfl) T.g_Row (pa_cons (pe_callTy c_tuple rfl T.z_tuple boot_tuple (pa_cons (pv 1) pa_nil)) pa_nil)))) pss_nil)
    (pss_cons (ps_expr (pe_bm PySem.F.plainAttrs_list PySem.F.slot_list_append PySem.F.type_list_append mt_append (pv 2) (pa_cons pe_str pa_nil)))
    (pss_one (ps_ret (pv 3)))))))
abbrev s_l_stranger : Stmt := top 26
theorem sc_l_stranger : FnScope n_l_stranger ["_law_pool_here", "_law_names_here"] (defScope s_l_stranger) := ⟨rfl, rfl, rfl, by decide +kernel, rfl, by decide +kernel, by decide +kernel⟩
theorem ok_l_stranger {sp_l_take sp : Sp} {fd : FuncData} (T : Txt K mg) (F : FunD K "_law_stranger" "_law_stranger" (defArgs s_l_stranger) (defBody s_l_stranger) (defScope s_l_stranger) [] [] (He.ga K "_law_stranger") fd) (D_l_take : Df P w K mg base 1 (He.ga K "_law_take") ["_law_pool_here", "_law_many"] sp_l_take [])
    (len : ∀ vs H Q E, sp vs H Q E → vs.length = 2) (pu : ∀ vs H Q E, sp vs H Q E → t_l_stranger K sp_l_take E { nx := fun _ H' => Q .non H', rt := Q } (start n_l_stranger vs) H) : Df P w K mg base 2 (He.ga K "_law_stranger") ["_law_pool_here", "_law_names_here"] sp [] := by
  refine df_of (t := fun E => t_l_stranger K sp_l_take E) F sc_l_stranger len (fun _ _ _ _ _ _ us hl => match us, hl with | [_, _], _ => rfl) (fun cdv A outer s H E hr => ?_) pu
  exact (pss_cons (ps_set (i := 2) sc_l_stranger.nd rfl (Or.inl rfl) pe_str)
    (pss_cons (ps_if (pt_cmpR (op_neU (hu64 hr)) (pv 1) (pe_lst pa_nil) (nomark _)) (pss_one (ps_set (i := 2) sc_l_stranger.nd rfl (Or.inl rfl) (pe_ix (ix_U (hu1 hr)) (pv 1) (pe_c D_l_take hr (takes_of rfl rfl rfl rfl) T.g_l_take (pa_cons (pv 0) (pa_cons (pe_callB call_lenU rfl T.z_len boot_len (pa_cons (pv 1) pa_nil)) pa_nil))) (fun _ _ => rfl)))) pss_nil)
    (pss_cons (ps_set (i := 3) sc_l_stranger.nd rfl (Or.inl rfl) pe_str)
    (pss_cons (ps_set (i := 4) sc_l_stranger.nd rfl (Or.inl rfl) (pe_c D_l_take hr (takes_of rfl rfl rfl rfl) T.g_l_take (pa_cons (pv 0) (pa_cons pe_int pa_nil))))
    (pss_cons (ps_for (passes_of rfl) rfl (pi_range1 rfl T.z_range (pa_cons pe_int pa_nil)) (pg_name (i := 5) sc_l_stranger.nd rfl (by first | exact Or.inl rfl | exact Or.inr rfl)) (pss_cons (ps_set (i := 6) sc_l_stranger.nd rfl (Or.inl rfl) (pe_op op_addU (pe_ix (ix_U (hu1 hr)) (pv 3) (pe_op op_mod (pe_op op_addU (pv 4) (pv 5)) pe_int) (fun _ _ => rfl)) (pe_slice sl_U (pv 2) (po_some pe_int) po_none)))
    (pss_one (ps_if (pt_cmpR (op_notInU (hu65 hr)) (pv 6) (pv 1) rfl) (pss_one (ps_ret (pv 6))) pss_nil))))
    (pss_one (ps_ret pe_str)))))))
abbrev s_Row_contains : Stmt := inClass (top 14) 6
theorem sc_Row_contains : FnScope n_Row_contains ["self", "file"] (defScope s_Row_contains) := ⟨rfl, rfl, rfl, by decide +kernel, rfl, by decide +kernel, by decide +kernel⟩
theorem ok_Row_contains {sp : Sp} {fd : FuncData} (T : Txt K mg) (F : FunD K "__contains__" "Row.__contains__" (defArgs s_Row_contains) (defBody s_Row_contains) (defScope s_Row_contains) [] [] (He.ma K (He.ga K "Row") "__contains__") fd) 
    (len : ∀ vs H Q E, sp vs H Q E → vs.length = 2) (pu : ∀ vs H Q E, sp vs H Q E → t_Row_contains K  E { nx := fun _ H' => Q .non H', rt := Q } (start n_Row_contains vs) H) : Df P w K mg base 1 (He.ma K (He.ga K "Row") "__contains__") ["self", "file"] sp [] := by
  refine df_of (t := fun E => t_Row_contains K  E) F sc_Row_contains len (fun _ _ _ _ _ _ us hl => match us, hl with | [_, _], _ => rfl) (fun cdv A outer s H E hr => ?_) pu
  exact (pss_one (ps_ret (pe_cmpR (op_inU (hu65 hr)) (pv 1) (pe_fld (pv 0) rfl) rfl)))
abbrev s_Row_add : Stmt := inClass (top 14) 8
theorem sc_Row_add : FnScope n_Row_add ["self", "other"] (defScope s_Row_add) := ⟨rfl, rfl, rfl, by decide +kernel, rfl, by decide +kernel, by decide +kernel⟩
theorem ok_Row_add {sp_Row_init sp : Sp} {fd : FuncData} (T : Txt K mg) (F : FunD K "__add__" "Row.__add__" (defArgs s_Row_add) (defBody s_Row_add) (defScope s_Row_add) [] [] (He.ma K (He.ga K "Row") "__add__") fd) (D_Row_init : Df P w K mg base 3 (He.ma K (He.ga K "Row") "__init__") ["self", "files"] sp_Row_init [])
    (len : ∀ vs H Q E, sp vs H Q E → vs.length = 2) (pu : ∀ vs H Q E, sp vs H Q E → t_Row_add K sp_Row_init E { nx := fun _ H' => Q .non H', rt := Q } (start n_Row_add vs) H) : Df P w K mg base 5 (He.ma K (He.ga K "Row") "__add__") ["self", "other"] sp [] := by
  refine df_of (t := fun E => t_Row_add K sp_Row_init E) F sc_Row_add len (fun _ _ _ _ _ _ us hl => match us, hl with | [_, _], _ => rfl) (fun cdv A outer s H E hr => ?_) pu
  exact (pss_cons (ps_if (pt_not (pt_val (pe_callB call_isi rfl T.z_isinstance boot_isinstance (pa_cons (pv 1) (pa_cons (pe_glob rfl T.g_Row rfl) pa_nil))))) (pss_one ps_never) pss_nil)
    (pss_one (ps_ret (pe_n T.k_Row D_Row_init hr (takes_of rfl rfl rfl rfl) T.g_Row (pa_cons (pe_op op_addU (pe_fld (pv 0) rfl) (pe_fld (pv 1) rfl)) pa_nil)))))
abbrev s_Row_files : Stmt := inClass (top 14) 1
theorem sc_Row_files : FnScope n_Row_files ["self"] (defScope s_Row_files) := ⟨rfl, rfl, rfl, by decide +kernel, rfl, by decide +kernel, by decide +kernel⟩
theorem ok_Row_files {sp : Sp} {fd : FuncData} (T : Txt K mg) (F : FunD K "files" "Row.files" (defArgs s_Row_files) (defBody s_Row_files) (defScope s_Row_files) [] [] (pAd K "Row" "files") fd) 
    (len : ∀ vs H Q E, sp vs H Q E → vs.length = 1) (pu : ∀ vs H Q E, sp vs H Q E → t_Row_files K  E { nx := fun _ H' => Q .non H', rt := Q } (start n_Row_files vs) H) : Df P w K mg base 1 (pAd K "Row" "files") ["self"] sp [] := by
  refine df_of (t := fun E => t_Row_files K  E) F sc_Row_files len (fun _ _ _ _ _ _ us hl => match us, hl with | [_], _ => rfl) (fun cdv A outer s H E hr => ?_) pu
  exact (pss_one (ps_ret (pe_callTy c_tuple rfl T.z_tuple boot_tuple (pa_cons (pe_lc (own := [("place", 1), ("file", 2)]) (g := gTup K 2 (gCons (gName 1) (gCons (gName 2) (gNil)))) (tt := (t_Row_files_i1 K  E)) rfl sc_Row_files.nd (pi_enumT rfl T.z_enumerate (pa_cons (pe_fld (pv 0) rfl) pa_nil)) (blkOk_by (own := [("place", 1), ("file", 2)]) (N := n_Row_files) (sc := defScope s_Row_files) (by decide +kernel)) (fun _ _ _ _ _ => (pg_tup rfl (pgs_cons (pg_name (i := 1) sc_Row_files.nd rfl (by first | exact Or.inl rfl | exact Or.inr rfl)) (pgs_cons (pg_name (i := 2) sc_Row_files.nd rfl (by first | exact Or.inl rfl | exact Or.inr rfl)) pgs_nil)))) (fun _ _ _ _ _ => (pts_one (pt_cmpR (op_notInU (hu65 hr)) (pv 2) (pe_slice sl_U (pe_fld (pv 0) rfl) po_none (po_some (pv 1))) rfl))) (fun _ _ _ _ _ => (pv 2))) pa_nil))))
abbrev s_l_distinct : Stmt := top 27
theorem sc_l_distinct : FnScope n_l_distinct ["_law_looks"] (defScope s_l_distinct) := ⟨rfl, rfl, rfl, by decide +kernel, rfl, by decide +kernel, by decide +kernel⟩
theorem ok_l_distinct {sp : Sp} {fd : FuncData} (T : Txt K mg) (F : FunD K "_law_distinct" "_law_distinct" (defArgs s_l_distinct) (defBody s_l_distinct) (defScope s_l_distinct) [] [] (He.ga K "_law_distinct") fd) 
    (len : ∀ vs H Q E, sp vs H Q E → vs.length = 1) (pu : ∀ vs H Q E, sp vs H Q E → t_l_distinct K  E { nx := fun _ H' => Q .non H', rt := Q } (start n_l_distinct vs) H) : Df P w K mg base 1 (He.ga K "_law_distinct") ["_law_looks"] sp [] := by
  refine df_of (t := fun E => t_l_distinct K  E) F sc_l_distinct len (fun _ _ _ _ _ _ us hl => match us, hl with | [_], _ => rfl) (fun cdv A outer s H E hr => ?_) pu
  exact (pss_one (ps_ret (pe_callTy c_tuple rfl T.z_tuple boot_tuple (pa_cons (pe_lc (own := [("_law_k", 1), ("_law_file", 2)]) (g := gTup K 2 (gCons (gName 1) (gCons (gName 2) (gNil)))) (tt := (t_l_distinct_i1 K  E)) rfl sc_l_distinct.nd (pi_enum rfl T.z_enumerate (pa_cons (pv 0) pa_nil)) (blkOk_by (own := [("_law_k", 1), ("_law_file", 2)]) (N := n_l_distinct) (sc := defScope s_l_distinct) (by decide +kernel)) (fun _ _ _ _ _ => (pg_tup rfl (pgs_cons (pg_name (i := 1) sc_l_distinct.nd rfl (by first | exact Or.inl rfl | exact Or.inr rfl)) (pgs_cons (pg_name (i := 2) sc_l_distinct.nd rfl (by first | exact Or.inl rfl | exact Or.inr rfl)) pgs_nil)))) (fun _ _ _ _ _ => (pts_one (pt_cmpR (op_notInU (hu65 hr)) (pv 2) (pe_slice sl_U (pv 0) po_none (po_some (pv 1))) rfl))) (fun _ _ _ _ _ => (pv 2))) pa_nil))))
abbrev s_Row_len : Stmt := inClass (top 14) 5
theorem sc_Row_len : FnScope n_Row_len ["self"] (defScope s_Row_len) := ⟨rfl, rfl, rfl, by decide +kernel, rfl, by decide +kernel, by decide +kernel⟩
theorem ok_Row_len {sp : Sp} {fd : FuncData} (T : Txt K mg) (F : FunD K "__len__" "Row.__len__" (defArgs s_Row_len) (defBody s_Row_len) (defScope s_Row_len) [] [] (He.ma K (He.ga K "Row") "__len__") fd) 
    (len : ∀ vs H Q E, sp vs H Q E → vs.length = 1) (pu : ∀ vs H Q E, sp vs H Q E → t_Row_len K  E { nx := fun _ H' => Q .non H', rt := Q } (start n_Row_len vs) H) : Df P w K mg base 1 (He.ma K (He.ga K "Row") "__len__") ["self"] sp [] := by
  refine df_of (t := fun E => t_Row_len K  E) F sc_Row_len len (fun _ _ _ _ _ _ us hl => match us, hl with | [_], _ => rfl) (fun cdv A outer s H E hr => ?_) pu
  exact (pss_one (ps_ret (pe_callB call_lenU rfl T.z_len boot_len (pa_cons (pe_fld (pv 0) rfl) pa_nil))))
abbrev s_is_whole : Stmt := top 11
theorem sc_is_whole : FnScope n_is_whole ["value"] (defScope s_is_whole) := ⟨rfl, rfl, rfl, by decide +kernel, rfl, by decide +kernel, by decide +kernel⟩
theorem ok_is_whole {sp : Sp} {fd : FuncData} (T : Txt K mg) (F : FunD K "is_whole" "is_whole" (defArgs s_is_whole) (defBody s_is_whole) (defScope s_is_whole) [] [] (He.ga K "is_whole") fd) 
    (len : ∀ vs H Q E, sp vs H Q E → vs.length = 1) (pu : ∀ vs H Q E, sp vs H Q E → t_is_whole K  E { nx := fun _ H' => Q .non H', rt := Q } (start n_is_whole vs) H) : Df P w K mg base 1 (He.ga K "is_whole") ["value"] sp [] := by
  refine df_of (t := fun E => t_is_whole K  E) F sc_is_whole len (fun _ _ _ _ _ _ us hl => match us, hl with | [_], _ => rfl) (fun cdv A outer s H E hr => ?_) pu
  exact (pss_one (ps_ret (pe_and (pe_callB call_isi rfl T.z_isinstance boot_isinstance (pa_cons (pv 0) (pa_cons (pe_bltn (v := .ty "int") rfl T.z_int boot_int rfl) pa_nil))) (pe_one (pe_not (pe_callB call_isi rfl T.z_isinstance boot_isinstance (pa_cons (pv 0) (pa_cons (pe_bltn (v := .ty "bool") rfl T.z_bool boot_bool rfl) pa_nil))))))))
abbrev s_is_count : Stmt := top 12
theorem sc_is_count : FnScope n_is_count ["value"] (defScope s_is_count) := ⟨rfl, rfl, rfl, by decide +kernel, rfl, by decide +kernel, by decide +kernel⟩
theorem ok_is_count {sp_is_whole sp : Sp} {fd : FuncData} (T : Txt K mg) (F : FunD K "is_count" "is_count" (defArgs s_is_count) (defBody s_is_count) (defScope s_is_count) [] [] (He.ga K "is_count") fd) (D_is_whole : Df P w K mg base 1 (He.ga K "is_whole") ["value"] sp_is_whole [])
    (len : ∀ vs H Q E, sp vs H Q E → vs.length = 1) (pu : ∀ vs H Q E, sp vs H Q E → t_is_count K sp_is_whole E { nx := fun _ H' => Q .non H', rt := Q } (start n_is_count vs) H) : Df P w K mg base 2 (He.ga K "is_count") ["value"] sp [] := by
  refine df_of (t := fun E => t_is_count K sp_is_whole E) F sc_is_count len (fun _ _ _ _ _ _ us hl => match us, hl with | [_], _ => rfl) (fun cdv A outer s H E hr => ?_) pu
  exact (pss_one (ps_ret (pe_and (pe_c D_is_whole hr (takes_of rfl rfl rfl rfl) T.g_is_whole (pa_cons (pv 0) pa_nil)) (pe_one (pe_cmpR op_ge (pv 0) pe_int (nomark _))))))
abbrev s_BadNumber_init : Stmt := inClass (top 5) 0
theorem sc_BadNumber_init : FnScope n_BadNumber_init ["self", "value"] (defScope s_BadNumber_init) := ⟨rfl, rfl, rfl, by decide +kernel, rfl, by decide +kernel, by decide +kernel⟩
theorem ok_BadNumber_init {sp : Sp} {fd : FuncData} (T : Txt K mg) (F : FunD K "__init__" "BadNumber.__init__" (defArgs s_BadNumber_init) (defBody s_BadNumber_init) (defScope s_BadNumber_init) [] [] (He.ma K (He.ga K "BadNumber") "__init__") fd) 
    (len : ∀ vs H Q E, sp vs H Q E → vs.length = 2) (pu : ∀ vs H Q E, sp vs H Q E → t_BadNumber_init K  E { nx := fun _ H' => Q .non H', rt := Q } (start n_BadNumber_init vs) H) : Df P w K mg base 1 (He.ma K (He.ga K "BadNumber") "__init__") ["self", "value"] sp [] := by
  refine df_of (t := fun E => t_BadNumber_init K  E) F sc_BadNumber_init len (fun _ _ _ _ _ _ us hl => match us, hl with | [_, _], _ => rfl) (fun cdv A outer s H E hr => ?_) pu
  exact (pss_one (ps_ost (pv 0) (pv 1)))
abbrev s_Row_getitem : Stmt := inClass (top 14) 7
theorem sc_Row_getitem : FnScope n_Row_getitem ["self", "place"] (defScope s_Row_getitem) := ⟨rfl, rfl, rfl, by decide +kernel, rfl, by decide +kernel, by decide +kernel⟩
theorem ok_Row_getitem {sp_is_count sp : Sp} {fd : FuncData} (T : Txt K mg) (F : FunD K "__getitem__" "Row.__getitem__" (defArgs s_Row_getitem) (defBody s_Row_getitem) (defScope s_Row_getitem) [] [] (He.ma K (He.ga K "Row") "__getitem__") fd) (D_is_count : Df P w K mg base 2 (He.ga K "is_count") ["value"] sp_is_count []) (D_BadNumber_init : Df P w K mg base 1 (He.ma K (He.ga K "BadNumber") "__init__") ["self", "value"] (spX1 (He.ga K "BadNumber") "value") [])
    (len : ∀ vs H Q E, sp vs H Q E → vs.length = 2) (pu : ∀ vs H Q E, sp vs H Q E → t_Row_getitem K sp_is_count E { nx := fun _ H' => Q .non H', rt := Q } (start n_Row_getitem vs) H) : Df P w K mg base 3 (He.ma K (He.ga K "Row") "__getitem__") ["self", "place"] sp [] := by
  refine df_of (t := fun E => t_Row_getitem K sp_is_count E) F sc_Row_getitem len (fun _ _ _ _ _ _ us hl => match us, hl with | [_, _], _ => rfl) (fun cdv A outer s H E hr => ?_) pu
  exact (pss_cons (ps_if (PW.pt (pw_or (pt_not (pt_val (pe_c D_is_count hr (takes_of rfl rfl rfl rfl) T.g_is_count (pa_cons (pv 1) pa_nil)))) (pw_or1 (pt_cmpR op_ge (pv 1) (pe_callB call_lenU rfl T.z_len boot_len (pa_cons (pe_fld (pv 0) rfl) pa_nil)) (nomark _))))) (pss_one (ps_raise1 rfl T.x_BadNumber.x D_BadNumber_init hr (takes_of rfl rfl rfl rfl) T.g_BadNumber (pv 1))) pss_nil)
    (pss_one (ps_ret (pe_ix (ix_U (hu1 hr)) (pe_fld (pv 0) rfl) (pv 1) (fun _ _ => rfl)))))
abbrev s_l_right : Stmt := top 28
theorem sc_l_right : FnScope n_l_right ["_law_row_here", "_law_looks"] (defScope s_l_right) := ⟨rfl, rfl, rfl, by decide +kernel, rfl, by decide +kernel, by decide +kernel⟩
theorem ok_l_right {sp_Row_files sp_l_distinct sp_Row_len sp_Row_getitem sp : Sp} {fd : FuncData} (T : Txt K mg) (F : FunD K "_law_right" "_law_right" (defArgs s_l_right) (defBody s_l_right) (defScope s_l_right) [] [] (He.ga K "_law_right") fd) (D_Row_files : Df P w K mg base 1 (pAd K "Row" "files") ["self"] sp_Row_files []) (D_l_distinct : Df P w K mg base 1 (He.ga K "_law_distinct") ["_law_looks"] sp_l_distinct []) (D_Row_len : Df P w K mg base 1 (He.ma K (He.ga K "Row") "__len__") ["self"] sp_Row_len []) (D_Row_getitem : Df P w K mg base 3 (He.ma K (He.ga K "Row") "__getitem__") ["self", "place"] sp_Row_getitem [])
    (len : ∀ vs H Q E, sp vs H Q E → vs.length = 2) (pu : ∀ vs H Q E, sp vs H Q E → t_l_right K sp_Row_files sp_l_distinct sp_Row_len sp_Row_getitem E { nx := fun _ H' => Q .non H', rt := Q } (start n_l_right vs) H) : Df P w K mg base 5 (He.ga K "_law_right") ["_law_row_here", "_law_looks"] sp [] := by
  refine df_of (t := fun E => t_l_right K sp_Row_files sp_l_distinct sp_Row_len sp_Row_getitem E) F sc_l_right len (fun _ _ _ _ _ _ us hl => match us, hl with | [_, _], _ => rfl) (fun cdv A outer s H E hr => ?_) pu
  exact (pss_cons (ps_if (PW.pt (pw_or (pt_cmpR (op_neU (hu64 hr)) (pe_fld (pv 0) rfl) (pe_callTy c_tuple rfl T.z_tuple boot_tuple (pa_cons (pv 1) pa_nil)) (nomark _)) (pw_or (pt_cmpR (op_neU (hu64 hr)) (pe_p (pv 0) T.c_Row.cl T.p_Row_files D_Row_files hr) (pe_c D_l_distinct hr (takes_of rfl rfl rfl rfl) T.g_l_distinct (pa_cons (pv 1) pa_nil)) (nomark _)) (pw_or1 (pt_cmpR (op_neU (hu64 hr)) (pe_callB (call_lenO T.m_Row_len.1 D_Row_len hr) rfl T.z_len boot_len (pa_cons (pv 0) pa_nil)) (pe_callB call_lenU rfl T.z_len boot_len (pa_cons (pv 1) pa_nil)) (nomark _)))))) (pss_one (ps_ret pe_bl)) pss_nil)
    (pss_cons (ps_if (PW.pt (pw_or (pt_not (pt_val (pe_callB call_isi rfl T.z_isinstance boot_isinstance (pa_cons (pe_fld (pv 0) rfl) (pa_cons (pe_bltn (v := .ty "tuple") rfl T.z_tuple boot_tuple rfl) pa_nil))))) (pw_or1 (pt_not (pt_val (pe_callB call_isi rfl T.z_isinstance boot_isinstance (pa_cons (pe_p (pv 0) T.c_Row.cl T.p_Row_files D_Row_files hr) (pa_cons (pe_bltn (v := .ty "tuple") rfl T.z_tuple boot_tuple rfl) pa_nil)))))))) (pss_one (ps_ret pe_bl)) pss_nil)
    (pss_one (ps_ret (pe_cmpR (op_eqU (hu64 hr)) (pe_lc (own := [("_law_k", 2)]) (g := gName 2) (tt := tYes) rfl sc_l_right.nd (pi_range1 rfl T.z_range (pa_cons (pe_callB call_lenU rfl T.z_len boot_len (pa_cons (pv 1) pa_nil)) pa_nil)) (blkOk_by (own := [("_law_k", 2)]) (N := n_l_right) (sc := defScope s_l_right) (by decide +kernel)) (fun _ _ _ _ _ => (pg_name (i := 2) sc_l_right.nd rfl (by first | exact Or.inl rfl | exact Or.inr rfl))) (fun _ _ _ _ _ => pts_nil) (fun _ _ _ _ _ => (pe_get T.m_Row_getitem.2 T.m_Row_getitem.1 D_Row_getitem hr takes0 (pv 0) (pv 2)))) (pe_callTy c_list rfl T.z_list boot_list (pa_cons (pv 1) pa_nil)) (nomark _))))))
abbrev s_Row_neg : Stmt := inClass (top 14) 11
theorem sc_Row_neg : FnScope n_Row_neg ["self"] (defScope s_Row_neg) := ⟨rfl, rfl, rfl, by decide +kernel, rfl, by decide +kernel, by decide +kernel⟩
theorem ok_Row_neg {sp_Row_init sp : Sp} {fd : FuncData} (T : Txt K mg) (F : FunD K "__neg__" "Row.__neg__" (defArgs s_Row_neg) (defBody s_Row_neg) (defScope s_Row_neg) [] [] (He.ma K (He.ga K "Row") "__neg__") fd) (D_Row_init : Df P w K mg base 3 (He.ma K (He.ga K "Row") "__init__") ["self", "files"] sp_Row_init [])
    (len : ∀ vs H Q E, sp vs H Q E → vs.length = 1) (pu : ∀ vs H Q E, sp vs H Q E → t_Row_neg K sp_Row_init E { nx := fun _ H' => Q .non H', rt := Q } (start n_Row_neg vs) H) : Df P w K mg base 5 (He.ma K (He.ga K "Row") "__neg__") ["self"] sp [] := by
  refine df_of (t := fun E => t_Row_neg K sp_Row_init E) F sc_Row_neg len (fun _ _ _ _ _ _ us hl => match us, hl with | [_], _ => rfl) (fun cdv A outer s H E hr => ?_) pu
  exact (pss_one (ps_ret (pe_n T.k_Row D_Row_init hr (takes_of rfl rfl rfl rfl) T.g_Row (pa_cons (pe_revA (pe_fld (pv 0) rfl)) pa_nil))))
abbrev s_repeated : Stmt := top 15
theorem sc_repeated : FnScope n_repeated ["looks", "number"] (defScope s_repeated) := ⟨rfl, rfl, rfl, by decide +kernel, rfl, by decide +kernel, by decide +kernel⟩
theorem ok_repeated {sp_is_count sp : Sp} {fd : FuncData} (T : Txt K mg) (F : FunD K "repeated" "repeated" (defArgs s_repeated) (defBody s_repeated) (defScope s_repeated) [] [] (He.ga K "repeated") fd) (D_is_count : Df P w K mg base 2 (He.ga K "is_count") ["value"] sp_is_count []) (D_BadNumber_init : Df P w K mg base 1 (He.ma K (He.ga K "BadNumber") "__init__") ["self", "value"] (spX1 (He.ga K "BadNumber") "value") [])
    (len : ∀ vs H Q E, sp vs H Q E → vs.length = 2) (pu : ∀ vs H Q E, sp vs H Q E → t_repeated K sp_is_count E { nx := fun _ H' => Q .non H', rt := Q } (start n_repeated vs) H) : Df P w K mg base 3 (He.ga K "repeated") ["looks", "number"] sp [] := by
  refine df_of (t := fun E => t_repeated K sp_is_count E) F sc_repeated len (fun _ _ _ _ _ _ us hl => match us, hl with | [_, _], _ => rfl) (fun cdv A outer s H E hr => ?_) pu
  exact (pss_cons (ps_if (pt_not (pt_val (pe_c D_is_count hr (takes_of rfl rfl rfl rfl) T.g_is_count (pa_cons (pv 1) pa_nil)))) (pss_one (ps_raise1 rfl T.x_BadNumber.x D_BadNumber_init hr (takes_of rfl rfl rfl rfl) T.g_BadNumber (pv 1))) pss_nil)
    (pss_one (ps_ret (pe_op op_mulA (pv 0) (pv 1)))))
abbrev s_Row_mul : Stmt := inClass (top 14) 9
theorem sc_Row_mul : FnScope n_Row_mul ["self", "number"] (defScope s_Row_mul) := ⟨rfl, rfl, rfl, by decide +kernel, rfl, by decide +kernel, by decide +kernel⟩
theorem ok_Row_mul {sp_Row_init sp_repeated sp : Sp} {fd : FuncData} (T : Txt K mg) (F : FunD K "__mul__" "Row.__mul__" (defArgs s_Row_mul) (defBody s_Row_mul) (defScope s_Row_mul) [] [] (He.ma K (He.ga K "Row") "__mul__") fd) (D_Row_init : Df P w K mg base 3 (He.ma K (He.ga K "Row") "__init__") ["self", "files"] sp_Row_init []) (D_repeated : Df P w K mg base 3 (He.ga K "repeated") ["looks", "number"] sp_repeated [])
    (len : ∀ vs H Q E, sp vs H Q E → vs.length = 2) (pu : ∀ vs H Q E, sp vs H Q E → t_Row_mul K sp_Row_init sp_repeated E { nx := fun _ H' => Q .non H', rt := Q } (start n_Row_mul vs) H) : Df P w K mg base 5 (He.ma K (He.ga K "Row") "__mul__") ["self", "number"] sp [] := by
  refine df_of (t := fun E => t_Row_mul K sp_Row_init sp_repeated E) F sc_Row_mul len (fun _ _ _ _ _ _ us hl => match us, hl with | [_, _], _ => rfl) (fun cdv A outer s H E hr => ?_) pu
  exact (pss_one (ps_ret (pe_n T.k_Row D_Row_init hr (takes_of rfl rfl rfl rfl) T.g_Row (pa_cons (pe_c D_repeated hr (takes_of rfl rfl rfl rfl) T.g_repeated (pa_cons (pe_fld (pv 0) rfl) (pa_cons (pv 1) pa_nil))) pa_nil))))
abbrev s_Row_rmul : Stmt := inClass (top 14) 10
theorem sc_Row_rmul : FnScope n_Row_rmul ["self", "number"] (defScope s_Row_rmul) := ⟨rfl, rfl, rfl, by decide +kernel, rfl, by decide +kernel, by decide +kernel⟩
theorem ok_Row_rmul {sp_Row_init sp_repeated sp : Sp} {fd : FuncData} (T : Txt K mg) (F : FunD K "__rmul__" "Row.__rmul__" (defArgs s_Row_rmul) (defBody s_Row_rmul) (defScope s_Row_rmul) [] [] (He.ma K (He.ga K "Row") "__rmul__") fd) (D_Row_init : Df P w K mg base 3 (He.ma K (He.ga K "Row") "__init__") ["self", "files"] sp_Row_init []) (D_repeated : Df P w K mg base 3 (He.ga K "repeated") ["looks", "number"] sp_repeated [])
    (len : ∀ vs H Q E, sp vs H Q E → vs.length = 2) (pu : ∀ vs H Q E, sp vs H Q E → t_Row_rmul K sp_Row_init sp_repeated E { nx := fun _ H' => Q .non H', rt := Q } (start n_Row_rmul vs) H) : Df P w K mg base 5 (He.ma K (He.ga K "Row") "__rmul__") ["self", "number"] sp [] := by
  refine df_of (t := fun E => t_Row_rmul K sp_Row_init sp_repeated E) F sc_Row_rmul len (fun _ _ _ _ _ _ us hl => match us, hl with | [_, _], _ => rfl) (fun cdv A outer s H E hr => ?_) pu
  exact (pss_one (ps_ret (pe_n T.k_Row D_Row_init hr (takes_of rfl rfl rfl rfl) T.g_Row (pa_cons (pe_c D_repeated hr (takes_of rfl rfl rfl rfl) T.g_repeated (pa_cons (pe_fld (pv 0) rfl) (pa_cons (pv 1) pa_nil))) pa_nil))))
abbrev s_Row_eq : Stmt := inClass (top 14) 12
theorem sc_Row_eq : FnScope n_Row_eq ["self", "other"] (defScope s_Row_eq) := ⟨rfl, rfl, rfl, by decide +kernel, rfl, by decide +kernel, by decide +kernel⟩
theorem ok_Row_eq {sp : Sp} {fd : FuncData} (T : Txt K mg) (F : FunD K "__eq__" "Row.__eq__" (defArgs s_Row_eq) (defBody s_Row_eq) (defScope s_Row_eq) [] [] (He.ma K (He.ga K "Row") "__eq__") fd) 
    (len : ∀ vs H Q E, sp vs H Q E → vs.length = 2) (pu : ∀ vs H Q E, sp vs H Q E → t_Row_eq K  E { nx := fun _ H' => Q .non H', rt := Q } (start n_Row_eq vs) H) : Df P w K mg base 1 (He.ma K (He.ga K "Row") "__eq__") ["self", "other"] sp [] := by
  refine df_of (t := fun E => t_Row_eq K  E) F sc_Row_eq len (fun _ _ _ _ _ _ us hl => match us, hl with | [_, _], _ => rfl) (fun cdv A outer s H E hr => ?_) pu
  exact (pss_one (ps_ret (pe_and (pe_callB call_isi rfl T.z_isinstance boot_isinstance (pa_cons (pv 1) (pa_cons (pe_glob rfl T.g_Row rfl) pa_nil))) (pe_one (pe_cmpR (op_eqU (hu64 hr)) (pe_fld (pv 0) rfl) (pe_fld (pv 1) rfl) (nomark _))))))
abbrev s_l_counted : Stmt := top 30
theorem sc_l_counted : FnScope n_l_counted ["_law_row_here", "_law_looks", "_law_many"] (defScope s_l_counted) := ⟨rfl, rfl, rfl, by decide +kernel, rfl, by decide +kernel, by decide +kernel⟩
theorem ok_l_counted {sp_l_right sp_Row_mul sp_Row_rmul sp_Row_eq sp : Sp} {fd : FuncData} (T : Txt K mg) (F : FunD K "_law_counted" "_law_counted" (defArgs s_l_counted) (defBody s_l_counted) (defScope s_l_counted) [] [] (He.ga K "_law_counted") fd) (D_l_right : Df P w K mg base 5 (He.ga K "_law_right") ["_law_row_here", "_law_looks"] sp_l_right []) (D_Row_mul : Df P w K mg base 5 (He.ma K (He.ga K "Row") "__mul__") ["self", "number"] sp_Row_mul []) (D_Row_rmul : Df P w K mg base 5 (He.ma K (He.ga K "Row") "__rmul__") ["self", "number"] sp_Row_rmul []) (D_Row_eq : Df P w K mg base 1 (He.ma K (He.ga K "Row") "__eq__") ["self", "other"] sp_Row_eq [])
    (len : ∀ vs H Q E, sp vs H Q E → vs.length = 3) (pu : ∀ vs H Q E, sp vs H Q E → t_l_counted K sp_l_right sp_Row_mul sp_Row_rmul sp_Row_eq E { nx := fun _ H' => Q .non H', rt := Q } (start n_l_counted vs) H) : Df P w K mg base 6 (He.ga K "_law_counted") ["_law_row_here", "_law_looks", "_law_many"] sp [] := by
  refine df_of (t := fun E => t_l_counted K sp_l_right sp_Row_mul sp_Row_rmul sp_Row_eq E) F sc_l_counted len (fun _ _ _ _ _ _ us hl => match us, hl with | [_, _, _], _ => rfl) (fun cdv A outer s H E hr => ?_) pu
  exact (pss_cons (ps_if (PW.pt (pw_or (pt_not (pt_val (pe_c D_l_right hr (takes_of rfl rfl rfl rfl) T.g_l_right (pa_cons (pe_binL rfl rfl rfl T.c_Row.sf T.m_Row_mul.1 T.m_Row_rmul.1 D_Row_mul hr (takes_of rfl rfl rfl rfl) (pv 0) (pv 2)) (pa_cons (pe_op op_mulA (pv 1) (pv 2)) pa_nil))))) (pw_or1 (pt_not (pt_val (pe_c D_l_right hr (takes_of rfl rfl rfl rfl) T.g_l_right (pa_cons (pe_mulR T.c_Row.sf T.m_Row_rmul.1 T.m_Row_mul.1 D_Row_rmul hr (takes_of rfl rfl rfl rfl) (pv 2) (pv 0)) (pa_cons (pe_op op_mulA (pv 1) (pv 2)) pa_nil)))))))) (pss_one (ps_ret pe_bl)) pss_nil)
    (pss_one (ps_ret (pe_and (pe_cmpR op_isB (pe_cmpR (op_cmpO rfl T.m_Row_eq.1 D_Row_eq hr) (pe_binL rfl rfl rfl T.c_Row.sf T.m_Row_mul.1 T.m_Row_rmul.1 D_Row_mul hr (takes_of rfl rfl rfl rfl) (pv 0) (pv 2)) (pe_mulR T.c_Row.sf T.m_Row_rmul.1 T.m_Row_mul.1 D_Row_rmul hr (takes_of rfl rfl rfl rfl) (pv 2) (pv 0)) (nomark _)) pe_bl (nomark _)) (pe_one (pe_cmpR op_isB (pe_cmpR (op_cmpO rfl T.m_Row_eq.1 D_Row_eq hr) (pe_binL rfl rfl rfl T.c_Row.sf T.m_Row_mul.1 T.m_Row_rmul.1 D_Row_mul hr (takes_of rfl rfl rfl rfl) (pv 0) pe_int) (pv 0) (nomark _)) pe_bl (nomark _)))))))
abbrev s_law : Stmt := top 31
theorem sc_law : FnScope n_law ["_law_script"] (defScope s_law) := ⟨rfl, rfl, rfl, by decide +kernel, rfl, by decide +kernel, by decide +kernel⟩
theorem ok_law {sp_l_pool sp_l_cell sp_l_names sp_l_take sp_l_row sp_l_stranger sp_Row_contains sp_Row_add sp_l_right sp_Row_neg sp_l_counted sp_Row_eq sp_Row_init sp : Sp} {fd : FuncData} (T : Txt K mg) (F : FunD K "law" "law" (defArgs s_law) (defBody s_law) (defScope s_law) [] [] (He.ga K "law") fd) (D_l_pool : Df P w K mg base 1 (He.ga K "_law_pool") ["_law_cell_here"] sp_l_pool []) (D_l_cell : Df P w K mg base 1 (He.ga K "_law_cell") ["_law_script", "_law_k"] sp_l_cell []) (D_l_names : Df P w K mg base 2 (He.ga K "_law_names") ["_law_pool_here", "_law_many"] sp_l_names []) (D_l_take : Df P w K mg base 1 (He.ga K "_law_take") ["_law_pool_here", "_law_many"] sp_l_take []) (D_l_row : Df P w K mg base 5 (He.ga K "_law_row") ["_law_pool_here", "_law_looks"] sp_l_row []) (D_l_stranger : Df P w K mg base 2 (He.ga K "_law_stranger") ["_law_pool_here", "_law_names_here"] sp_l_stranger []) (D_Row_contains : Df P w K mg base 1 (He.ma K (He.ga K "Row") "__contains__") ["self", "file"] sp_Row_contains []) (D_Row_add : Df P w K mg base 5 (He.ma K (He.ga K "Row") "__add__") ["self", "other"] sp_Row_add []) (D_l_right : Df P w K mg base 5 (He.ga K "_law_right") ["_law_row_here", "_law_looks"] sp_l_right []) (D_Row_neg : Df P w K mg base 5 (He.ma K (He.ga K "Row") "__neg__") ["self"] sp_Row_neg []) (D_l_counted : Df P w K mg base 6 (He.ga K "_law_counted") ["_law_row_here", "_law_looks", "_law_many"] sp_l_counted []) (D_Row_eq : Df P w K mg base 1 (He.ma K (He.ga K "Row") "__eq__") ["self", "other"] sp_Row_eq []) (D_Row_init : Df P w K mg base 3 (He.ma K (He.ga K "Row") "__init__") ["self", "files"] sp_Row_init [])
    (len : ∀ vs H Q E, sp vs H Q E → vs.length = 1) (pu : ∀ vs H Q E, sp vs H Q E → t_law K sp_l_pool sp_l_cell sp_l_names sp_l_take sp_l_row sp_l_stranger sp_Row_contains sp_Row_add sp_l_right sp_Row_neg sp_l_counted sp_Row_eq sp_Row_init E { nx := fun _ H' => Q .non H', rt := Q } (start n_law vs) H) : FnOk P w K mg base (L2.CX P w) 7 (He.ga K "law") fd ["_law_script"] sp := by
  refine fn_of (t := fun E => t_law K sp_l_pool sp_l_cell sp_l_names sp_l_take sp_l_row sp_l_stranger sp_Row_contains sp_Row_add sp_l_right sp_Row_neg sp_l_counted sp_Row_eq sp_Row_init E) F sc_law len (fun _ _ _ _ _ _ us hl => match us, hl with | [_], _ => rfl) (fun cdv A outer s H E hr => ?_) pu
  exact (pss_cons (ps_set (i := 1) sc_law.nd rfl (Or.inr rfl) (pe_c D_l_pool hr (takes_of rfl rfl rfl rfl) T.g_l_pool (pa_cons (pe_c D_l_cell hr (takes_of rfl rfl rfl rfl) T.g_l_cell (pa_cons (pv 0) (pa_cons pe_int pa_nil))) pa_nil)))
    (pss_cons (ps_set (i := 2) sc_law.nd rfl (Or.inr rfl) (pe_c D_l_names hr (takes_of rfl rfl rfl rfl) T.g_l_names (pa_cons (pv 1) (pa_cons (pe_op op_addU pe_int (pe_c D_l_take hr (takes_of rfl rfl rfl rfl) T.g_l_take (pa_cons (pv 1) (pa_cons pe_int pa_nil)))) pa_nil))))
    (pss_cons (ps_set (i := 1) sc_law.nd rfl (Or.inr rfl) (pe_c D_l_pool hr (takes_of rfl rfl rfl rfl) T.g_l_pool (pa_cons (pe_c D_l_cell hr (takes_of rfl rfl rfl rfl) T.g_l_cell (pa_cons (pv 0) (pa_cons pe_int pa_nil))) pa_nil)))
    (pss_cons (ps_setLc (i := 3) (own := [("_law_k", 10)]) (g := gName 10) (tt := tYes) rfl sc_law.nd rfl rfl (sw_true rfl rfl rfl (by decide +kernel)) (pi_range1 rfl T.z_range (pa_cons (pe_c D_l_take hr (takes_of rfl rfl rfl rfl) T.g_l_take (pa_cons (pv 1) (pa_cons pe_int pa_nil))) pa_nil)) (blkOk_by (own := [("_law_k", 10)]) (N := n_law) (sc := defScope s_law) (by decide +kernel)) (fun _ _ _ _ _ => (pg_name (i := 10) sc_law.nd rfl (by first | exact Or.inl rfl | exact Or.inr rfl))) (fun _ _ _ _ _ => pts_nil) (fun _ _ _ _ _ => (pe_ix (ix_U (hu1 hr)) (pv 2) (pe_c D_l_take hr takes0 T.g_l_take (pa_cons (pv 1) (pa_cons (pe_callB call_lenU rfl T.z_len boot_len (pa_cons (pv 2) pa_nil)) pa_nil))) (fun _ _ => rfl))))
    (pss_cons (ps_set (i := 1) sc_law.nd rfl (Or.inr rfl) (pe_c D_l_pool hr (takes_of rfl rfl rfl rfl) T.g_l_pool (pa_cons (pe_c D_l_cell hr (takes_of rfl rfl rfl rfl) T.g_l_cell (pa_cons (pv 0) (pa_cons pe_int pa_nil))) pa_nil)))
    (pss_cons (ps_setLc (i := 4) (own := [("_law_k", 10)]) (g := gName 10) (tt := tYes) rfl sc_law.nd rfl rfl (sw_true rfl rfl rfl (by decide +kernel)) (pi_range1 rfl T.z_range (pa_cons (pe_c D_l_take hr (takes_of rfl rfl rfl rfl) T.g_l_take (pa_cons (pv 1) (pa_cons pe_int pa_nil))) pa_nil)) (blkOk_by (own := [("_law_k", 10)]) (N := n_law) (sc := defScope s_law) (by decide +kernel)) (fun _ _ _ _ _ => (pg_name (i := 10) sc_law.nd rfl (by first | exact Or.inl rfl | exact Or.inr rfl))) (fun _ _ _ _ _ => pts_nil) (fun _ _ _ _ _ => (pe_ix (ix_U (hu1 hr)) (pv 2) (pe_c D_l_take hr takes0 T.g_l_take (pa_cons (pv 1) (pa_cons (pe_callB call_lenU rfl T.z_len boot_len (pa_cons (pv 2) pa_nil)) pa_nil))) (fun _ _ => rfl))))
    (pss_cons (ps_set (i := 5) sc_law.nd rfl (Or.inl rfl) (pe_c D_l_row hr (takes_of rfl rfl rfl rfl) T.g_l_row (pa_cons (pv 1) (pa_cons (pv 3) pa_nil))))
    (pss_cons (ps_set (i := 6) sc_law.nd rfl (Or.inl rfl) (pe_c D_l_row hr (takes_of rfl rfl rfl rfl) T.g_l_row (pa_cons (pv 1) (pa_cons (pv 4) pa_nil))))
    (pss_cons (ps_set (i := 7) sc_law.nd rfl (Or.inl rfl) (pe_c D_l_stranger hr (takes_of rfl rfl rfl rfl) T.g_l_stranger (pa_cons (pv 1) (pa_cons (pv 2) pa_nil))))
    (pss_cons (ps_for (passes_of rfl) rfl (pi_seq (pe_op op_addU (pv 2) (pe_lst (pa_cons (pv 7) pa_nil)))) (pg_name (i := 8) sc_law.nd rfl (by first | exact Or.inl rfl | exact Or.inr rfl)) (pss_one (ps_if (PW.pt (pw_or (pt_cmpR (op_neU (hu64 hr)) (pe_inO T.m_Row_contains.1 D_Row_contains hr (takes_of rfl rfl rfl rfl) (pv 8) (pv 5)) (pe_cmpR (op_inU (hu65 hr)) (pv 8) (pv 3) rfl) (nomark _)) (pw_or1 (pt_cmpR (op_neU (hu64 hr)) (pe_inO T.m_Row_contains.1 D_Row_contains hr (takes_of rfl rfl rfl rfl) (pv 8) (pe_binO rfl T.c_Row.sf T.m_Row_add.1 D_Row_add hr (takes_of rfl rfl rfl rfl) (pv 5) (pv 6))) (pe_cmpR (op_inU (hu65 hr)) (pv 8) (pe_op op_addU (pv 3) (pv 4)) rfl) (nomark _))))) (pss_one (ps_ret pe_bl)) pss_nil)))
    (pss_cons (ps_if (PW.pt (pw_or (pt_not (pt_val (pe_c D_l_right hr (takes_of rfl rfl rfl rfl) T.g_l_right (pa_cons (pv 5) (pa_cons (pv 3) pa_nil))))) (pw_or (pt_not (pt_val (pe_c D_l_right hr (takes_of rfl rfl rfl rfl) T.g_l_right (pa_cons (pv 6) (pa_cons (pv 4) pa_nil))))) (pw_or1 (pt_not (pt_val (pe_c D_l_right hr (takes_of rfl rfl rfl rfl) T.g_l_right (pa_cons (pe_binO rfl T.c_Row.sf T.m_Row_add.1 D_Row_add hr (takes_of rfl rfl rfl rfl) (pv 5) (pv 6)) (pa_cons (pe_op op_addU (pv 3) (pv 4)) pa_nil))))))))) (pss_one (ps_ret pe_bl)) pss_nil)
    (pss_cons (ps_if (PW.pt (pw_or (pt_not (pt_val (pe_c D_l_right hr (takes_of rfl rfl rfl rfl) T.g_l_right (pa_cons (pe_negO T.m_Row_neg.1 D_Row_neg hr (takes_of rfl rfl rfl rfl) (pv 5)) (pa_cons (pe_revA (pv 3)) pa_nil))))) (pw_or1 (pt_not (pt_val (pe_c D_l_right hr (takes_of rfl rfl rfl rfl) T.g_l_right (pa_cons (pe_negO T.m_Row_neg.1 D_Row_neg hr (takes_of rfl rfl rfl rfl) (pe_binO rfl T.c_Row.sf T.m_Row_add.1 D_Row_add hr (takes_of rfl rfl rfl rfl) (pv 6) (pv 5))) (pa_cons (pe_op op_addU (pe_revA (pv 3)) (pe_revA (pv 4))) pa_nil)))))))) (pss_one (ps_ret pe_bl)) pss_nil)
    (pss_cons (ps_set (i := 9) sc_law.nd rfl (Or.inl rfl) (pe_c D_l_take hr (takes_of rfl rfl rfl rfl) T.g_l_take (pa_cons (pv 1) (pa_cons pe_int pa_nil))))
    (pss_cons (ps_if (pt_cmpR op_lt (pe_callB call_lenU rfl T.z_len boot_len (pa_cons (pv 3) pa_nil)) pe_int (nomark _)) (pss_one (ps_set (i := 9) sc_law.nd rfl (Or.inl rfl) (pe_op op_addU (pe_op op_mulA pe_int (pv 9)) (pe_c D_l_take hr (takes_of rfl rfl rfl rfl) T.g_l_take (pa_cons (pv 1) (pa_cons pe_int pa_nil)))))) pss_nil)
    (pss_cons (ps_if (PW.pt (pw_or (pt_not (pt_val (pe_c D_l_counted hr (takes_of rfl rfl rfl rfl) T.g_l_counted (pa_cons (pv 5) (pa_cons (pv 3) (pa_cons (pv 9) pa_nil)))))) (pw_or1 (pt_not (pt_val (pe_c D_l_counted hr (takes_of rfl rfl rfl rfl) T.g_l_counted (pa_cons (pv 6) (pa_cons (pv 4) (pa_cons pe_int pa_nil))))))))) (pss_one (ps_ret pe_bl)) pss_nil)
    (pss_cons (ps_if (PW.pt (pw_or (pt_cmpR (op_neU (hu64 hr)) (pe_cmpR (op_cmpO rfl T.m_Row_eq.1 D_Row_eq hr) (pv 5) (pv 6) (nomark _)) (pe_cmpR (op_eqU (hu64 hr)) (pv 3) (pv 4) (nomark _)) (nomark _)) (pw_or1 (pt_not (pt_cmpR (op_cmpO rfl T.m_Row_eq.1 D_Row_eq hr) (pv 5) (pe_n T.k_Row D_Row_init hr (takes_of rfl rfl rfl rfl) T.g_Row (pa_cons (pv 3) pa_nil)) (nomark _)))))) (pss_one (ps_ret pe_bl)) pss_nil)
    (pss_cons (ps_if (PW.pt (pw_or (pt_cmpR (op_cmpO rfl T.m_Row_eq.1 D_Row_eq hr) (pv 5) (pe_callTy c_tuple rfl T.z_tuple boot_tuple (pa_cons (pv 3) pa_nil)) (nomark _)) (pw_or (pt_cmpR (op_cmpO rfl T.m_Row_eq.1 D_Row_eq hr) (pv 5) (pv 3) (nomark _)) (pw_or1 (pt_cmpR (op_cmpO rfl T.m_Row_eq.1 D_Row_eq hr) (pv 5) pe_int (nomark _)))))) (pss_one (ps_ret pe_bl)) pss_nil)
    (pss_one (ps_ret (pe_and (pe_c D_l_right hr (takes_of rfl rfl rfl rfl) T.g_l_right (pa_cons (pv 5) (pa_cons (pv 3) pa_nil))) (pe_and (pe_c D_l_right hr (takes_of rfl rfl rfl rfl) T.g_l_right (pa_cons (pv 6) (pa_cons (pv 4) pa_nil))) (pe_one (pe_cmpR (op_eqU (hu64 hr)) (pe_cmpR (op_cmpO rfl T.m_Row_eq.1 D_Row_eq hr) (pe_negO T.m_Row_neg.1 D_Row_neg hr (takes_of rfl rfl rfl rfl) (pv 5)) (pv 5) (nomark _)) (pe_cmpR (op_eqU (hu64 hr)) (pv 3) (pe_revA (pv 3)) (nomark _)) (nomark _))))))))))))))))))))))))
end
/-! ## the head, the chain -/
/-! ### the end of a law -/
theorem walk_ofX {l : PySem.W.OpenLaw} {n k : Nat} {q : Program} {loose : List Str} {XP : (Str → Option Value) → Heap → Prop} {YP : World → Heap → Prop} {d : DefRec} {CX : World → CXT} {x : Str}
    (hn : l.most = some n) (hn2 : n ≤ sizeLine) (hdf : d.params.defaults = []) (hr : Room k callerA)
    (F : ∀ (w : World) (mg : Str → Option Value) (fa : Addr) (h : Heap), YP w h → h.Ns mainGlobals mg → mg d.name = some (.ref fa) →
      ∃ (K : PySem.W.Frag) (fd : FuncData) (sp : Sp), K.In h ∧ (∀ (s : Shared) (u : Value), BindsTo s fd ⟨[u], []⟩ [(x, u)]) ∧
        (∀ (H : Hp) (a : Addr) (ns : List Int), ns.length ≤ n → Only H → SqL K H a (ns.map V.int) → sp [.ref a] H (fun v _ => v = .bl true) fun _ _ _ => False) ∧
        ∀ base : Heap, K.In base → base.Ns mainGlobals mg → FnOk l.prog w K mg base (CX w) k fa fd [x] sp)
    (hCX : ∀ (w : World) (H : Hp) (s : Shared) (e : Value) (s' : Shared), CX w [] H s (fun _ _ _ => False) e s' → False) :
    PySem.W.WalkO q loose XP YP l.row.toRowW d [] (fun f vs => PySem.call f vs) := by
  refine Att.attach_call hn hdf fun w s₀ s₁ mg mb fa o pm cd doc a vs ns G Y ho hd hcd hmg hobj hints hlen hg => ?_
  obtain ⟨K, fd, sp, KX, hb, hsp, hF⟩ := F w mg fa _ Y G.T.g hmg
  exact law_call KX G.T.g G.T.b G.T.builtins G.T.nolimit hg hobj hints (Nat.le_trans hlen hn2) hr hF hb (fun H hO hS => hsp H a ns hlen hO hS) fun H e s' => hCX w H s₁ e s'
def u_l_pool : DefU := ⟨.fn "_law_pool", "_law_pool", "_law_pool", s_l_pool, [], []⟩
def u_l_cell : DefU := ⟨.fn "_law_cell", "_law_cell", "_law_cell", s_l_cell, [], []⟩
def u_l_take : DefU := ⟨.fn "_law_take", "_law_take", "_law_take", s_l_take, [], []⟩
def u_l_names : DefU := ⟨.fn "_law_names", "_law_names", "_law_names", s_l_names, [], []⟩
def u_is_name : DefU := ⟨.fn "is_name", "is_name", "is_name", s_is_name, [], []⟩
def u_BadName_init : DefU := ⟨.me "BadName" "__init__", "__init__", "BadName.__init__", s_BadName_init, [], []⟩
def u_Row_init : DefU := ⟨.me "Row" "__init__", "__init__", "Row.__init__", s_Row_init, [], []⟩
def u_l_row : DefU := ⟨.fn "_law_row", "_law_row", "_law_row", s_l_row, [], []⟩
def u_l_stranger : DefU := ⟨.fn "_law_stranger", "_law_stranger", "_law_stranger", s_l_stranger, [], []⟩
def u_Row_contains : DefU := ⟨.me "Row" "__contains__", "__contains__", "Row.__contains__", s_Row_contains, [], []⟩
def u_Row_add : DefU := ⟨.me "Row" "__add__", "__add__", "Row.__add__", s_Row_add, [], []⟩
def u_Row_files : DefU := ⟨.pr "Row" "files", "files", "Row.files", s_Row_files, [], []⟩
def u_l_distinct : DefU := ⟨.fn "_law_distinct", "_law_distinct", "_law_distinct", s_l_distinct, [], []⟩
def u_Row_len : DefU := ⟨.me "Row" "__len__", "__len__", "Row.__len__", s_Row_len, [], []⟩
def u_is_whole : DefU := ⟨.fn "is_whole", "is_whole", "is_whole", s_is_whole, [], []⟩
def u_is_count : DefU := ⟨.fn "is_count", "is_count", "is_count", s_is_count, [], []⟩
def u_BadNumber_init : DefU := ⟨.me "BadNumber" "__init__", "__init__", "BadNumber.__init__", s_BadNumber_init, [], []⟩
def u_Row_getitem : DefU := ⟨.me "Row" "__getitem__", "__getitem__", "Row.__getitem__", s_Row_getitem, [], []⟩
def u_l_right : DefU := ⟨.fn "_law_right", "_law_right", "_law_right", s_l_right, [], []⟩
def u_Row_neg : DefU := ⟨.me "Row" "__neg__", "__neg__", "Row.__neg__", s_Row_neg, [], []⟩
def u_repeated : DefU := ⟨.fn "repeated", "repeated", "repeated", s_repeated, [], []⟩
def u_Row_mul : DefU := ⟨.me "Row" "__mul__", "__mul__", "Row.__mul__", s_Row_mul, [], []⟩
def u_Row_rmul : DefU := ⟨.me "Row" "__rmul__", "__rmul__", "Row.__rmul__", s_Row_rmul, [], []⟩
def u_Row_eq : DefU := ⟨.me "Row" "__eq__", "__eq__", "Row.__eq__", s_Row_eq, [], []⟩
def u_l_counted : DefU := ⟨.fn "_law_counted", "_law_counted", "_law_counted", s_l_counted, [], []⟩
def u_law : DefU := ⟨.fn "law", "law", "law", s_law, [], []⟩
def fns : List DefU := [u_l_pool, u_l_cell, u_l_take, u_l_names, u_is_name, u_BadName_init, u_Row_init, u_l_row, u_l_stranger, u_Row_contains, u_Row_add, u_Row_files, u_l_distinct, u_Row_len, u_is_whole, u_is_count, u_BadNumber_init, u_Row_getitem, u_l_right, u_Row_neg, u_repeated, u_Row_mul, u_Row_rmul, u_Row_eq, u_l_counted, u_law]
def exs : List (PySem.W.Frag → Bool) := [bGlo "_law_cell", bGlo "_law_pool", bGlo "_law_take", bGlo "_law_names", bFree "range", bFree "len", bGlo "_law_row", bGlo "_law_stranger", bMeth "Row" "__contains__", bClsI "Row", bMeth "Row" "__add__", bGlo "_law_right", bMeth "Row" "__neg__", bGlo "_law_counted", bNf "Row" "tuple", bKt "tuple" "Row", bNf "Row" "list", bKt "list" "Row", bNf "Row" "int", bKt "int" "Row", bMeth "Row" "__eq__", bMk "Row", bGlo "Row", bFree "tuple", bFree "int", bFree "list", bGlo "is_name", bX "BadName", bGlo "BadName", bNoat "Row" "looks", bFree "isinstance", bFree "str", bInt "LONGEST" 8, bStr "LETTERS" "abcdefghijklmnopqrstuvwxyz", bStr "SIGNS" "abcdefghijklmnopqrstuvwxyz0123456789", bProp "Row" "files", bGlo "_law_distinct", bMeth "Row" "__len__", bMeth "Row" "__getitem__", bFree "enumerate", bGlo "is_count", bX "BadNumber", bGlo "BadNumber", bGlo "is_whole", bFree "bool", bBinT "Row" "mul" "int", bBinT "Row" "mul" "bool", bBinT "Row" "mul" "str", bBinT "Row" "mul" "NoneType", bBinT "Row" "mul" "tuple", bMeth "Row" "__mul__", bMeth "Row" "__rmul__", bGlo "repeated", bGlo "law", bNoat "BadName" "name", bNoat "BadNumber" "value"]
def loose0 : List PySem.Str := ["_wall", "LookError", "BadName", "NoFile", "BadNumber", "LETTERS", "SIGNS", "LONGEST", "is_name", "is_whole", "is_count", "Row", "repeated", "first_look", "last_look", "same_files", "fewer_before", "is_before", "_law_cell", "_law_pool", "_law_take", "_law_names", "_law_stranger", "_law_distinct", "_law_right", "_law_row", "_law_counted"]
def loose : List PySem.Str := loose0
abbrev R : PySem.W.OpenRow := PySem.W.OpenLaw.row PySem.Challenge.rw_lookrows_k28_rows_as_sequences
abbrev hk : PySem.W.Hook := hookU 5 exs fns
def ob (s : PySem.W.SharedT) : AlU := obsUG 5 exs fns (HandSHeadRun.getT s)
theorem ob_eq (s : PySem.W.SharedT) : ob s = hk.obs s.abs := obsUG_eq (HandSHeadRun.getT_eq s)
theorem run (w : World) : HandSHeadRun.RunEq R (PySem.W.view R.prog [31]) hk ob 6000 loose w := by
  intro os
  kernel_rfl
theorem txt {K : PySem.W.Frag} {h : Heap} {mg : Str → Option Value} (X : K.In h) (G : h.Ns mainGlobals mg) (c : SaysU exs fns K) : Txt K mg where
  g_l_cell := He.glo_ok X G (c.fact 0)
  g_l_pool := He.glo_ok X G (c.fact 1)
  g_l_take := He.glo_ok X G (c.fact 2)
  g_l_names := He.glo_ok X G (c.fact 3)
  z_range := He.free_ok X G (c.fact 4)
  z_len := He.free_ok X G (c.fact 5)
  g_l_row := He.glo_ok X G (c.fact 6)
  g_l_stranger := He.glo_ok X G (c.fact 7)
  m_Row_contains := meth_ok (c.fact 8)
  c_Row := clsI_ok (c.fact 9)
  m_Row_add := meth_ok (c.fact 10)
  g_l_right := He.glo_ok X G (c.fact 11)
  m_Row_neg := meth_ok (c.fact 12)
  g_l_counted := He.glo_ok X G (c.fact 13)
  nf_Row_tuple := c.fact 14
  kt_tuple_Row := of_decide_eq_true (c.fact 15)
  nf_Row_list := c.fact 16
  kt_list_Row := of_decide_eq_true (c.fact 17)
  nf_Row_int := c.fact 18
  kt_int_Row := of_decide_eq_true (c.fact 19)
  m_Row_eq := meth_ok (c.fact 20)
  k_Row := He.mkr_ok (c.fact 21)
  g_Row := He.glo_ok X G (c.fact 22)
  z_tuple := He.free_ok X G (c.fact 23)
  z_int := He.free_ok X G (c.fact 24)
  z_list := He.free_ok X G (c.fact 25)
  g_is_name := He.glo_ok X G (c.fact 26)
  x_BadName := x_ok (c.fact 27)
  g_BadName := He.glo_ok X G (c.fact 28)
  n_Row_looks := He.noat_ok (c.fact 29)
  z_isinstance := He.free_ok X G (c.fact 30)
  z_str := He.free_ok X G (c.fact 31)
  i_LONGEST := He.int_ok X G (c.fact 32)
  s_LETTERS := He.str_ok X G (c.fact 33)
  s_SIGNS := He.str_ok X G (c.fact 34)
  p_Row_files := prop_ok (c.fact 35)
  g_l_distinct := He.glo_ok X G (c.fact 36)
  m_Row_len := meth_ok (c.fact 37)
  m_Row_getitem := meth_ok (c.fact 38)
  z_enumerate := He.free_ok X G (c.fact 39)
  g_is_count := He.glo_ok X G (c.fact 40)
  x_BadNumber := x_ok (c.fact 41)
  g_BadNumber := He.glo_ok X G (c.fact 42)
  g_is_whole := He.glo_ok X G (c.fact 43)
  z_bool := He.free_ok X G (c.fact 44)
  bt_Row_mul_int := binT_ok (c.fact 45)
  bt_Row_mul_bool := binT_ok (c.fact 46)
  bt_Row_mul_str := binT_ok (c.fact 47)
  bt_Row_mul_NoneType := binT_ok (c.fact 48)
  bt_Row_mul_tuple := binT_ok (c.fact 49)
  m_Row_mul := meth_ok (c.fact 50)
  m_Row_rmul := meth_ok (c.fact 51)
  g_repeated := He.glo_ok X G (c.fact 52)
  g_law := He.glo_ok X G (c.fact 53)
  nx_BadName_name := He.noat_ok (c.fact 54)
  nx_BadNumber_value := He.noat_ok (c.fact 55)
theorem facts {P : Program} {w : World} {K : PySem.W.Frag} {h : Heap} {mg : Str → Option Value} {f : Addr} (X : K.In h) (G : h.Ns mainGlobals mg) (hfa : mg ("law" : Str) = some (.ref f)) (c : SaysU exs fns K) :
    ∃ fd : FuncData, (∀ (s : Shared) (v : Value), BindsTo s fd ⟨[v], []⟩ [("_law_script", v)]) ∧ ∀ base : Heap, K.In base → base.Ns mainGlobals mg → FnOk P w K mg base (L2.CX P w) 7 f fd ["_law_script"] (sp_law K) := by
  have T := txt X G c
  obtain ⟨fd_l_pool, F_l_pool⟩ := c.def_ 0 (d := u_l_pool) rfl
  obtain ⟨fd_l_cell, F_l_cell⟩ := c.def_ 1 (d := u_l_cell) rfl
  obtain ⟨fd_l_take, F_l_take⟩ := c.def_ 2 (d := u_l_take) rfl
  obtain ⟨fd_l_names, F_l_names⟩ := c.def_ 3 (d := u_l_names) rfl
  obtain ⟨fd_is_name, F_is_name⟩ := c.def_ 4 (d := u_is_name) rfl
  obtain ⟨fd_BadName_init, F_BadName_init⟩ := c.def_ 5 (d := u_BadName_init) rfl
  obtain ⟨fd_Row_init, F_Row_init⟩ := c.def_ 6 (d := u_Row_init) rfl
  obtain ⟨fd_l_row, F_l_row⟩ := c.def_ 7 (d := u_l_row) rfl
  obtain ⟨fd_l_stranger, F_l_stranger⟩ := c.def_ 8 (d := u_l_stranger) rfl
  obtain ⟨fd_Row_contains, F_Row_contains⟩ := c.def_ 9 (d := u_Row_contains) rfl
  obtain ⟨fd_Row_add, F_Row_add⟩ := c.def_ 10 (d := u_Row_add) rfl
  obtain ⟨fd_Row_files, F_Row_files⟩ := c.def_ 11 (d := u_Row_files) rfl
  obtain ⟨fd_l_distinct, F_l_distinct⟩ := c.def_ 12 (d := u_l_distinct) rfl
  obtain ⟨fd_Row_len, F_Row_len⟩ := c.def_ 13 (d := u_Row_len) rfl
  obtain ⟨fd_is_whole, F_is_whole⟩ := c.def_ 14 (d := u_is_whole) rfl
  obtain ⟨fd_is_count, F_is_count⟩ := c.def_ 15 (d := u_is_count) rfl
  obtain ⟨fd_BadNumber_init, F_BadNumber_init⟩ := c.def_ 16 (d := u_BadNumber_init) rfl
  obtain ⟨fd_Row_getitem, F_Row_getitem⟩ := c.def_ 17 (d := u_Row_getitem) rfl
  obtain ⟨fd_l_right, F_l_right⟩ := c.def_ 18 (d := u_l_right) rfl
  obtain ⟨fd_Row_neg, F_Row_neg⟩ := c.def_ 19 (d := u_Row_neg) rfl
  obtain ⟨fd_repeated, F_repeated⟩ := c.def_ 20 (d := u_repeated) rfl
  obtain ⟨fd_Row_mul, F_Row_mul⟩ := c.def_ 21 (d := u_Row_mul) rfl
  obtain ⟨fd_Row_rmul, F_Row_rmul⟩ := c.def_ 22 (d := u_Row_rmul) rfl
  obtain ⟨fd_Row_eq, F_Row_eq⟩ := c.def_ 23 (d := u_Row_eq) rfl
  obtain ⟨fd_l_counted, F_l_counted⟩ := c.def_ 24 (d := u_l_counted) rfl
  obtain ⟨fd_law, F_law⟩ := c.def_ 25 (d := u_law) rfl
  have e := hfa.symm.trans T.g_law
  cases e
  have b := FunD.bindsA (ps := ["_law_script"]) F_law fun _ _ _ _ _ _ us hl => match us, hl with | [_], _ => rfl
  refine ⟨fd_law, fun s v => b s [v] rfl, fun base _ _ => ?_⟩
  have R : RowK K := ⟨T.c_Row.cl, T.n_Row_looks⟩
  have D_l_pool := ok_l_pool (P := P) (w := w) (base := base) T F_l_pool  len_l_pool (pu_l_pool)
  have D_l_cell := ok_l_cell (P := P) (w := w) (base := base) T F_l_cell  len_l_cell (pu_l_cell)
  have D_l_take := ok_l_take (P := P) (w := w) (base := base) T F_l_take  len_l_take (pu_l_take)
  have D_l_names := ok_l_names (P := P) (w := w) (base := base) T F_l_names D_l_take len_l_names (pu_l_names)
  have D_is_name := ok_is_name (P := P) (w := w) (base := base) T F_is_name  len_is_name (pu_is_name)
  have D_BadName_init := ok_BadName_init (sp := (spX1 (He.ga K "BadName") "name")) (P := P) (w := w) (base := base) T F_BadName_init  (by rintro _ _ _ _ ⟨_, _, rfl, _⟩; rfl) (fun vs H Q E h => pure_x1 T.x_BadName.x.ox T.nx_BadName_name vs H Q E h)
  have D_Row_init := ok_Row_init (P := P) (w := w) (base := base) T F_Row_init D_is_name D_BadName_init len_Row_init (pu_Row_init R)
  have D_l_row := ok_l_row (P := P) (w := w) (base := base) T F_l_row D_Row_init D_l_take len_l_row (pu_l_row)
  have D_l_stranger := ok_l_stranger (P := P) (w := w) (base := base) T F_l_stranger D_l_take len_l_stranger (pu_l_stranger)
  have D_Row_contains := ok_Row_contains (P := P) (w := w) (base := base) T F_Row_contains  len_Row_contains (pu_Row_contains R)
  have D_Row_add := ok_Row_add (P := P) (w := w) (base := base) T F_Row_add D_Row_init len_Row_add (pu_Row_add R T.c_Row)
  have D_Row_files := ok_Row_files (P := P) (w := w) (base := base) T F_Row_files  len_Row_files (pu_Row_files R)
  have D_l_distinct := ok_l_distinct (P := P) (w := w) (base := base) T F_l_distinct  len_l_distinct (pu_l_distinct)
  have D_Row_len := ok_Row_len (P := P) (w := w) (base := base) T F_Row_len  len_Row_len (pu_Row_len R)
  have D_is_whole := ok_is_whole (P := P) (w := w) (base := base) T F_is_whole  len_is_whole (pu_is_whole)
  have D_is_count := ok_is_count (P := P) (w := w) (base := base) T F_is_count D_is_whole len_is_count (pu_is_count)
  have D_BadNumber_init := ok_BadNumber_init (sp := (spX1 (He.ga K "BadNumber") "value")) (P := P) (w := w) (base := base) T F_BadNumber_init  (by rintro _ _ _ _ ⟨_, _, rfl, _⟩; rfl) (fun vs H Q E h => pure_x1 T.x_BadNumber.x.ox T.nx_BadNumber_value vs H Q E h)
  have D_Row_getitem := ok_Row_getitem (P := P) (w := w) (base := base) T F_Row_getitem D_is_count D_BadNumber_init len_Row_getitem (pu_Row_getitem R)
  have D_l_right := ok_l_right (P := P) (w := w) (base := base) T F_l_right D_Row_files D_l_distinct D_Row_len D_Row_getitem len_l_right (pu_l_right R)
  have D_Row_neg := ok_Row_neg (P := P) (w := w) (base := base) T F_Row_neg D_Row_init len_Row_neg (pu_Row_neg R)
  have D_repeated := ok_repeated (P := P) (w := w) (base := base) T F_repeated D_is_count D_BadNumber_init len_repeated (pu_repeated)
  have D_Row_mul := ok_Row_mul (P := P) (w := w) (base := base) T F_Row_mul D_Row_init D_repeated len_Row_mul (pu_Row_mul R)
  have D_Row_rmul := ok_Row_rmul (P := P) (w := w) (base := base) T F_Row_rmul D_Row_init D_repeated len_Row_mul (pu_Row_rmul R)
  have D_Row_eq := ok_Row_eq (P := P) (w := w) (base := base) T F_Row_eq  len_Row_eq (pu_Row_eq R T.c_Row)
  have D_l_counted := ok_l_counted (P := P) (w := w) (base := base) T F_l_counted D_l_right D_Row_mul D_Row_rmul D_Row_eq len_l_counted (pu_l_counted R T.c_Row T.bt_Row_mul_int)
  have D_law := ok_law (P := P) (w := w) (base := base) T F_law D_l_pool D_l_cell D_l_names D_l_take D_l_row D_l_stranger D_Row_contains D_Row_add D_l_right D_Row_neg D_l_counted D_Row_eq D_Row_init len_law (pu_law R T.c_Row ⟨T.nf_Row_tuple, T.nf_Row_list, T.nf_Row_int, T.kt_tuple_Row, T.kt_list_Row, T.kt_int_Row⟩)
  exact D_law
end L2.Uq
open PySem PySem.W PySem.Calls PyProof.Rows
theorem PySem.Challenge.cw_lookrows_k28_rows_as_sequences_holds : PySem.Challenge.rw_lookrows_k28_rows_as_sequences.Holds := by
  w_on; o_law
  refine HandSHeadRun.head_any (r := OpenLaw.row PySem.Challenge.rw_lookrows_k28_rows_as_sequences) (q := view (OpenLaw.row PySem.Challenge.rw_lookrows_k28_rows_as_sequences).prog [31]) (H := L2.Uq.hk) (ob := L2.Uq.ob) (M := 6000) (loose := L2.Uq.loose) (d := HandSHeadRun.topDef (OpenLaw.row PySem.Challenge.rw_lookrows_k28_rows_as_sequences).prog 31) (kwd := []) L2.Uq.ob_eq
    (by kernel_rfl) (fun s => by kernel_rfl) L2.Uq.run (by kernel_rfl) (by kernel_rfl) (by kernel_rfl) (by rfl) (by first | assumption | decide +kernel) (by decide +kernel) ⟨rfl, rfl, rfl, rfl, rfl, by decide +kernel⟩ ?hw ?hc
  case hw => w_witness2
  case hc =>
    refine L2.Uq.walk_ofX (l := PySem.Challenge.rw_lookrows_k28_rows_as_sequences) (n := 63) (k := 7) (x := "_law_script") (CX := fun w => L2.CX PySem.Challenge.rw_lookrows_k28_rows_as_sequences.prog w) rfl (by decide) (by kernel_rfl) ⟨rfl, by decide, by decide⟩ ?F (fun _ _ _ _ _ z => by obtain ⟨_, _, _, _, _, _, _, _, _, _, _, _, z⟩ := z; exact z)
    intro w mg fa h Y G hmg0
    obtain ⟨K, KX, c⟩ := Y
    have hmg : mg ("law" : PySem.Str) = some (.ref fa) := by
      have e : (HandSHeadRun.topDef (OpenLaw.row PySem.Challenge.rw_lookrows_k28_rows_as_sequences).prog 31).name = ("law" : PySem.Str) := by kernel_rfl
      rw [← e]
      exact hmg0
    obtain ⟨fd, hb, hF⟩ := L2.Uq.facts (P := (PySem.Challenge.rw_lookrows_k28_rows_as_sequences).prog) (w := w) KX G hmg c
    exact ⟨K, fd, L2.Uq.sp_law K, KX, hb, fun H a ns hl _ hS => ⟨a, ns, rfl, hS, fun _ => rfl⟩, hF⟩
