import PyProof.Rows.All
import Wide.All
import OpenK.AllK
import Wide.FinOn
import HandS.ForMost
import HandS.Evl
import HandS.Wide
import HandS.More
import HandS.Slots
import HandS.SlotsOwn
import HandS.ClsMeth
import HandS.Star
import HandS.Codes
import HandS.DictComp
import HandS.SortInts
import HandS.SetBool
import HandS.SetKeys
import HandS.Deep
import HandS.Style
import HandS.IsInst
import KE.KOpsOwn
import KE.KCallOwn
import PyProof.Rows.SetFrom
import PyProof.CompUse
import PySem.Challenge.RW_twozeros_k53_whole_sets_by_meaning
import KE.KSortedM
import HandS.Walk
import KE.Datum
set_option Elab.async false
set_option linter.all false
set_option maxRecDepth 100000
set_option maxHeartbeats 8000000
/-! Rules of my own: defs as callables, static methods, own operators. -/
namespace K53
open PySem PySem.Spec PyProof.Rows L2

/-- a def of the module that may be called by its name -/
structure Cl (P : Program) (w : World) (K : PySem.W.Frag) (mg : Str → Option Value) (base : Heap) (k : Nat) (x : Str) (sp : Sp) : Prop where
  ex : ∃ f : Addr, FnR P w K mg base CX0 k f sp ∧ mg x = some (.ref f) ∧ PySem.W.keepIn K (.ref f) = true
/-- a method of the class at C -/
structure Mt (P : Program) (w : World) (K : PySem.W.Frag) (mg : Str → Option Value) (base : Heap) (k : Nat) (C : Addr) (m : Str) (sp : Sp) : Prop where
  ex : ∃ f : Addr, FnR P w K mg base CX0 k f sp ∧ Meth K C m f
/-- a static method of the class at C -/
structure Sm (P : Program) (w : World) (K : PySem.W.Frag) (mg : Str → Option Value) (base : Heap) (k : Nat) (C : Addr) (m : Str) (sp : Sp) : Prop where
  ex : ∃ (mc : Value) (f p : Addr) (rest : List Value), FnR P w K mg base CX0 k f sp ∧ ClX.CRead K C mc ∧ PySem.W.findCls K (.ref C) mc m = some (.get (.builtin "staticmethod.__get__") (.ref p) .none (.ref C)) ∧
    PySem.W.recIn K p "staticmethod" = some (.ref f :: rest) ∧ PySem.W.keepIn K (.ref f) = true
/-- a class method -/
structure Cm (P : Program) (w : World) (K : PySem.W.Frag) (mg : Str → Option Value) (base : Heap) (k : Nat) (C : Addr) (m : Str) (sp : Sp) : Prop where
  ex : ∃ (mc : Value) (f p : Addr), FnR P w K mg base CX0 k f sp ∧ ClX.CRead K C mc ∧ ClX.CMet K C mc m p f
section
variable {P : Program} {w : World} {K : PySem.W.Frag} {mg : Str → Option Value} {base : Heap} {j k : Nat} {x m : Str} {C : Addr} {sp sp' : Sp}
theorem Cl.mono (c : Cl P w K mg base j x sp) (h : j ≤ k) : Cl P w K mg base k x sp := let ⟨f, F, a, b⟩ := c.ex; ⟨f, F.mono h, a, b⟩
theorem Cl.imp (c : Cl P w K mg base k x sp) (h : ∀ vs H Q E, sp' vs H Q E → sp vs H Q E) : Cl P w K mg base k x sp' := let ⟨f, F, a, b⟩ := c.ex; ⟨f, F.imp h, a, b⟩
theorem cl_mk {f : Addr} {fd : FuncData} {ps : List Str} (F : FnOk P w K mg base CX0 k f fd ps sp) (b : Binds K fd ps []) (hm : mg x = some (.ref f)) (hk : PySem.W.keepIn K (.ref f) = true) : Cl P w K mg base k x sp :=
  ⟨f, (F.raw b .nil).imp fun vs H Q E h => by rw [List.append_nil]; exact h, hm, hk⟩
theorem fnr_mk {f : Addr} {fd : FuncData} {ps : List Str} (F : FnOk P w K mg base CX0 k f fd ps sp) (b : Binds K fd ps []) : FnR P w K mg base CX0 k f sp :=
  (F.raw b .nil).imp fun vs H Q E h => by rw [List.append_nil]; exact h
end

/-- f(..) -/
def tF (sp : Sp) (t : TA) : TE := fun σ H Q => t σ H fun vs H1 => sp vs H1 Q E0
/-- o.m(..), o an instance of the class at C -/
def tM (C : Addr) (m : Str) (sp : Sp) (ta : TE) (t : TA) : TE := fun σ H Q => ta σ H fun x H1 => ∃ a dx fs, x = .ref a ∧ H1 a = some (.ins C dx fs) ∧ fs.lookup m = none ∧ t σ H1 fun vs H2 => sp (x :: vs) H2 Q E0
/-- C.m(..), m static -/
def tS (C : Addr) (sp : Sp) (ta : TE) (t : TA) : TE := fun σ H Q => ta σ H fun x H1 => x = .ref C ∧ t σ H1 fun vs H2 => sp vs H2 Q E0
section
variable {X : Cx} {k j : Nat} {C : Addr} {x m : Str} {sp : Sp} {p pos apos : Pos} {e o : Expr} {es : List Expr} {ta : TE} {t : TA}
theorem pc (c : Cl X.prog X.w X.K X.mg X.base k x sp) (hr : Room j X.A) (hk : k ≤ j) (hg : Gl X x) (ha : PA X (e :: es) t)
    (hdb : (x == ("__debug__" : Str)) = false := by decide) (he : starEach (e :: es) X.env = (false, eval e X.env) :: starEach es X.env := by rfl) (hpl : (backTo pos (starEach es X.env)).any (·.1) = false := by rfl) :
    PE X (.Call (.Name x p) (e :: es) [] pos) (tF sp t) := by
  obtain ⟨f, F, hm, kp⟩ := c.ex
  refine ⟨fun pins s σ H Q I h => ?_⟩
  refine wpAny_Call_Name_kw (ld_glob I hg hm ?_ hdb)
  refine PySem.W.callWith_K (h₀ := X.base) I.ok.mod.kin kp (thn (ha.run pos pins s σ H _ I h) fun us s1 ⟨vs, H1, I1, r, q⟩ => ⟨I1.kIn, ?_⟩) he hpl
  exact wpAny_call (run_fnR (F.mono hk) hr pass0 I1 r q)
theorem pm {pl : Sem Bool} (c : Mt X.prog X.w X.K X.mg X.base k C m sp) (cl : Cls X.K C) (hr : Room j X.A) (hk : k ≤ j) (he : PE X o ta) (ha : PA X (e :: es) t)
    (hst : starEach (e :: es) X.env = (false, eval e X.env) :: starEach es X.env := by rfl) (hpl : (backTo pos (starEach es X.env)).any (·.1) = false := by rfl)
    (ht : eval (.Call (.Attribute o m apos) (e :: es) [] pos) X.env = (do
      let ov ← eval o X.env
      standAt apos.atName
      let (f, first) ← holding [ov] (getMethod ov m pl)
      callWith pos f first (backTo pos (starEach (e :: es) X.env)) (backToKw pos (keywordEach [] X.env))) := by rfl) :
    PE X (.Call (.Attribute o m apos) (e :: es) [] pos) (tM C m sp ta t) := by
  obtain ⟨f, F, hm⟩ := c.ex
  refine ⟨fun pins s σ H Q I h => ?_⟩
  refine PySem.W.methodCall_KW (pl := pl) (thn (he.run pins s σ H _ I h) fun u s1 ⟨x, H1, I1, rx, a, dx, fs, ex, ea, l, q⟩ => ?_) ht
  subst ex
  obtain rfl : u = Value.ref a := rx
  refine getmeth_ok I1 ea cl hm l ?_
  refine PySem.W.callWith_K (first := [.ref a]) (h₀ := X.base) I.ok.mod.kin hm.kp (thn (ha.run pos pins s1 σ H1 _ I1 q) fun us s2 ⟨vs, H2, I2, r, q2⟩ => ⟨I2.kIn, ?_⟩) hst hpl
  exact wpAny_call (run_fnR (us := .ref a :: us) (vs := .ref a :: vs) (F.mono hk) hr pass0 I2 (.cons rfl r) q2)
theorem pm0 {pl : Sem Bool} (c : Mt X.prog X.w X.K X.mg X.base k C m sp) (cl : Cls X.K C) (hr : Room j X.A) (hk : k ≤ j) (he : PE X o ta)
    (ht : eval (.Call (.Attribute o m apos) [] [] pos) X.env = (do
      let ov ← eval o X.env
      standAt apos.atName
      let (f, first) ← holding [ov] (getMethod ov m pl)
      callWith pos f first (backTo pos (starEach [] X.env)) (backToKw pos (keywordEach [] X.env))) := by rfl) :
    PE X (.Call (.Attribute o m apos) [] [] pos) (tM C m sp ta tNil) := by
  obtain ⟨f, F, hm⟩ := c.ex
  refine ⟨fun pins s σ H Q I h => ?_⟩
  refine PySem.W.methodCall_KW (pl := pl) (thn (he.run pins s σ H _ I h) fun u s1 ⟨x, H1, I1, rx, a, dx, fs, ex, ea, l, q⟩ => ?_) ht
  subst ex
  obtain rfl : u = Value.ref a := rx
  refine getmeth_ok I1 ea cl hm l ?_
  exact PySem.W.callWith_K0 (first := [.ref a]) I1.kIn hm.kp (wpAny_call (run_fnR (us := [.ref a]) (vs := [.ref a]) (F.mono hk) hr pass0 I1 (.cons rfl .nil) q))
theorem psm {pl : Sem Bool} (c : Sm X.prog X.w X.K X.mg X.base k C m sp) (hr : Room j X.A) (hk : k ≤ j) (he : PE X o ta) (ha : PA X (e :: es) t)
    (hst : starEach (e :: es) X.env = (false, eval e X.env) :: starEach es X.env := by rfl) (hpl : (backTo pos (starEach es X.env)).any (·.1) = false := by rfl)
    (ht : eval (.Call (.Attribute o m apos) (e :: es) [] pos) X.env = (do
      let ov ← eval o X.env
      standAt apos.atName
      let (f, first) ← holding [ov] (getMethod ov m pl)
      callWith pos f first (backTo pos (starEach (e :: es) X.env)) (backToKw pos (keywordEach [] X.env))) := by rfl) :
    PE X (.Call (.Attribute o m apos) (e :: es) [] pos) (tS C sp ta t) := by
  obtain ⟨mc, f, q0, rest, F, r, at_, hp, kp⟩ := c.ex
  refine ⟨fun pins s σ H Q I h => ?_⟩
  refine PySem.W.methodCall_KW (pl := pl) (thn (he.run pins s σ H _ I h) fun u s1 ⟨x, H1, I1, rx, ex, q⟩ => ?_) ht
  subst ex
  obtain rfl : u = Value.ref C := rx
  refine PySem.W.method_cls I1.kIn r.ga ?_
  refine PySem.W.cls_bind I1.kIn r.rd at_ (wpAny_call (PySem.W.sm_get (s := { s1 with toks := s1.toks + 1 }) I1.kIn hp (PySem.W.handed_on rfl ?_)))
  have I2 : Inv X pins σ H1 { s1 with toks := s1.toks + 1 } := I1.tok _
  refine PySem.W.callWith_K (h₀ := X.base) I.ok.mod.kin kp (thn (ha.run pos pins _ σ H1 _ I2 q) fun us s2 ⟨vs, H2, I3, r3, q2⟩ => ⟨I3.kIn, ?_⟩) hst hpl
  exact wpAny_call (run_fnR (F.mono hk) hr pass0 I3 r3 q2)
/-- C.m(..), m a class method -/
def tC' (C : Addr) (sp : Sp) (ta : TE) (t : TA) : TE := fun σ H Q => ta σ H fun x H1 => x = .ref C ∧ t σ H1 fun vs H2 => sp (.ref C :: vs) H2 Q E0
theorem pcm {pl : Sem Bool} (c : Cm X.prog X.w X.K X.mg X.base k C m sp) (hr : Room j X.A) (hk : k ≤ j) (he : PE X o ta) (ha : PA X (e :: es) t)
    (hst : starEach (e :: es) X.env = (false, eval e X.env) :: starEach es X.env := by rfl) (hpl : (backTo pos (starEach es X.env)).any (·.1) = false := by rfl)
    (ht : eval (.Call (.Attribute o m apos) (e :: es) [] pos) X.env = (do
      let ov ← eval o X.env
      standAt apos.atName
      let (f, first) ← holding [ov] (getMethod ov m pl)
      callWith pos f first (backTo pos (starEach (e :: es) X.env)) (backToKw pos (keywordEach [] X.env))) := by rfl) :
    PE X (.Call (.Attribute o m apos) (e :: es) [] pos) (tC' C sp ta t) := by
  obtain ⟨mc, f, q0, F, r, cm⟩ := c.ex
  exact ClX.pe_cmeth (pl := pl) he r cm (F.mono hk) hr pass0 ha hst hpl ht
/-- a new instance -/
structure Mk' (P : Program) (w : World) (K : PySem.W.Frag) (mg : Str → Option Value) (base : Heap) (k : Nat) (x : Str) (C : Addr) (sp : Sp) : Prop where
  ex : ∃ f : Addr, FnR P w K mg base CX0 k f sp ∧ Mk K C f ∧ mg x = some (.ref C)
theorem pmk (c : Mk' X.prog X.w X.K X.mg X.base k x C sp) (hr : Room j X.A) (hk : k + 1 ≤ j) (hg : Gl X x) (ha : PA X (e :: es) t) (hdb : (x == ("__debug__" : Str)) = false := by decide)
    (he : starEach (e :: es) X.env = (false, eval e X.env) :: starEach es X.env := by rfl) (hpl : (backTo pos (starEach es X.env)).any (·.1) = false := by rfl) : PE X (.Call (.Name x p) (e :: es) [] pos) (StX.tMakeR C sp E0 t) := by
  obtain ⟨f, F, M, hm⟩ := c.ex
  exact StX.pe_makeR M F (hr.mono hk) hg hm pass0 ha hdb he hpl
end

/-! ### own operators -/
section
variable {X : Cx} {C g : Addr} {n : Nat} {sp : Sp}
/-- x op y, both instances of the class at C -/
def rBin (C : Addr) (sp : Sp) : R2 := fun x y H Q => ∃ a b dx dy fs gs, x = .ref a ∧ y = .ref b ∧ H a = some (.ins C dx fs) ∧ H b = some (.ins C dy gs) ∧ sp [x, y] H Q E0
def rUn (C : Addr) (sp : Sp) : V → Hp → VK → Prop := fun x H Q => ∃ a dx fs, x = .ref a ∧ H a = some (.ins C dx fs) ∧ sp [x] H Q E0
/-- x in y, y an instance; its __contains__ answers a bool -/
def rCont (C : Addr) (sp : Sp) : R2 := fun x y H Q => ∃ b dx fs, y = .ref b ∧ H b = some (.ins C dx fs) ∧ sp [y, x] H (fun z H' => ∃ k, z = .bl k ∧ Q (.bl k) H') E0
theorem inst_of {pins : List (Addr × Obj)} {σ : L2.St} {H : Hp} {s : Shared} {a dx : Addr} {fs : List (Str × V)} (I : Inv X pins σ H s) (h : H a = some (.ins C dx fs)) : ∃ od, PySem.W.InstAt s.heap a (PySem.W.instObj C dx) C (some od) := by
  obtain ⟨mA, O, rr, _, _, _⟩ := ins_get I.hok h
  obtain ⟨od, J, hl⟩ := O.look
  exact ⟨od, J⟩
theorem op_bin {op : Operator} (hc : PySem.W.selfFirst X.K C = true) (hs : PySem.W.findIn X.K (.ref C) (PySem.dunder op.info.2) = some (some (.ref g))) (hf : PySem.W.isFn X.K (.ref g) = true) (F : FnR X.prog X.w X.K X.mg X.base CX0 n g sp)
    (hr : Room n X.A) : OpR X (binaryOp op) (rBin C sp) := by
  intro pins s σ H x y v u Q I rx ry h
  obtain ⟨a, b, dx, dy, fs, gs, rfl, rfl, ha, hb, q⟩ := h
  obtain rfl : v = Value.ref a := rx
  obtain rfl : u = Value.ref b := ry
  obtain ⟨od, J⟩ := inst_of I ha
  obtain ⟨od', J'⟩ := inst_of I hb
  obtain ⟨m, hF⟩ := I.fr
  refine PySem.W.binop_K hF I.ok.mod.kin J J'.type hc hs hf ?_
  refine wpAny_mono (wpAny_call (run_fnR (us := [.ref a, .ref b]) (vs := [.ref a, .ref b]) F hr pass0 I (.cons rfl (.cons rfl .nil)) q)) (fun w s' z => ?_) fun _ _ x => x
  obtain ⟨z', H', I', rz, qz⟩ := z
  exact SlX.cmpback rz ⟨z', H', I', rz, qz⟩
theorem op_cmp {op : CmpOp} (hop : ∀ a b, compareOp op a b = richCompare op a b) (hn : PySem.W.notFirst X.K C (.ref C) = true) (hs : PySem.W.findIn X.K (.ref C) (cmpInfo op).2.1 = some (some (.ref g))) (hf : PySem.W.isFn X.K (.ref g) = true)
    (F : FnR X.prog X.w X.K X.mg X.base CX0 n g sp) (hr : Room n X.A) : OpR X (compareOp op) (rBin C sp) := by
  intro pins s σ H x y v u Q I rx ry h
  obtain ⟨a, b, dx, dy, fs, gs, rfl, rfl, ha, hb, q⟩ := h
  obtain rfl : v = Value.ref a := rx
  obtain rfl : u = Value.ref b := ry
  obtain ⟨od, J⟩ := inst_of I ha
  obtain ⟨od', J'⟩ := inst_of I hb
  obtain ⟨m, hF⟩ := I.fr
  rw [hop]
  refine PySem.W.cmp_K (op := op) (tb := .ref C) hr.units0 hF I.ok.mod.kin J J'.type hn hs hf ?_
  refine wpAny_mono (wpAny_call (run_fnR (us := [.ref a, .ref b]) (vs := [.ref a, .ref b]) F hr pass0 I (.cons rfl (.cons rfl .nil)) q)) (fun w s' z => ?_) fun _ _ x => x
  obtain ⟨z', H', I', rz, qz⟩ := z
  exact SlX.cmpback rz ⟨z', H', I', rz, qz⟩
theorem un_own (hs : PySem.W.findIn X.K (.ref C) "__invert__" = some (some (.ref g))) (hf : PySem.W.isFn X.K (.ref g) = true) (F : FnR X.prog X.w X.K X.mg X.base CX0 n g sp) (hr : Room n X.A) : UnR X (unaryOp .Invert) (rUn C sp) := by
  intro pins s σ H x v Q I rx h
  obtain ⟨a, dx, fs, rfl, ha, q⟩ := h
  obtain rfl : v = Value.ref a := rx
  obtain ⟨od, J⟩ := inst_of I ha
  obtain ⟨m, hF⟩ := I.fr
  exact PySem.W.ksp_inv hF I.ok.mod.kin J hs hf (wpAny_call (run_fnR (us := [.ref a]) (vs := [.ref a]) F hr pass0 I (.cons rfl .nil) q))
theorem op_cont (hs : PySem.W.findIn X.K (.ref C) "__contains__" = some (some (.ref g))) (hf : PySem.W.isFn X.K (.ref g) = true) (F : FnR X.prog X.w X.K X.mg X.base CX0 n g sp) (hr : Room n X.A) : OpR X (compareOp .In) (rCont C sp) := by
  intro pins s σ H x y v u Q I rx ry h
  obtain ⟨b, dx, fs, rfl, hb, q⟩ := h
  obtain rfl : u = Value.ref b := ry
  obtain ⟨od, J⟩ := inst_of I hb
  obtain ⟨m, hF⟩ := I.fr
  refine PySem.W.in_K hF I.ok.mod.kin J hs hf ?_
  refine thn (wpAny_call (run_fnR (us := [.ref b, v]) (vs := [.ref b, x]) F hr pass0 I (.cons rfl (.cons rx .nil)) q)) (fun w s' z => ?_)
  obtain ⟨z', H', I', rz, k, ez, qz⟩ := z
  subst ez
  cases rz
  exact wpAny_truthy_bool ⟨.bl k, H', I', rfl, qz⟩
/-- str(o), o an instance with its own __str__ -/
def rStrOwn (C : Addr) (sp : Sp) : List V → Hp → VK → Prop := fun xs H Q => ∃ a dx fs, xs = [V.ref a] ∧ H a = some (.ins C dx fs) ∧ sp [.ref a] H (fun z H' => ∃ t, z = .str t ∧ Q z H') E0
theorem call_strOwn (hs : PySem.W.findIn X.K (.ref C) "__str__" = some (some (.ref g))) (hf : PySem.W.isFn X.K (.ref g) = true) (F : FnR X.prog X.w X.K X.mg X.base CX0 n g sp) (hr : Room (n + 2) X.A) : CallR X (.type "str") (rStrOwn C sp) := by
  intro pins s σ H xs us Q I r h
  obtain ⟨a, dx, fs, rfl, ha, q⟩ := h
  obtain ⟨u, rfl, ru⟩ := r.one
  cases (show u = Value.ref a from ru)
  obtain ⟨od, J⟩ := inst_of I ha
  have hr2 : Room n X.A.in1.in1 := (show Room (n + 1) X.A.in1 from Room.in1 hr).in1
  refine PySem.W.kso_call hr2.units0 I.kIn J hs hf (wpAny_mono (wpAny_call (SlX.run_at (us := [.ref a]) (ws := [.ref a]) F hr2 I.env0.in1.in1 pass0 I (.cons rfl .nil) q)) (fun w s' z => ?_) fun _ _ x => x)
  obtain ⟨z', H', I', rz, t, ez, qz⟩ := z
  subst ez
  obtain ⟨tk, e⟩ := (show ∃ tk, w = Value.str t tk from rz)
  cases e
  exact ⟨.str t, H', I', ⟨tk, rfl⟩, qz⟩
end
end K53
/-! x != y by an own __eq__ (no own __ne__) -/
namespace K53
open PySem PySem.Spec PyProof.Rows L2
section
variable {prog : Program} {w : World} {A : Around} {E : Value → Shared → Prop} {s : Shared} {K : PySem.W.Frag} {x C f : Addr} {ox : Obj} {od : Option Obj} {v : Value}
theorem ifBound_B {name : Str} {id : String} {args : List Value} {Q : Option Value → Shared → Prop} (X : K.In s.heap) (I : PySem.W.InstAt s.heap x ox C od) (hs : PySem.W.findIn K (.ref C) name = some (some (.builtin id)))
    (hb : ∀ self, bindSpecial (.builtin id) self = pure (.builtin id, [self])) (h : wpAny (model prog w) A (call (.builtin id) (.ref x :: args)) (fun v => Q (some v)) E s) : wpAny (model prog w) A (callSpecialIfBound? (.ref x) name args) Q E s := by
  simp only [callSpecialIfBound?, bindSpecialIfBound?]
  refine wpAny_holding (wpAny_bind (wpAny_bind (wpAny_bind (I.type.here ((PySem.W.looks_findIn X hs).here ?_)))))
  refine wpAny_bind (wpAny_askSetting (wpAny_ite ?_))
  have fin : wpAny (model prog w) A (call (.builtin id) ([.ref x] ++ args) >>= fun v => pure (some v)) Q E s := wpAny_bind (wpAny_mono h (fun v s' h' => wpAny_pure h') fun _ _ h' => h')
  split
  · exact wpAny_bind ((PySem.W.Looks.of_pure (hb _)).here (wpAny_pure (by exact fin)))
  · exact wpAny_tryCatch (wpAny_bind ((PySem.W.Looks.of_pure (hb _)).here (wpAny_pure (by exact fin))))
open Builtin in
theorem one_ne {Q : Value → Shared → Prop} (hu : A.in1.units < cLine) (X : K.In s.heap) (I : PySem.W.InstAt s.heap x ox C od) (hm : PySem.W.mroIn K C (.type "object") = some true) (hr : PySem.W.findIn K (.ref C) "__eq__" = some (some (.ref f))) (hf : PySem.W.isFn K (.ref f) = true)
    (h : wpAny (model prog w) A.in1 (call (.ref f) [.ref x, v]) (fun r s' => ∃ k, r = .bool k ∧ Q (.bool (!k)) s') E s) : wpAny (model prog w) A (call (.builtin "object.__ne__") [.ref x, v]) Q E s := by
  refine wpAny_call (codeAny_call_builtin PySem.F.cmp_object.ne.plain PySem.F.cmpEntry_ne (PySem.W.check_slot (i := "object.__ne__") (owner := "object") (n := "__ne__") (by decide +kernel) (by decide +kernel) (I.type.andThen (PySem.W.looks_mroIn X hm)) (PySem.F.cmpArgs_ne _ _) ?_))
  unfold Builtin.«object.__ne__»
  refine wpAny_bind (m := slotArgs "__ne__" 1 _) (wpAny_pure ?_)
  refine wpAny_bind (m := cRoomFor _ _) (wpAny_cRoomFor hu ?_)
  refine wpAny_bind (m := callSpecialIfBound? (.ref x) (Str.ofString "__eq__") _) (PySem.W.ifBound_K X I hr hf (wpAny_mono h (fun r s' hq => ?_) fun _ _ y => y))
  obtain ⟨k, rfl, hq⟩ := hq
  first
    | exact wpAny_bind (wpAny_truthy_bool (wpAny_pure hq))
    | exact wpAny_bind (wpAny_bind (wpAny_truthy_bool (wpAny_pure (wpAny_pure hq))))
    | exact wpAny_bind (wpAny_truthy_bool (wpAny_bind (wpAny_pure (wpAny_pure hq))))
theorem ne_own {L : Addr} {h₀ : Heap} {m : Str → Option Value} {tb : Value} {Q : Value → Shared → Prop} (hu : A.units + 1 < cLine) (F : Fr h₀ L s.heap m) (X₀ : K.In h₀) (I : PySem.W.InstAt s.heap x ox C od) (hb : PySem.W.Looks (model prog w) s.heap (typeOf v) tb) (hn : PySem.W.notFirst K C tb = true)
    (hs : PySem.W.findIn K (.ref C) "__ne__" = some (some (.builtin "object.__ne__"))) (hm : PySem.W.mroIn K C (.type "object") = some true) (hr : PySem.W.findIn K (.ref C) "__eq__" = some (some (.ref f))) (hf : PySem.W.isFn K (.ref f) = true)
    (h : wpAny (model prog w) A.in1 (call (.ref f) [.ref x, v]) (fun r s' => ∃ k, r = .bool k ∧ Q (.bool (!k)) s') E s) : wpAny (model prog w) A (richCompare .NotEq (.ref x) v) Q E s := by
  have X := X₀.keeps F.keep
  have one : wpAny (model prog w) A (tryCompare (.ref x) (cmpInfo .NotEq).2.1 v) (fun r s' => ∃ k, r = some (.bool k) ∧ Q (.bool k) s') E s := by
    unfold tryCompare
    have two : wpAny (model prog w) A (callSpecialIfBound? (.ref x) (Str.ofString "__ne__") [v]) (fun r s' => ∃ k, r = some (.bool k) ∧ Q (.bool k) s') E s :=
      ifBound_B X I hs PySem.F.cmp_object.ne.bind (wpAny_mono (one_ne (Q := fun v s' => ∃ k, v = .bool k ∧ Q (.bool k) s') hu X I hm hr hf (wpAny_mono h (fun r s' hq => by
        obtain ⟨k, rfl, hq⟩ := hq
        exact ⟨k, rfl, !k, rfl, hq⟩) fun _ _ e => e)) (fun r s' hv => by
        obtain ⟨k, rfl, hq⟩ := hv
        exact ⟨k, rfl, hq⟩) fun _ _ e => e)
    refine wpAny_bind (m := callSpecialIfBound? (.ref x) (Str.ofString "__ne__") [v]) (wpAny_mono two (fun r s' hv => ?_) fun _ _ e => e)
    obtain ⟨k, rfl, hq⟩ := hv
    exact wpAny_pure ⟨k, rfl, hq⟩
  unfold richCompare
  simp only [oneThing_ref]
  refine wpAny_holding (wpAny_bind (wpAny_cRoomFor (Nat.lt_of_succ_lt hu) ?_))
  refine wpAny_bind (I.type.here (wpAny_bind (hb.here ?_)))
  split
  · rename_i q
    have e : PySem.W.subIn K tb (.ref C) = some false := by
      rcases Bool.or_eq_true_iff.mp hn with e | e
      · rw [beq_iff_eq.mp e] at q; simp at q
      · exact beq_iff_eq.mp e
    refine wpAny_bind ((PySem.W.looks_subIn X e).here ?_)
    simp only [Bool.false_eq_true, if_false]
    refine wpAny_bind (wpAny_mono one (fun r s' z => ?_) fun _ _ e => e)
    obtain ⟨k, rfl, hq⟩ := z
    exact wpAny_pure hq
  · refine wpAny_bind (wpAny_pure ?_)
    simp only [Bool.false_eq_true, if_false]
    refine wpAny_bind (wpAny_mono one (fun r s' z => ?_) fun _ _ e => e)
    obtain ⟨k, rfl, hq⟩ := z
    exact wpAny_pure hq
end
section
variable {X : Cx} {C g : Addr} {n : Nat} {sp : Sp}
/-- x != y, both instances of the class at C, which has an own __eq__ that answers a bool -/
def rNeO (C : Addr) (sp : Sp) : R2 := fun x y H Q => ∃ a b dx dy fs gs, x = .ref a ∧ y = .ref b ∧ H a = some (.ins C dx fs) ∧ H b = some (.ins C dy gs) ∧ sp [x, y] H (fun z H' => ∃ k, z = .bl k ∧ Q (.bl (!k)) H') E0
theorem op_neO (hn : PySem.W.notFirst X.K C (.ref C) = true) (hs : PySem.W.findIn X.K (.ref C) "__ne__" = some (some (.builtin "object.__ne__"))) (hm : PySem.W.mroIn X.K C (.type "object") = some true) (hr' : PySem.W.findIn X.K (.ref C) "__eq__" = some (some (.ref g)))
    (hf : PySem.W.isFn X.K (.ref g) = true) (F : FnR X.prog X.w X.K X.mg X.base CX0 n g sp) (hr : Room (n + 1) X.A) : OpR X (compareOp .NotEq) (rNeO C sp) := by
  intro pins s σ H x y v u Q I rx ry h
  obtain ⟨a, b, dx, dy, fs, gs, rfl, rfl, ha, hb, q⟩ := h
  obtain rfl : v = Value.ref a := rx
  obtain rfl : u = Value.ref b := ry
  obtain ⟨od, J⟩ := inst_of I ha
  obtain ⟨od', J'⟩ := inst_of I hb
  obtain ⟨m, hF⟩ := I.fr
  show wpAny (model X.prog X.w) X.A (richCompare .NotEq (.ref a) (.ref b)) (EP X pins σ Q) X.xe s
  refine ne_own (tb := .ref C) (by have := hr.units; omega) hF I.ok.mod.kin J J'.type hn hs hm hr' hf ?_
  refine wpAny_mono (wpAny_call (SlX.run_at (us := [.ref a, .ref b]) (ws := [.ref a, .ref b]) F hr.in1 I.env0.in1 pass0 I (.cons rfl (.cons rfl .nil)) q)) (fun w s' z => ?_) fun _ _ x => x
  obtain ⟨z', H', I', rz, k, ez, qz⟩ := z
  subst ez
  cases rz
  exact ⟨k, rfl, .bl (!k), H', I', rfl, qz⟩
end
end K53
/-! len(set(xs)), xs a list of truth values (the steps as for a list of ints, told of the kind of bools) -/
namespace K53S
open PySem PySem.Spec PyProof.Rows PpSet
/-- how many different ones -/
def cntB (l : List Bool) : Nat := (if l.contains true then 1 else 0) + (if l.contains false then 1 else 0)
theorem cntB_le (l : List Bool) : cntB l ≤ 2 := by
  unfold cntB
  split <;> split <;> omega
theorem contains_snoc (l : List Bool) (b k : Bool) : (l ++ [b]).contains k = (l.contains k || decide (k = b)) := by
  rw [List.contains_append]
  cases k <;> cases b <;> simp
theorem cntB_snoc (l : List Bool) (b : Bool) : cntB (l ++ [b]) = if l.contains b then cntB l else cntB l + 1 := by
  unfold cntB
  rw [contains_snoc, contains_snoc]
  cases b <;> cases l.contains true <;> cases l.contains false <;> rfl
section
variable {prog : Program} {w : World} {A : Around} {R : Result → Shared → Prop} {I : Addr} {fp wr : List Addr} {G : Array GenState → Array GenState → Prop} {n : Nat} {P : Nat → Value → Prop} {St : Nat → Shared → Prop}
theorem loopB (W : WalksS prog w A.in1 I fp wr G n P St) (S : Addr) (hSf : S ∉ fp) (bs : List Bool) (hn : bs.length = n)
    (hval : ∀ (i : Nat) (v : Value), P i v → ∃ b, bs[i]? = some b ∧ v = Value.bool b) :
    ∀ (k i : Nat) (s : Shared), n - i = k → i ≤ n → St i s →
      s.heap.SetOf (boolK prog w) S (fun k' => (bs.take i).contains k') (cntB (bs.take i)) →
      (∀ s', Moved (S :: wr) G s s' → s'.heap.SetOf (boolK prog w) S (fun k' => bs.contains k') (cntB bs) → R (.ok (.ret .none)) s') →
      codeAny (model prog w) A (.builtin "set.update.loop" ⟨[.ref S, .ref I], []⟩) R s := by
  have hSw : S ∉ wr := fun h => hSf (W.sub _ h)
  have hsub : ∀ b ∈ wr, b ∈ S :: wr := fun b hb => List.mem_cons_of_mem _ hb
  intro k
  induction k with
  | zero =>
    intro i s hk hi hst hS hR
    obtain rfl : i = n := by omega
    refine codeAny_builtin F.entry_set_update_loop ?_
    rw [Around.under_plainId F.plain_set_update_loop _]
    show wpAny _ A.in1 (pyNext (.ref I) >>= _) _ _ s
    refine wpAny_bind (W.done s _ _ hst fun s' hm => ?_)
    show wpAny _ A.in1 (ret Value.none) _ _ s'
    rw [List.take_of_length_le (Nat.le_of_eq hn)] at hS
    obtain ⟨o, es, ep, t, ho, rest⟩ := hS
    exact wpAny_pure (hR s' (hm.mono hsub) ⟨o, es, ep, t, hm.heap S _ hSw ho, rest⟩)
  | succ k ih =>
    intro i s hk hi hst hS hR
    have hlt : i < n := by omega
    refine codeAny_builtin F.entry_set_update_loop ?_
    rw [Around.under_plainId F.plain_set_update_loop _]
    show wpAny _ A.in1 (pyNext (.ref I) >>= _) _ _ s
    refine wpAny_bind (W.item i s _ _ hlt hst fun v s' hP hst' hm => ?_)
    obtain ⟨b, hb, rfl⟩ := hval i v hP
    obtain ⟨o, es, ep, tb, ho, rest⟩ := hS
    have hS' : s'.heap.SetOf (boolK prog w) S (fun k' => (bs.take i).contains k') (cntB (bs.take i)) := ⟨o, es, ep, tb, hm.heap S _ hSw ho, rest⟩
    show wpAny _ A.in1 (holding [Value.bool b] (setAdd S (.bool b)) >>= _) _ _ s'
    refine wpAny_bind (wpAny_holding ?_)
    unfold setAdd
    refine wpAny_holding (wpAny_bind ((boolK prog w).pyHash (k := b) (boolK_is _ _ _) ?_))
    have hroom : cntB (bs.take i) + 1 < scanBound := by
      have := cntB_le (bs.take i)
      unfold scanBound
      omega
    have key : ∀ s2 : Shared, s2.heap = s'.heap → wpAny (model prog w) A.in1 (setAddHashed S (.bool b) ((boolK prog w).hash b)) (fun _ s3 => ∃ h', s3 = { s2 with heap := h' } ∧ Heap.SameBut S s'.heap h' ∧ h'.SetOf (boolK prog w) S (fun k' => (bs.take (i + 1)).contains k') (cntB (bs.take (i + 1)))) (fun e s3 => R (.error e) s3) s2 := fun s2 e2 => by
      refine wpAny_setAddHashed_of (knd := boolK prog w) (s := s2) (boolK_is _ _ _) rfl (by rw [e2]; exact hS') hroom fun h' hsb hS2 => ?_
      refine ⟨h', rfl, by rw [← e2]; exact hsb, SetOf_congr hS2 (fun k' => ?_) ?_⟩
      · rw [List.take_add_one, hb]
        exact (contains_snoc _ _ _).symm
      · rw [List.take_add_one, hb]
        exact (cntB_snoc _ _).symm
    refine wpAny_mono (key _ rfl) (fun _ s3 q => ?_) fun _ _ x => x
    obtain ⟨h', rfl, hsb, hSi⟩ := q
    refine wpAny_pure ⟨plainId_quiet F.plain_set_update_loop _, ih (i + 1) _ (by omega) hlt (W.frame _ s' _ _ hst' (by first | exact Nat.le_refl _ | exact Nat.le_succ _) fun c hc o e => ?_) hSi fun s'' hm'' hS'' => ?_⟩
    · rw [hsb.2 c (fun h : c = S => hSf (by rw [← h]; exact hc))]; exact e
    · refine hR s'' (Moved.trans W.gtrans ((hm.mono hsub).then_heap (by first | exact Nat.le_refl _ | exact Nat.le_succ _) fun c o hc e => ?_) hm'') hS''
      rw [hsb.2 c (fun h : c = S => hc (by rw [h]; exact List.mem_cons_self))]; exact e
end
section
variable {prog : Program} {w : World} {A : Around} {E : Value → Shared → Prop} {s : Shared}
abbrev fresh0 (led : Bool) : Obj := { cls := .type "set", dict := none, data := .set #[] 0 (.fresh 0 0 led) }
theorem call_set_bools {l : Addr} {items : Array Value} {bs : List Bool} {Q : Value → Shared → Prop}
    (hh : A.handled = none) (hl : s.heap.IsList l items) (hlen : bs.length = items.size) (hi : ∀ (i : Nat) (v : Value), items[i]? = some v → ∃ b, bs[i]? = some b ∧ v = Value.bool b)
    (h : ∀ (h' : Heap) (tk : Nat), h'.SetOf (boolK prog w) s.heap.objs.size (fun k' => bs.contains k') (cntB bs) →
      (∀ b o, b < s.heap.objs.size → s.heap.get? b = some o → h'.get? b = some o) → Q (.ref s.heap.objs.size) { s with heap := h', toks := tk }) :
    wpAny (model prog w) A (call (.type "set") [.ref l]) Q E s := by
  obtain ⟨c, tl, hmro⟩ := PySem.F.called_set.mro
  have hmade := PySem.F.called_set.made
  have hsub := PySem.F.called_set.sub
  refine wpAny_call (codeAny_of_tree ?_)
  show wpAny _ _ (callAny (.type "set") _) _ _ _
  refine wpAny_pure ⟨Code.quiet_builtin _ (by decide +kernel), codeAny_builtin PySem.F.entry_type_call ?_⟩
  rw [Around.under_plain (weight_type_call_type "set" [.ref l] []) rfl]
  have h1 := PySem.F.called_set.notType
  have h2 := PySem.F.called_set.canCreate
  have hct := PySem.F.typeCall_set_1 (.ref l)
  repeat (any_goals (first | assumption | wp_step))
  refine codeAny_mono (code_set_new_1 (.ref l) (E := E) (Q₁ := fun obj s₁ => ∃ led : Bool, obj = .ref s.heap.objs.size ∧ s₁ = { s with heap := s.heap.push (fresh0 led) }) fun led => ⟨led, rfl, rfl⟩) fun r s₁ hr => ?_
  cases r with
  | error e => exact hr
  | ok fl =>
    cases fl with
    | ret obj =>
      obtain ⟨led, rfl, rfl⟩ := hr
      have hS : (s.heap.push (fresh0 led)).get? s.heap.objs.size = some (fresh0 led) := Heap.get?_push_size _ rfl
      have hT : Shared.TypeIs { s with heap := s.heap.push (fresh0 led) } (.ref s.heap.objs.size) "set" := ⟨_, hS, rfl⟩
      have hli := PySem.F.called_set.init.lookup
      have hbi := PySem.F.called_set.init.bind (.ref s.heap.objs.size)
      repeat (any_goals (first | assumption | wp_step))
      refine codeAny_mono (codeAny_call_builtin (R := wants (fun r s₂ => r = .none ∧ ∃ h' tk, s₂ = { s with heap := h', toks := tk } ∧
          h'.SetOf (boolK prog w) s.heap.objs.size (fun k' => bs.contains k') (cntB bs) ∧
          (∀ b o, b < s.heap.objs.size → s.heap.get? b = some o → h'.get? b = some o)) E) PySem.F.called_set.init.plain PySem.F.entry_set_init (check_set_init_1 hT ?_)) fun r₂ s₂ hr₂ => ?_
      · obtain ⟨ol, hol, hcl, nl, hdl⟩ := hl
        obtain ⟨ocls, odict, odata, oslots⟩ := ol
        simp only at hcl hdl
        subst hcl; subst hdl
        have hol' : (s.heap.push (fresh0 led)).get? l = some { cls := .type "list", dict := odict, data := .seq items nl, slots := oslots } := Heap.get?_push_of_some _ hol
        have hsls := PySem.F.sub_list_set
        have hslf := PySem.F.sub_list_frozenset
        have hne : (Value.type "list" == Value.type "dict") = false := by decide
        have hl1 : (s.heap.push (fresh0 led)).IsList l items := ⟨_, hol', rfl, nl, rfl⟩
        unfold Builtin.«set.__init__» noKeywords Builtin.Frozenset.updateFrom
        generalize hPI : pyIter = PI
        wp_walk
        subst hPI
        refine wpAny_pyIter_list hl1 ?_
        refine wpAny_bind (wpAny_runValue ?_)
        have hlS : l < s.heap.objs.size := Heap.lt_size hol
        have hh3 : A.in1.in1.in1.handled = none := by simp [hh]
        have szp : (s.heap.push (fresh0 led)).objs.size = s.heap.objs.size + 1 := Heap.size_push _ _
        have hneI : l ≠ (s.heap.push (fresh0 led)).objs.size := by
          rw [szp]; exact Nat.ne_of_lt (Nat.lt_succ_of_lt hlS)
        have hSf : s.heap.objs.size ∉ [(s.heap.push (fresh0 led)).objs.size, l] := by
          rw [szp]; simp only [List.mem_cons, List.mem_singleton, List.not_mem_nil, or_false, not_or]
          exact ⟨Nat.ne_of_lt (Nat.lt_succ_self _), Nat.ne_of_gt hlS⟩
        refine loopB ((Walks.list hh3 _ l hneI items).toS) s.heap.objs.size hSf bs hlen hi (items.size - 0) 0 _ (by omega) (Nat.zero_le _)
          ⟨⟨_, Heap.get?_push_size _ rfl, rfl, rfl⟩, (hl1.push _)⟩ ?hS0 ?hR
        case hS0 =>
          have hget : ((s.heap.push (fresh0 led)).push { cls := .type "list_iterator", data := .fields #[.ref l, .int 0 0] }).get? s.heap.objs.size = some (fresh0 led) := Heap.get?_push_of_some _ hS
          exact SetOf_congr ((setObjOf_fresh (knd := boolK prog w) led).setOf hget (by unfold scanBound; omega)) (fun _ => rfl) rfl
        case hR =>
          intro s' hm hS'
          obtain ⟨h', g', d', tk', os'⟩ := s'
          have eg : g' = s.gens := hm.gens
          have ed : d' = s.drawn := hm.drawn
          have eo : os' = s.os := hm.os
          subst eg; subst ed; subst eo
          show wpAny _ _ _ _ _ _
          refine wpAny_pure ?_
          show wpAny _ _ (ret Value.none) _ _ _
          refine wpAny_pure ⟨rfl, h', tk', rfl, hS', fun b o hb e => ?_⟩
          have hb1 : b ≠ s.heap.objs.size := Nat.ne_of_lt hb
          have hb2 : b ≠ (s.heap.push (fresh0 led)).objs.size := by
            rw [szp]; exact Nat.ne_of_lt (Nat.lt_succ_of_lt hb)
          exact hm.heap b o (by simp only [List.mem_cons, List.mem_singleton, List.not_mem_nil, or_false, not_or]; exact ⟨hb1, hb2⟩) (Heap.get?_push_of_some _ (Heap.get?_push_of_some _ e))
      · cases r₂ with
        | error e => exact hr₂
        | ok fl₂ =>
          cases fl₂ with
          | ret r =>
            obtain ⟨rfl, h', tk, rfl, hS', hk'⟩ := hr₂
            repeat (any_goals (first | assumption | wp_step))
            exact h _ _ hS' hk'
          | _ => exact hr₂.elim
    | _ => exact hr.elim
end
end K53S
namespace K53
open PySem PySem.Spec PyProof.Rows L2
def tLenSetB (K : PySem.W.Frag) (ta : TE) : TE := fun σ H Q => ta σ H fun x H1 => ∃ (l : Addr) (bs : List Bool), x = .ref l ∧ SqL K H1 l (bs.map V.bl) ∧ Q (.int (K53S.cntB bs : Nat)) H1
theorem bools_vals : ∀ {bs : List Bool} {us : List Value}, Vals (bs.map V.bl) us → us = bs.map Value.bool
  | [], _, .nil => rfl
  | b :: bs, _, .cons r t => by
    cases r
    rw [bools_vals t] <;> rfl
theorem pe_lenSetB {X : Cx} {K : PySem.W.Frag} {a : Expr} {ta : TE} {p p2 q pos : Pos} (h : X.K = K) (hg : Gl X "len") (hm : X.mg "len" = none) (hg2 : Gl X "set") (hm2 : X.mg "set" = none) (ha : PE X a ta) (hc : X.calm = true := by rfl)
    (na : starEach [a] X.env = (false, eval a X.env) :: starEach [] X.env := by rfl) : PE X (.Call (.Name "len" p) [.Call (.Name "set" p2) [a] [] q] [] pos) (tLenSetB K ta) := by
  subst h
  refine ⟨fun pins s σ H Q I h => ?_⟩
  refine Call_ (ld_blt I hg hm boot_len ?_)
  refine PyProof.Rows.callWith_builtin1 (PyProof.Rows.args_cons ?_ rfl) rfl rfl
  refine Call_ (ld_blt (u := .type "set") I hg2 hm2 boot_set ?_)
  refine PyProof.Rows.callWith_type1 (PyProof.Rows.args_cons (thn (ha.run pins s σ H _ I h) fun v s1 ⟨x, H1, I1, r1, q1⟩ => PyProof.Rows.args_nil ?_) na) na rfl
  obtain ⟨l, bs, rfl, hq, q1⟩ := q1
  cases r1
  obtain ⟨its, r, pl, hz⟩ := I1.list hq
  have eits := bools_vals r
  subst eits
  refine K53S.call_set_bools (bs := bs) (I1.ok.hd hc) pl.isList (by simp) (fun i v hv => ?_) fun h' tk hS hk => ?_
  · rw [Array.getElem?_toList.symm] at hv
    simp only [List.toList_toArray, List.getElem?_map] at hv
    cases e : bs[i]? with
    | none => rw [e] at hv; cases hv
    | some b =>
      rw [e] at hv
      exact ⟨b, rfl, (Option.some.inj hv).symm⟩
  refine PyProof.Rows.args_nil ?_
  obtain ⟨o, es, ep, t, ho, hex, hd, _, _, _, hf, hn⟩ := hS
  have I2 : Inv X pins σ H1 { s1 with heap := h', toks := tk } := I1.kept fun b o e => hk b o (Heap.lt_size e) e
  have hle := K53S.cntB_le bs
  exact call_len_set ho hex hd hf (by rw [hn] <;> omega) ⟨.int (K53S.cntB bs : Nat), H1, I2.tok _, ⟨_, by rw [hn]⟩, q1⟩
end K53
/-! The mathematics: sets of widths told by a tail over the divisors of 120. No program here. -/
namespace M53
/-! ### the divisors of 120 -/
def D : List Nat := [1, 2, 3, 4, 5, 6, 8, 10, 12, 15, 20, 24, 30, 40, 60, 120]
def dv (n : Nat) : List Nat := D.filter fun d => n % d == 0
def pf (n : Nat) : List Nat := [2, 3, 5].filter fun p => n % p == 0
theorem D_all : ∀ n : Nat, n < 121 → 0 < n → 120 % n = 0 → n ∈ D := by decide +kernel
theorem mem_D {n : Nat} : n ∈ D ↔ n ∣ 120 := by
  constructor
  · intro h
    have : ∀ n ∈ D, n ∣ 120 := by decide
    exact this n h
  · intro h
    exact D_all n (Nat.lt_succ_of_le (Nat.le_of_dvd (by decide) h)) (Nat.pos_of_dvd_of_pos h (by decide)) (Nat.mod_eq_zero_of_dvd h)
theorem dvd_of_mod {a b : Nat} (h : (a % b == 0) = true) : b ∣ a := Nat.dvd_of_mod_eq_zero (beq_iff_eq.mp h)
theorem mod_of_dvd {a b : Nat} (h : b ∣ a) : (a % b == 0) = true := beq_iff_eq.mpr (Nat.mod_eq_zero_of_dvd h)
theorem mem_dv {n d : Nat} (h : n ∣ 120) : d ∈ dv n ↔ d ∣ n := by
  unfold dv
  rw [List.mem_filter]
  exact ⟨fun q => dvd_of_mod q.2, fun q => ⟨mem_D.mpr (Nat.dvd_trans q h), mod_of_dvd q⟩⟩
theorem dv_nodup (n : Nat) : (dv n).Nodup := by
  unfold dv
  exact List.Nodup.sublist List.filter_sublist (by decide)
theorem D_sorted : D.Pairwise (· < ·) := by decide
theorem dv_sorted (n : Nat) : (dv n).Pairwise (· < ·) := List.Pairwise.sublist List.filter_sublist D_sorted
theorem pos120 {n : Nat} (h : n ∣ 120) : 0 < n := Nat.pos_of_dvd_of_pos h (by decide)
theorem le120 {n : Nat} (h : n ∣ 120) : n ≤ 120 := Nat.le_of_dvd (by decide) h
theorem gcd120 (n : Nat) : Nat.gcd n 120 ∣ 120 := Nat.gcd_dvd_right _ _
theorem gcd_of_gcd {w L M : Nat} (h : L ∣ M) : Nat.gcd (Nat.gcd w M) L = Nat.gcd w L := by
  rw [Nat.gcd_assoc, Nat.gcd_eq_right h]
theorem gcd_add_mul {w L M : Nat} (k : Nat) (h : L ∣ M) : Nat.gcd (w + M * k) L = Nat.gcd w L := by
  obtain ⟨c, rfl⟩ := h
  rw [Nat.mul_assoc, Nat.gcd_comm, Nat.gcd_add_mul_left_right, Nat.gcd_comm]
theorem mem_pf {n p : Nat} : p ∈ pf n ↔ (p = 2 ∨ p = 3 ∨ p = 5) ∧ p ∣ n := by
  unfold pf
  rw [List.mem_filter]
  simp only [List.mem_cons, List.not_mem_nil, or_false]
  exact ⟨fun q => ⟨q.1, dvd_of_mod q.2⟩, fun q => ⟨q.1, mod_of_dvd q.2⟩⟩

/-! ### forms -/
/-- from 601 on membership depends on the common divisor with 120 alone -/
def Tail (S : Nat → Bool) : Prop := ∀ a b, 601 ≤ a → 601 ≤ b → Nat.gcd a 120 = Nat.gcd b 120 → S a = S b
def Irr (p L : Nat) (v : Nat → Bool) : Prop := ∃ a b, a ∣ L ∧ b ∣ L ∧ Nat.gcd a (L / p) = Nat.gcd b (L / p) ∧ v a ≠ v b
def hd (S : Nat → Bool) (s : Nat) : List Nat := (List.range s).filter fun w => decide (1 ≤ w) && S w
/-- the form of S -/
structure Form (S : Nat → Bool) (h : List Nat) (s L : Nat) (d : List Nat) : Prop where
  s1 : 1 ≤ s
  s2 : s ≤ 601
  len : L ∣ 120
  tail : ∀ w, s ≤ w → S w = decide (Nat.gcd w L ∈ d)
  least : 1 < s → S (s - 1) ≠ decide (Nat.gcd (s - 1) L ∈ d)
  head : h = hd S s
  divs : d = (dv L).filter fun g => decide (g ∈ d)
  irr : ∀ p ∈ pf L, Irr p L fun g => decide (g ∈ d)

def crt : Bool := D.all fun L => D.all fun L' => let G := Nat.gcd L L'; D.all fun a => let aG := Nat.gcd a G; let aL := Nat.gcd a L; D.all fun b => Nat.beq aG (Nat.gcd b G) == false || D.any fun c => Nat.beq (Nat.gcd c L) aL && Nat.beq (Nat.gcd c L') (Nat.gcd b L')
theorem crt_ok : crt = true := by decide +kernel
theorem crt_at {L L' a b : Nat} (hL : L ∈ D) (hL' : L' ∈ D) (ha : a ∈ D) (hb : b ∈ D) (h : Nat.gcd a (Nat.gcd L L') = Nat.gcd b (Nat.gcd L L')) : ∃ c, Nat.gcd c L = Nat.gcd a L ∧ Nat.gcd c L' = Nat.gcd b L' := by
  have q := List.all_eq_true.mp (List.all_eq_true.mp (List.all_eq_true.mp (List.all_eq_true.mp crt_ok L hL) L' hL') a ha) b hb
  simp only [Bool.or_eq_true] at q
  rcases q with q | q
  · rw [h, Nat.beq_refl] at q
    exact absurd q (by decide)
  · obtain ⟨c, _, hc⟩ := List.any_eq_true.mp q
    rw [Bool.and_eq_true] at hc
    exact ⟨c, Nat.eq_of_beq_eq_true hc.1, Nat.eq_of_beq_eq_true hc.2⟩
theorem low_prime : ∀ L ∈ D, ∀ G ∈ D, G ∣ L → G ≠ L → ∃ p ∈ pf L, G ∣ L / p := by decide +kernel
theorem gcd_mono {a b M N : Nat} (h : N ∣ M) (e : Nat.gcd a M = Nat.gcd b M) : Nat.gcd a N = Nat.gcd b N := by
  rw [← gcd_of_gcd (w := a) h, ← gcd_of_gcd (w := b) h, e]

theorem Form.len_dvd {S S' : Nat → Bool} {h h' : List Nat} {s s' L L' : Nat} {d d' : List Nat} (F : Form S h s L d) (F' : Form S' h' s' L' d')
    (f : ∀ n, decide (Nat.gcd n L ∈ d) = decide (Nat.gcd n L' ∈ d')) : L ∣ L' := by
  have hLD := mem_D.mpr F.len
  have hLD' := mem_D.mpr F'.len
  have hG : ∀ a b, Nat.gcd a (Nat.gcd L L') = Nat.gcd b (Nat.gcd L L') → decide (Nat.gcd a L ∈ d) = decide (Nat.gcd b L ∈ d) := fun a b e => by
    have h1 : Nat.gcd L L' ∣ 120 := Nat.dvd_trans (Nat.gcd_dvd_left _ _) F.len
    obtain ⟨c, c1, c2⟩ := crt_at (a := Nat.gcd a 120) (b := Nat.gcd b 120) hLD hLD' (mem_D.mpr (gcd120 a)) (mem_D.mpr (gcd120 b)) (by rw [gcd_of_gcd h1, gcd_of_gcd h1]; exact e)
    rw [gcd_of_gcd F.len] at c1
    rw [gcd_of_gcd F'.len] at c2
    rw [← c1, f c, c2, ← f b]
  have key : Nat.gcd L L' = L := by
    refine Classical.byContradiction fun ne => ?_
    obtain ⟨p, hp, hd⟩ := low_prime L hLD _ (mem_D.mpr (Nat.dvd_trans (Nat.gcd_dvd_left L L') F.len)) (Nat.gcd_dvd_left _ _) ne
    obtain ⟨a, b, ha, hb, e, nv⟩ := F.irr p hp
    have q := hG a b (gcd_mono hd e)
    rw [Nat.gcd_eq_left ha, Nat.gcd_eq_left hb] at q
    exact nv q
  rw [← key]
  exact Nat.gcd_dvd_right _ _
theorem Form.uniq {S S' : Nat → Bool} {h h' : List Nat} {s s' L L' : Nat} {d d' : List Nat} (F : Form S h s L d) (F' : Form S' h' s' L' d') (e : ∀ w, 1 ≤ w → S w = S' w) :
    h = h' ∧ s = s' ∧ L = L' ∧ d = d' := by
  have f : ∀ n, decide (Nat.gcd n L ∈ d) = decide (Nat.gcd n L' ∈ d') := fun n => by
    have a1 := F.tail (n + 120 * 6) (by have := F.s2; omega)
    have a2 := F'.tail (n + 120 * 6) (by have := F'.s2; omega)
    rw [gcd_add_mul 6 F.len] at a1
    rw [gcd_add_mul 6 F'.len] at a2
    rw [← a1, ← a2]
    exact e _ (by omega)
  have eL : L = L' := Nat.dvd_antisymm (F.len_dvd F' f) (F'.len_dvd F fun n => (f n).symm)
  subst eL
  have ed : d = d' := by
    rw [F.divs, F'.divs]
    refine List.filter_congr fun g hg => ?_
    have gd := (mem_dv F.len).mp hg
    have := f g
    rw [Nat.gcd_eq_left gd] at this
    exact this
  subst ed
  have es : s = s' := by
    rcases Nat.lt_trichotomy s s' with lt | eq | gt
    · refine absurd ?_ (F'.least (by have := F.s1; omega))
      rw [← e _ (by have := F.s1; omega)]
      exact F.tail _ (by omega)
    · exact eq
    · refine absurd ?_ (F.least (by have := F'.s1; omega))
      rw [e _ (by have := F'.s1; omega)]
      exact F'.tail _ (by omega)
  subst es
  refine ⟨?_, rfl, rfl, rfl⟩
  rw [F.head, F'.head]
  unfold hd
  refine List.filter_congr fun w _ => ?_
  by_cases hw : 1 ≤ w
  · rw [e w hw]
  · rw [decide_eq_false hw, Bool.false_and, Bool.false_and]
theorem Form.congr {S S' : Nat → Bool} {h : List Nat} {s L : Nat} {d : List Nat} (F : Form S h s L d) (e : ∀ w, 1 ≤ w → S w = S' w) : Form S' h s L d where
  s1 := F.s1
  s2 := F.s2
  len := F.len
  tail := fun w hw => by rw [← e w (Nat.le_trans F.s1 hw)]; exact F.tail w hw
  least := fun hs => by rw [← e _ (by omega)]; exact F.least hs
  head := by
    rw [F.head]
    unfold hd
    refine List.filter_congr fun w _ => ?_
    by_cases hw : 1 ≤ w
    · rw [e w hw]
    · rw [decide_eq_false hw, Bool.false_and, Bool.false_and]
  divs := F.divs
  irr := F.irr
theorem Form.toTail {S : Nat → Bool} {h : List Nat} {s L : Nat} {d : List Nat} (F : Form S h s L d) : Tail S := fun a b ha hb e => by
  have := F.s2
  rw [F.tail a (by omega), F.tail b (by omega), gcd_mono F.len e]
theorem mem_dvf {L g : Nat} {v : Nat → Bool} (h : L ∣ 120) (hg : g ∣ L) : decide (g ∈ (dv L).filter v) = v g := by
  rw [Bool.eq_iff_iff, decide_eq_true_iff, List.mem_filter]
  exact ⟨fun q => q.2, fun q => ⟨(mem_dv h).mpr hg, q⟩⟩
/-- a form, from what the program has found -/
theorem form_mk {S v : Nat → Bool} {s L : Nat} (len : L ∣ 120) (T : Tail S) (s1 : 1 ≤ s) (tail : ∀ w, s ≤ w → S w = v (Nat.gcd w L)) (least : 1 < s → S (s - 1) ≠ v (Nat.gcd (s - 1) L)) (irr : ∀ p ∈ pf L, Irr p L v) :
    Form S (hd S s) s L ((dv L).filter v) where
  s1 := s1
  s2 := by
    refine Classical.byContradiction fun q => ?_
    refine least (by omega) ?_
    have e1 := tail (s - 1 + 120 * s) (by omega)
    rw [gcd_add_mul s len] at e1
    rw [← e1]
    exact T _ _ (by omega) (by omega) (gcd_add_mul s (Nat.dvd_refl 120)).symm
  len := len
  tail := fun w hw => by rw [mem_dvf len (Nat.gcd_dvd_right _ _)]; exact tail w hw
  least := fun hs => by rw [mem_dvf len (Nat.gcd_dvd_right _ _)]; exact least hs
  head := rfl
  divs := List.filter_congr fun g hg => (mem_dvf len ((mem_dv len).mp hg)).symm
  irr := fun p hp => by
    obtain ⟨a, b, ha, hb, e, nv⟩ := irr p hp
    refine ⟨a, b, ha, hb, e, ?_⟩
    show decide (a ∈ (dv L).filter v) ≠ decide (b ∈ (dv L).filter v)
    rw [mem_dvf len ha, mem_dvf len hb]
    exact nv
/-- what the form says is S -/
theorem Form.mem {S : Nat → Bool} {h : List Nat} {s L : Nat} {d : List Nat} (F : Form S h s L d) {w : Nat} (hw : 1 ≤ w) : (if w < s then decide (w ∈ h) else decide (Nat.gcd w L ∈ d)) = S w := by
  by_cases q : w < s
  · rw [if_pos q, Bool.eq_iff_iff, decide_eq_true_iff, F.head]
    unfold hd
    rw [List.mem_filter, List.mem_range, decide_eq_true hw, Bool.true_and]
    exact ⟨fun z => z.2, fun z => ⟨q, z⟩⟩
  · rw [if_neg q]
    exact (F.tail w (by omega)).symm
theorem hd_sorted (S : Nat → Bool) (s : Nat) : (hd S s).Pairwise (· < ·) := List.Pairwise.sublist List.filter_sublist List.pairwise_lt_range
theorem mem_hd {S : Nat → Bool} {s w : Nat} : w ∈ hd S s ↔ 1 ≤ w ∧ w < s ∧ S w = true := by
  unfold hd
  rw [List.mem_filter, List.mem_range, Bool.and_eq_true, decide_eq_true_iff]
  exact ⟨fun ⟨a, b, c⟩ => ⟨b, a, c⟩, fun ⟨a, b, c⟩ => ⟨b, a, c⟩⟩
/-- two strictly ascending lists with the same members -/
theorem sorted_ext : ∀ {xs ys : List Nat}, xs.Pairwise (· < ·) → ys.Pairwise (· < ·) → (∀ a, a ∈ xs ↔ a ∈ ys) → xs = ys
  | [], [], _, _, _ => rfl
  | [], y :: ys, _, _, h => absurd ((h y).mpr List.mem_cons_self) (by simp)
  | x :: xs, [], _, _, h => absurd ((h x).mp List.mem_cons_self) (by simp)
  | x :: xs, y :: ys, hx, hy, h => by
    rw [List.pairwise_cons] at hx hy
    have e : x = y := by
      rcases List.mem_cons.mp ((h x).mp List.mem_cons_self) with a | a
      · exact a
      · rcases List.mem_cons.mp ((h y).mpr List.mem_cons_self) with b | b
        · exact b.symm
        · have := hy.1 x a
          have := hx.1 y b
          omega
    subst e
    rw [sorted_ext hx.2 hy.2 fun a => ?_]
    constructor
    · intro m
      rcases List.mem_cons.mp ((h a).mp (List.mem_cons_of_mem _ m)) with z | z
      · have := hx.1 a m; omega
      · exact z
    · intro m
      rcases List.mem_cons.mp ((h a).mpr (List.mem_cons_of_mem _ m)) with z | z
      · have := hy.1 a m; omega
      · exact z

/-! ### the table made less, prime by prime -/
theorem div_dvd_of {L p : Nat} (h : p ∣ L) : L / p ∣ L := Nat.div_dvd_of_dvd h
theorem Irr.less {L p q : Nat} {v v2 : Nat → Bool} (hL : L ∣ 120) (hq : q ∣ L) (hp : p ∣ L / q) (hp0 : 0 < p) (hv : ∀ d, d ∣ L → v d = v2 (Nat.gcd d (L / q))) (h : Irr p L v) : Irr p (L / q) v2 := by
  obtain ⟨a, b, ha, hb, e, nv⟩ := h
  have d1 : L / q / p ∣ L / p := by
    obtain ⟨c, hc⟩ := hp
    have hq0 : 0 < q := Nat.pos_of_dvd_of_pos hq (pos120 hL)
    have eL : L = q * (p * c) := by rw [← hc]; exact (Nat.mul_div_cancel' hq).symm
    have e1 : L / q / p = c := by rw [hc, Nat.mul_div_cancel_left _ hp0]
    have e2 : L / p = q * c := by rw [eL, Nat.mul_left_comm, Nat.mul_div_cancel_left _ hp0]
    rw [e1, e2]
    exact Nat.dvd_mul_left _ _
  refine ⟨Nat.gcd a (L / q), Nat.gcd b (L / q), Nat.gcd_dvd_right _ _, Nat.gcd_dvd_right _ _, ?_, ?_⟩
  · rw [gcd_of_gcd (div_dvd_of hp), gcd_of_gcd (div_dvd_of hp)]
    exact gcd_mono d1 e
  · rw [← hv a ha, ← hv b hb]
    exact nv
theorem keep_prime : ∀ L ∈ D, ∀ p ∈ [2, 3, 5], ∀ q ∈ [2, 3, 5], p ≠ q → p ∣ L → q ∣ L → p ∣ L / q := by decide +kernel

/-! ### joining -/
def lcm (a b : Nat) : Nat := a / Nat.gcd a b * b
theorem lcm_D : ∀ a ∈ D, ∀ b ∈ D, lcm a b ∈ D ∧ a ∣ lcm a b ∧ b ∣ lcm a b := by decide +kernel
end M53
namespace M53
/-! ### the law's trees -/
inductive Tr where
  | of (a b c : Nat)
  | frm (n : Nat)
  | mul (k : Nat)
  | dvd (q : Nat)
  | told (p : Nat) (gs : List Nat)
  | not (t : Tr)
  | and (t u : Tr)
  | or (t u : Tr)
  | less (t u : Tr)
  | one (t u : Tr)
def Tr.mem : Tr → Nat → Bool
  | .of a b c, w => decide (w ∈ [a, b, c])
  | .frm n, w => decide (n ≤ w)
  | .mul k, w => decide (w % k = 0)
  | .dvd q, w => decide ((2 ^ w - 1) % q = 0)
  | .told p gs, w => decide (Nat.gcd w p ∈ gs)
  | .not t, w => !t.mem w
  | .and t u, w => t.mem w && u.mem w
  | .or t u, w => t.mem w || u.mem w
  | .less t u, w => t.mem w && !u.mem w
  | .one t u, w => t.mem w != u.mem w
def menuK : List Nat := [1, 2, 3, 4, 5, 6, 8, 12, 24, 60, 120]
def menuQ : List Nat := [1, 3, 5, 7, 9, 11, 13, 15, 17, 21, 31, 33, 35, 45, 63, 255]
def menuP : List Nat := [4, 6, 12, 20, 30]
def Tr.Ok : Tr → Prop
  | .of a b c => (1 ≤ a ∧ a ≤ 600) ∧ (1 ≤ b ∧ b ≤ 600) ∧ (1 ≤ c ∧ c ≤ 600)
  | .frm n => 1 ≤ n ∧ n ≤ 600
  | .mul k => k ∈ menuK
  | .dvd q => q ∈ menuQ
  | .told p gs => p ∈ menuP ∧ ∀ g ∈ gs, g ∈ dv p
  | .not t => t.Ok
  | .and t u => t.Ok ∧ u.Ok
  | .or t u => t.Ok ∧ u.Ok
  | .less t u => t.Ok ∧ u.Ok
  | .one t u => t.Ok ∧ u.Ok
/-- the order of 2 -/
def ord : Nat → Nat
  | 1 => 1 | 3 => 2 | 5 => 4 | 7 => 3 | 9 => 6 | 11 => 10 | 13 => 12 | 15 => 4 | 17 => 8 | 21 => 6 | 31 => 5 | 33 => 10 | 35 => 12 | 45 => 12 | 63 => 6 | 255 => 8
  | _ => 1
theorem menuK_D : ∀ k ∈ menuK, k ∈ D := by decide
theorem menuP_D : ∀ k ∈ menuP, k ∈ D := by decide
theorem ord_D : ∀ q ∈ menuQ, ord q ∈ D := by decide
theorem ord_pow : ∀ q ∈ menuQ, 2 ^ ord q % q = 1 % q := by decide
theorem ord_res : ∀ q ∈ menuQ, ∀ r < ord q, (2 ^ r % q = 1 % q) = (r = 0) := by decide +kernel
theorem pow_per {q o : Nat} (h : 2 ^ o % q = 1 % q) (r : Nat) : ∀ k : Nat, 2 ^ (r + o * k) % q = 2 ^ r % q
  | 0 => by rw [Nat.mul_zero, Nat.add_zero]
  | k + 1 => by
    rw [Nat.mul_succ, ← Nat.add_assoc, Nat.pow_add, Nat.mul_mod, pow_per h r k, h, ← Nat.mul_mod, Nat.mul_one]
theorem pow_one {q w : Nat} (hq : q ∈ menuQ) : 2 ^ w % q = 1 % q ↔ w % ord q = 0 := by
  have e : 2 ^ w % q = 2 ^ (w % ord q) % q := by
    have h := pow_per (ord_pow q hq) (w % ord q) (w / ord q)
    rw [Nat.mod_add_div] at h
    exact h
  have hp : 0 < ord q := pos120 (mem_D.mp (ord_D q hq))
  rw [e, ord_res q hq _ (Nat.mod_lt _ hp)]
theorem sub_mod : ∀ q ∈ menuQ, ∀ x : Nat, 1 ≤ x → ((x - 1) % q = 0 ↔ x % q = 1 % q) := by
  intro q hq x hx
  simp only [menuQ, List.mem_cons, List.not_mem_nil, or_false] at hq
  rcases hq with rfl | rfl | rfl | rfl | rfl | rfl | rfl | rfl | rfl | rfl | rfl | rfl | rfl | rfl | rfl | rfl <;> omega
theorem dvd_mem {q w : Nat} (hq : q ∈ menuQ) : (2 ^ w - 1) % q = 0 ↔ w % ord q = 0 := by
  rw [sub_mod q hq _ (Nat.one_le_two_pow), pow_one hq]
theorem gcd_eq_iff {w k : Nat} : w % k = 0 ↔ Nat.gcd w k = k := by
  constructor
  · intro h
    exact Nat.gcd_eq_right (Nat.dvd_of_mod_eq_zero h)
  · intro h
    exact Nat.mod_eq_zero_of_dvd (by have := Nat.gcd_dvd_left w k; rw [h] at this; exact this)
theorem gcd_tail {L : Nat} (hL : L ∣ 120) (f : Nat → Bool) : Tail fun w => f (Nat.gcd w L) := fun a b _ _ e => by
  show f _ = f _
  rw [gcd_mono hL e]
theorem Tail.congr {S S' : Nat → Bool} (T : Tail S) (e : ∀ w, 1 ≤ w → S w = S' w) : Tail S' := fun a b ha hb q => by
  rw [← e a (by omega), ← e b (by omega)]
  exact T a b ha hb q
theorem Tail.op {S S' : Nat → Bool} (T : Tail S) (T' : Tail S') (f : Bool → Bool → Bool) : Tail fun w => f (S w) (S' w) := fun a b ha hb e => by
  show f _ _ = f _ _
  rw [T a b ha hb e, T' a b ha hb e]
theorem Tr.tail : ∀ {t : Tr}, t.Ok → Tail t.mem
  | .of a b c, h => fun x y hx hy _ => by
    obtain ⟨h1, h2, h3⟩ := h
    show decide (x ∈ [a, b, c]) = decide (y ∈ [a, b, c])
    have e1 : ¬ x ∈ [a, b, c] := by simp only [List.mem_cons, List.not_mem_nil, or_false]; omega
    have e2 : ¬ y ∈ [a, b, c] := by simp only [List.mem_cons, List.not_mem_nil, or_false]; omega
    rw [decide_eq_false e1, decide_eq_false e2]
  | .frm n, h => fun x y hx hy _ => by
    have h : 1 ≤ n ∧ n ≤ 600 := h
    show decide (n ≤ x) = decide (n ≤ y)
    rw [decide_eq_true (by omega), decide_eq_true (by omega)]
  | .mul k, h => (gcd_tail (mem_D.mp (menuK_D k h)) fun g => decide (g = k)).congr fun w _ => by
    show decide (Nat.gcd w k = k) = decide (w % k = 0)
    exact decide_eq_decide.mpr gcd_eq_iff.symm
  | .dvd q, h => (gcd_tail (mem_D.mp (ord_D q h)) fun g => decide (g = ord q)).congr fun w _ => by
    show decide (Nat.gcd w (ord q) = ord q) = decide ((2 ^ w - 1) % q = 0)
    exact decide_eq_decide.mpr (gcd_eq_iff.symm.trans (dvd_mem h).symm)
  | .told p gs, h => gcd_tail (mem_D.mp (menuP_D p h.1)) fun g => decide (g ∈ gs)
  | .not t, h => (Tr.tail (t := t) h).op (Tr.tail (t := t) h) fun a _ => !a
  | .and t u, h => (Tr.tail (t := t) h.1).op (Tr.tail (t := u) h.2) fun a b => a && b
  | .or t u, h => (Tr.tail (t := t) h.1).op (Tr.tail (t := u) h.2) fun a b => a || b
  | .less t u, h => (Tr.tail (t := t) h.1).op (Tr.tail (t := u) h.2) fun a b => a && !b
  | .one t u, h => (Tr.tail (t := t) h.1).op (Tr.tail (t := u) h.2) fun a b => a != b

/-! ### the leaves' forms -/
theorem form_frm {n : Nat} (h : 1 ≤ n ∧ n ≤ 600) : Form (Tr.mem (.frm n)) [] n 1 [1] where
  s1 := h.1
  s2 := by omega
  len := by decide
  tail := fun w hw => by
    show decide (n ≤ w) = decide (Nat.gcd w 1 ∈ [1])
    rw [Nat.gcd_one_right, decide_eq_true hw]
    decide
  least := fun hs => by
    show decide (n ≤ n - 1) ≠ decide (Nat.gcd (n - 1) 1 ∈ [1])
    rw [Nat.gcd_one_right, decide_eq_false (by omega)]
    decide
  head := by
    refine (List.filter_eq_nil_iff.mpr fun w hw => ?_).symm
    have := List.mem_range.mp hw
    show ¬ (decide (1 ≤ w) && decide (n ≤ w)) = true
    rw [decide_eq_false (by omega : ¬ n ≤ w), Bool.and_false]
    decide
  divs := by decide
  irr := fun p hp => absurd (show p ∈ ([] : List Nat) from hp) List.not_mem_nil
theorem irr_top {L p : Nat} (hL : L ∣ 120) (hp : p ∈ pf L) : Irr p L fun g => decide (g ∈ [L]) := by
  obtain ⟨h1, h2⟩ := mem_pf.mp hp
  have hd : L / p ∣ L := Nat.div_dvd_of_dvd h2
  have hlt : L / p < L := Nat.div_lt_self (pos120 hL) (by omega)
  refine ⟨L, L / p, Nat.dvd_refl _, hd, ?_, ?_⟩
  · rw [Nat.gcd_eq_right hd, Nat.gcd_self]
  · show decide (L ∈ [L]) ≠ decide (L / p ∈ [L])
    rw [decide_eq_true List.mem_cons_self, decide_eq_false (by simp only [List.mem_cons, List.not_mem_nil, or_false]; omega)]
    decide
theorem form_top {L : Nat} (hL : L ∣ 120) {S : Nat → Bool} (hS : ∀ w, 1 ≤ w → S w = decide (w % L = 0)) : Form S [] 1 L [L] where
  s1 := Nat.le_refl _
  s2 := by decide
  len := hL
  tail := fun w hw => by
    rw [hS w hw]
    refine decide_eq_decide.mpr ?_
    rw [List.mem_cons, or_iff_left (List.not_mem_nil)]
    exact gcd_eq_iff
  least := fun hs => absurd hs (by decide)
  head := by
    refine (List.filter_eq_nil_iff.mpr fun w hw => ?_).symm
    have := List.mem_range.mp hw
    rw [decide_eq_false (by omega), Bool.false_and]
    decide
  divs := by
    have := mem_D.mpr hL
    revert this
    generalize L = L
    exact fun h => (by decide : ∀ L ∈ D, [L] = (dv L).filter fun g => decide (g ∈ [L])) L h
  irr := fun p hp => irr_top hL hp
theorem form_mul {k : Nat} (h : k ∈ menuK) : Form (Tr.mem (.mul k)) [] 1 k [k] := form_top (mem_D.mp (menuK_D k h)) fun _ _ => rfl
theorem form_dvd {q : Nat} (h : q ∈ menuQ) : Form (Tr.mem (.dvd q)) [] 1 (ord q) [ord q] := form_top (mem_D.mp (ord_D q h)) fun w _ => decide_eq_decide.mpr (dvd_mem h)

/-! ### counting -/
def cnt (S : Nat → Bool) : Nat → Nat
  | 0 => 0
  | n + 1 => cnt S n + if S (n + 1) then 1 else 0
theorem cnt_congr {S S' : Nat → Bool} : ∀ {n : Nat}, (∀ w, 1 ≤ w → w ≤ n → S w = S' w) → cnt S n = cnt S' n
  | 0, _ => rfl
  | n + 1, h => by
    unfold cnt
    rw [cnt_congr fun w h1 h2 => h w h1 (by omega), h (n + 1) (by omega) (Nat.le_refl _)]
theorem cnt_mono (S : Nat → Bool) {m n : Nat} (h : m ≤ n) : cnt S m ≤ cnt S n := by
  induction n with
  | zero => rw [Nat.le_zero.mp h]; exact Nat.le_refl _
  | succ n ih =>
    by_cases e : m = n + 1
    · rw [e]; exact Nat.le_refl _
    · exact Nat.le_trans (ih (by omega)) (Nat.le_add_right _ _)
theorem cnt_le (S : Nat → Bool) : ∀ n, cnt S n ≤ n
  | 0 => Nat.le_refl _
  | n + 1 => by
    unfold cnt
    have := cnt_le S n
    split <;> omega
/-- the k-th member is told by: it is one, and k + 1 are up to it -/
theorem nth_uniq {S : Nat → Bool} {x y k : Nat} (x1 : 1 ≤ x) (y1 : 1 ≤ y) (hx : S x = true) (hy : S y = true) (cx : cnt S x = k) (cy : cnt S y = k) : x = y := by
  have key : ∀ {x y : Nat}, 1 ≤ x → S y = true → x < y → cnt S x < cnt S y := fun {x y} _ hy lt => by
    obtain ⟨z, rfl⟩ : ∃ z, y = z + 1 := ⟨y - 1, by omega⟩
    have := cnt_mono S (show x ≤ z by omega)
    show cnt S x < cnt S z + if S (z + 1) then 1 else 0
    rw [if_pos hy]
    omega
  rcases Nat.lt_trichotomy x y with lt | eq | gt
  · have := key x1 hy lt; omega
  · exact eq
  · have := key y1 hx gt; omega
theorem range_cnt (S : Nat → Bool) : ∀ n, ((List.range (n + 1)).filter fun w => decide (1 ≤ w) && S w).length = cnt S n
  | 0 => by
    show (([0] : List Nat).filter _).length = 0
    simp
  | n + 1 => by
    rw [List.range_succ, List.filter_append, List.length_append, range_cnt S n]
    show cnt S n + _ = cnt S n + _
    congr 1
    rw [List.filter_cons, decide_eq_true (by omega : 1 ≤ n + 1), Bool.true_and]
    split <;> rfl
theorem hd_length (S : Nat → Bool) {s : Nat} (h : 1 ≤ s) : (hd S s).length = cnt S (s - 1) := by
  obtain ⟨z, rfl⟩ : ∃ z, s = z + 1 := ⟨s - 1, by omega⟩
  exact range_cnt S z
theorem hd_nth {S : Nat → Bool} : ∀ {s k x : Nat}, (hd S s)[k]? = some x → 1 ≤ x ∧ x < s ∧ S x = true ∧ cnt S x = k + 1
  | 0, k, x, h => by simp [hd] at h
  | s + 1, k, x, h => by
    have e : hd S (s + 1) = hd S s ++ [s].filter fun w => decide (1 ≤ w) && S w := by
      unfold hd
      rw [List.range_succ, List.filter_append]
    rw [e] at h
    by_cases hk : k < (hd S s).length
    · rw [List.getElem?_append_left hk] at h
      obtain ⟨a, b, c, d⟩ := hd_nth h
      exact ⟨a, by omega, c, d⟩
    · rw [List.getElem?_append_right (by omega)] at h
      by_cases q : (decide (1 ≤ s) && S s) = true
      · rw [List.filter_cons, if_pos q, List.filter_nil] at h
        have hk0 : k - (hd S s).length = 0 := by
          cases z : k - (hd S s).length with
          | zero => rfl
          | succ m => rw [z] at h; simp at h
        rw [hk0] at h
        have ex : x = s := by simpa using h.symm
        subst ex
        rw [Bool.and_eq_true, decide_eq_true_iff] at q
        refine ⟨q.1, by omega, q.2, ?_⟩
        have l := hd_length S q.1
        obtain ⟨z, rfl⟩ : ∃ z, x = z + 1 := ⟨x - 1, by omega⟩
        show cnt S z + (if S (z + 1) then 1 else 0) = k + 1
        rw [if_pos q.2]
        have : z + 1 - 1 = z := by omega
        rw [this] at l
        omega
      · rw [List.filter_cons, if_neg q, List.filter_nil] at h
        simp at h
/-- members of the head up to n -/
theorem hd_upto (S : Nat → Bool) {s : Nat} (h : 1 ≤ s) (n : Nat) : ((hd S s).filter fun w => decide (w ≤ n)).length = cnt S (min (s - 1) n) := by
  obtain ⟨z, rfl⟩ : ∃ z, s = z + 1 := ⟨s - 1, by omega⟩
  rw [show z + 1 - 1 = z by omega]
  unfold hd
  rw [List.filter_filter]
  have : ∀ z : Nat, ((List.range (z + 1)).filter fun w => decide (w ≤ n) && (decide (1 ≤ w) && S w)).length = cnt S (min z n) := by
    intro z
    induction z with
    | zero =>
      rw [Nat.zero_min]
      show (([0] : List Nat).filter _).length = 0
      simp
    | succ z ih =>
      rw [List.range_succ, List.filter_append, List.length_append, ih]
      by_cases q : z + 1 ≤ n
      · rw [show min (z + 1) n = min z n + 1 by omega]
        show _ = cnt S (min z n) + _
        rw [show min z n + 1 = z + 1 by omega]
        congr 1
        rw [List.filter_cons, decide_eq_true q, decide_eq_true (by omega : 1 ≤ z + 1), Bool.true_and, Bool.true_and]
        split <;> rfl
      · rw [show min (z + 1) n = min z n by omega, List.filter_cons, decide_eq_false q, Bool.false_and]
        simp
  exact this z
/-- a shift of a period -/
theorem cnt_split (S : Nat → Bool) (m : Nat) : ∀ n, cnt S (m + n) = cnt S m + cnt (fun w => S (m + w)) n
  | 0 => rfl
  | n + 1 => by
    show cnt S (m + n) + _ = cnt S m + (cnt (fun w => S (m + w)) n + _)
    rw [cnt_split S m n, Nat.add_assoc]
    rfl
theorem Tail.per {S : Nat → Bool} (T : Tail S) (r : Nat) {w : Nat} (h : 601 ≤ w) : S (w + 120 * r) = S w := T _ _ (by omega) h (gcd_add_mul r (Nat.dvd_refl 120))
theorem cnt_per {S : Nat → Bool} (T : Tail S) (t : Nat) : ∀ r : Nat, cnt S (600 + 120 * r + t) = cnt S 600 + r * (cnt S 720 - cnt S 600) + (cnt S (600 + t) - cnt S 600)
  | 0 => by
    rw [Nat.mul_zero, Nat.add_zero, Nat.zero_mul, Nat.add_zero]
    have := cnt_mono S (show 600 ≤ 600 + t by omega)
    omega
  | r + 1 => by
    have e1 : 600 + 120 * (r + 1) + t = 600 + 120 + (120 * r + t) := by omega
    have e2 : 600 + 120 * r + t = 600 + (120 * r + t) := by omega
    have ih := cnt_per T t r
    rw [e2, cnt_split] at ih
    have e3 : cnt (fun w => S (600 + 120 + w)) (120 * r + t) = cnt (fun w => S (600 + w)) (120 * r + t) := cnt_congr fun w h1 _ => by
      have := T.per 1 (w := 600 + w) (by omega)
      rw [show 600 + 120 + w = 600 + w + 120 * 1 by omega]
      exact this
    rw [e1, cnt_split, e3, show (r + 1) * (cnt S 720 - cnt S 600) = r * (cnt S 720 - cnt S 600) + (cnt S 720 - cnt S 600) from Nat.succ_mul _ _]
    generalize cnt (fun w => S (600 + w)) (120 * r + t) = X at ih ⊢
    generalize r * (cnt S 720 - cnt S 600) = Y at ih ⊢
    have m1 := cnt_mono S (show 600 ≤ 720 by omega)
    have : cnt S (600 + 120) = cnt S 720 := rfl
    omega

/-! ### counting by classes -/
def cp (ps : List Nat) (m : Nat) : Bool := ps.all fun p => m % p != 0
theorem cp_snoc (ps : List Nat) (p m : Nat) : cp (ps ++ [p]) m = (cp ps m && (m % p != 0)) := by
  unfold cp
  rw [List.all_append]
  simp
theorem cnt_cp {ps : List Nat} {p : Nat} (hp : 0 < p) (h : ∀ m, cp ps (p * m) = cp ps m) : ∀ N, cnt (cp (ps ++ [p])) N + cnt (cp ps) (N / p) = cnt (cp ps) N
  | 0 => by rw [Nat.zero_div]; rfl
  | N + 1 => by
    have ih := cnt_cp hp h N
    by_cases q : (N + 1) % p = 0
    · obtain ⟨m, hm⟩ := Nat.dvd_of_mod_eq_zero q
      have hm1 : 1 ≤ m := by
        rcases Nat.eq_zero_or_pos m with e | e
        · rw [e] at hm; simp at hm
        · exact e
      obtain ⟨z, rfl⟩ : ∃ z, m = z + 1 := ⟨m - 1, by omega⟩
      have d1 : (N + 1) / p = z + 1 := by rw [hm, Nat.mul_div_cancel_left _ hp]
      have d2 : N / p = z := by
        have : N = p * z + (p - 1) := by rw [Nat.mul_succ] at hm; omega
        rw [this, Nat.mul_add_div hp, Nat.div_eq_of_lt (by omega)]
        omega
      rw [d2] at ih
      rw [d1]
      show cnt (cp (ps ++ [p])) N + _ + (cnt (cp ps) z + _) = cnt (cp ps) N + _
      have e1 : cp (ps ++ [p]) (N + 1) = false := by
        rw [cp_snoc, q]
        simp
      have e2 : cp ps (N + 1) = cp ps (z + 1) := by rw [hm, h]
      rw [e1, e2]
      simp only [Bool.false_eq_true, if_false]
      omega
    · have d1 : (N + 1) / p = N / p := by
        rw [Nat.succ_div, if_neg fun hd => q (Nat.mod_eq_zero_of_dvd hd)]
        omega
      rw [d1]
      show cnt (cp (ps ++ [p])) N + _ + _ = cnt (cp ps) N + _
      have e1 : cp (ps ++ [p]) (N + 1) = cp ps (N + 1) := by
        rw [cp_snoc]
        have : ((N + 1) % p != 0) = true := by simp [q]
        rw [this, Bool.and_true]
      rw [e1]
      omega
/-- the program's signed products -/
def sgStep (l : List (Nat × Int)) (p : Nat) : List (Nat × Int) := l ++ l.map fun x => (x.1 * p, -x.2)
def sg (ps : List Nat) : List (Nat × Int) := ps.foldl sgStep [(1, 1)]
def copI (N : Nat) (l : List (Nat × Int)) : Int := (l.map fun x => x.2 * (((N : Nat) : Int) / ((x.1 : Nat) : Int))).sum
theorem copI_append (N : Nat) (l m : List (Nat × Int)) : copI N (l ++ m) = copI N l + copI N m := by
  unfold copI
  rw [List.map_append, List.sum_append]
theorem copI_scaled (N p : Nat) : ∀ l : List (Nat × Int), copI N (l.map fun x => (x.1 * p, -x.2)) = - copI (N / p) l
  | [] => rfl
  | x :: l => by
    have ih := copI_scaled N p l
    unfold copI at ih ⊢
    rw [List.map_cons, List.map_cons, List.map_cons, List.sum_cons, List.sum_cons, ih]
    have e : ((N : Nat) : Int) / ((x.1 * p : Nat) : Int) = ((N / p : Nat) : Int) / ((x.1 : Nat) : Int) := by
      rw [← Int.natCast_ediv, ← Int.natCast_ediv, Nat.div_div_eq_div_mul, Nat.mul_comm x.1 p]
    show -x.2 * (((N : Nat) : Int) / ((x.1 * p : Nat) : Int)) + _ = _
    rw [e, Int.neg_mul]
    omega
theorem cop_ok {ps : List Nat} (h : ∀ i, (hi : i < ps.length) → 0 < ps[i] ∧ ∀ m, cp (ps.take i) (ps[i] * m) = cp (ps.take i) m) : ∀ k, k ≤ ps.length → ∀ N, copI N (sg (ps.take k)) = (cnt (cp (ps.take k)) N : Nat)
  | 0, _, N => by
    show copI N [(1, 1)] = ((cnt (cp []) N : Nat) : Int)
    have e : cnt (cp []) N = N := by
      induction N with
      | zero => rfl
      | succ N ih =>
        show cnt (cp []) N + (if cp [] (N + 1) then 1 else 0) = N + 1
        rw [ih]
        rfl
    rw [e]
    unfold copI
    simp
  | k + 1, hk, N => by
    have hk' : k < ps.length := by omega
    obtain ⟨hp, hm⟩ := h k hk'
    have e : ps.take (k + 1) = ps.take k ++ [ps[k]] := by rw [List.take_add_one, List.getElem?_eq_getElem hk']; rfl
    rw [e]
    have e2 : sg (ps.take k ++ [ps[k]]) = sgStep (sg (ps.take k)) ps[k] := by
      unfold sg
      rw [List.foldl_append]
      rfl
    rw [e2]
    unfold sgStep
    rw [copI_append, copI_scaled, cop_ok h k (by omega) N, cop_ok h k (by omega) (N / ps[k])]
    have := cnt_cp hp hm N
    omega
theorem pf_chain : ∀ q ∈ D, pf q = [] ∨ pf q = [2] ∨ pf q = [3] ∨ pf q = [5] ∨ pf q = [2, 3] ∨ pf q = [2, 5] ∨ pf q = [3, 5] ∨ pf q = [2, 3, 5] := by decide
theorem cp_at : ∀ ps ∈ [[], [2], [3], [5], [2, 3], [2, 5], [3, 5], [2, 3, 5]], ∀ i, (hi : i < ps.length) → 0 < ps[i] ∧ ∀ m, cp (ps.take i) (ps[i] * m) = cp (ps.take i) m := by
  have h32 : ∀ m, cp [2] (3 * m) = cp [2] m := fun m => by
    unfold cp
    simp only [List.all_cons, List.all_nil, Bool.and_true]
    rw [Bool.eq_iff_iff, bne_iff_ne, bne_iff_ne]
    omega
  have h52 : ∀ m, cp [2] (5 * m) = cp [2] m := fun m => by
    unfold cp
    simp only [List.all_cons, List.all_nil, Bool.and_true]
    rw [Bool.eq_iff_iff, bne_iff_ne, bne_iff_ne]
    omega
  have h53 : ∀ m, cp [3] (5 * m) = cp [3] m := fun m => by
    unfold cp
    simp only [List.all_cons, List.all_nil, Bool.and_true]
    rw [Bool.eq_iff_iff, bne_iff_ne, bne_iff_ne]
    omega
  have h523 : ∀ m, cp [2, 3] (5 * m) = cp [2, 3] m := fun m => by
    unfold cp
    simp only [List.all_cons, List.all_nil, Bool.and_true]
    rw [Bool.eq_iff_iff, Bool.and_eq_true, Bool.and_eq_true, bne_iff_ne, bne_iff_ne, bne_iff_ne, bne_iff_ne]
    omega
  intro ps hps i hi
  simp only [List.mem_cons, List.not_mem_nil, or_false] at hps
  rcases hps with rfl | rfl | rfl | rfl | rfl | rfl | rfl | rfl
  · simp at hi
  all_goals
    match i, hi with
    | 0, _ => exact ⟨Nat.succ_pos _, fun m => rfl⟩
    | 1, hi => first | exact absurd hi (by decide) | exact ⟨Nat.succ_pos _, h32⟩ | exact ⟨Nat.succ_pos _, h52⟩ | exact ⟨Nat.succ_pos _, h53⟩
    | 2, hi => first | exact absurd hi (by decide) | exact ⟨Nat.succ_pos _, h523⟩
    | n + 3, hi => exact absurd hi (by simp only [List.length_cons, List.length_nil]; omega)
theorem copI_cnt {q : Nat} (hq : q ∈ D) (N : Nat) : copI N (sg (pf q)) = (cnt (fun m => decide (Nat.gcd m q = 1)) N : Nat) := by
  have hm : pf q ∈ [[], [2], [3], [5], [2, 3], [2, 5], [3, 5], [2, 3, 5]] := by
    have := pf_chain q hq
    simp only [List.mem_cons, List.not_mem_nil, or_false]
    exact this
  have h := cop_ok (cp_at _ hm) (pf q).length (Nat.le_refl _) N
  rw [List.take_length] at h
  rw [h]
  congr 1
  refine cnt_congr fun m _ _ => ?_
  have e1 : ∀ m, cp (pf q) m = cp (pf q) (m % 120) := fun m => by
    unfold cp
    rw [Bool.eq_iff_iff, List.all_eq_true, List.all_eq_true]
    have key : ∀ p ∈ pf q, m % 120 % p = m % p := fun p hp => Nat.mod_mod_of_dvd m (by rcases (mem_pf.mp hp).1 with e | e | e <;> rw [e] <;> decide)
    exact ⟨fun z p hp => by rw [key p hp]; exact z p hp, fun z p hp => by rw [← key p hp]; exact z p hp⟩
  have e2 : Nat.gcd m q = Nat.gcd (m % 120) q := by
    have := gcd_add_mul (w := m % 120) (m / 120) (mem_D.mp hq)
    rw [Nat.mod_add_div] at this
    exact this
  have e3 := (by decide +kernel : ∀ q ∈ D, ∀ r < 120, cp (pf q) r = decide (Nat.gcd r q = 1)) q hq (m % 120) (Nat.mod_lt _ (by decide))
  rw [e1, e3]
  exact decide_eq_decide.mpr (by rw [e2])
theorem cnt_class {L g : Nat} (hg : g ∣ L) (hg0 : 0 < g) : ∀ n, cnt (fun w => decide (Nat.gcd w L = g)) n = cnt (fun m => decide (Nat.gcd m (L / g) = 1)) (n / g)
  | 0 => by rw [Nat.zero_div]; rfl
  | n + 1 => by
    have ih := cnt_class hg hg0 n
    have eL : L = g * (L / g) := (Nat.mul_div_cancel' hg).symm
    by_cases q : g ∣ n + 1
    · obtain ⟨m, hm⟩ := q
      have hm1 : 1 ≤ m := by
        rcases Nat.eq_zero_or_pos m with e | e
        · rw [e] at hm; simp at hm
        · exact e
      obtain ⟨z, rfl⟩ : ∃ z, m = z + 1 := ⟨m - 1, by omega⟩
      have d1 : (n + 1) / g = z + 1 := by rw [hm, Nat.mul_div_cancel_left _ hg0]
      have d2 : n / g = z := by
        have : n = g * z + (g - 1) := by rw [Nat.mul_succ] at hm; omega
        rw [this, Nat.mul_add_div hg0, Nat.div_eq_of_lt (by omega)]
        omega
      rw [d2] at ih
      rw [d1]
      show cnt (fun w => decide (Nat.gcd w L = g)) n + _ = cnt (fun m => decide (Nat.gcd m (L / g) = 1)) z + _
      rw [ih]
      congr 1
      have : Nat.gcd (n + 1) L = g ↔ Nat.gcd (z + 1) (L / g) = 1 := by
        rw [hm]
        conv => lhs; rw [eL]
        rw [Nat.gcd_mul_left]
        constructor
        · intro h
          exact Nat.eq_of_mul_eq_mul_left hg0 (by rw [h, Nat.mul_one])
        · intro h
          rw [h, Nat.mul_one]
      show (if decide (Nat.gcd (n + 1) L = g) then 1 else 0) = (if decide (Nat.gcd (z + 1) (L / g) = 1) then 1 else 0)
      rw [decide_eq_decide.mpr this]
    · have d1 : (n + 1) / g = n / g := by
        rw [Nat.succ_div, if_neg q]
        omega
      rw [d1, ← ih]
      show cnt _ n + (if decide (Nat.gcd (n + 1) L = g) then 1 else 0) = _
      have : ¬ Nat.gcd (n + 1) L = g := fun h => q (h ▸ Nat.gcd_dvd_left _ _)
      rw [decide_eq_false this]
      rfl
theorem cnt_in {L : Nat} : ∀ {d : List Nat}, d.Nodup → ∀ n, cnt (fun w => decide (Nat.gcd w L ∈ d)) n = (d.map fun g => cnt (fun w => decide (Nat.gcd w L = g)) n).sum
  | [], _, n => by
    show cnt _ n = 0
    induction n with
    | zero => rfl
    | succ n ih =>
      show cnt _ n + (if decide (Nat.gcd (n + 1) L ∈ []) then 1 else 0) = 0
      rw [ih]
      simp
  | g :: d, h, n => by
    rw [List.nodup_cons] at h
    rw [List.map_cons, List.sum_cons, ← cnt_in h.2 n]
    induction n with
    | zero => rfl
    | succ n ih =>
      show cnt _ n + (if decide (Nat.gcd (n + 1) L ∈ g :: d) then 1 else 0) = cnt _ n + (if decide (Nat.gcd (n + 1) L = g) then 1 else 0) + (cnt _ n + (if decide (Nat.gcd (n + 1) L ∈ d) then 1 else 0))
      rw [ih]
      by_cases q : Nat.gcd (n + 1) L = g
      · have hn : ¬ Nat.gcd (n + 1) L ∈ d := by rw [q]; exact h.1
        rw [decide_eq_true (show Nat.gcd (n + 1) L ∈ g :: d by rw [q]; exact List.mem_cons_self), decide_eq_true q, decide_eq_false hn]
        simp only [if_true, Bool.false_eq_true, if_false]
        omega
      · have hi : (Nat.gcd (n + 1) L ∈ g :: d) ↔ Nat.gcd (n + 1) L ∈ d := by rw [List.mem_cons, or_iff_right q]
        rw [decide_eq_decide.mpr hi, decide_eq_false q]
        simp only [Bool.false_eq_true, if_false]
        omega
/-- up_to, as the program reckons it -/
def upI (h : List Nat) (s L : Nat) (d : List Nat) (n : Nat) : Int :=
  (((h.filter fun w => decide (w ≤ n)).length : Nat) : Int) + if s ≤ n then (d.map fun g => copI (n / g) (sg (pf (L / g))) - copI ((s - 1) / g) (sg (pf (L / g)))).sum else 0
theorem sum_sub {l : List Nat} {f k : Nat → Nat} {F K : Nat → Int} (hf : ∀ g ∈ l, F g = (f g : Nat)) (hk : ∀ g ∈ l, K g = (k g : Nat)) : (l.map fun g => F g - K g).sum = (((l.map f).sum : Nat) : Int) - (((l.map k).sum : Nat) : Int) := by
  induction l with
  | nil => rfl
  | cons g l ih =>
    rw [List.map_cons, List.map_cons, List.map_cons, List.sum_cons, List.sum_cons, List.sum_cons, ih (fun x hx => hf x (List.mem_cons_of_mem _ hx)) (fun x hx => hk x (List.mem_cons_of_mem _ hx)), hf g List.mem_cons_self, hk g List.mem_cons_self]
    omega
theorem cnt_from (S S' : Nat → Bool) (m : Nat) (h : ∀ w, m < w → S w = S' w) : ∀ n, m ≤ n → cnt S n + cnt S' m = cnt S m + cnt S' n := by
  intro n hn
  induction n with
  | zero => rw [Nat.le_zero.mp hn]
  | succ n ih =>
    by_cases e : m = n + 1
    · rw [e]
    · have := ih (by omega)
      show cnt S n + (if S (n + 1) then 1 else 0) + _ = cnt S m + (cnt S' n + (if S' (n + 1) then 1 else 0))
      rw [h (n + 1) (by omega)]
      omega
theorem upI_cnt {S : Nat → Bool} {h : List Nat} {s L : Nat} {d : List Nat} (F : Form S h s L d) (n : Nat) : upI h s L d n = (cnt S n : Nat) := by
  have hdn : d.Nodup := by
    rw [F.divs]
    exact List.Nodup.sublist List.filter_sublist (dv_nodup L)
  have hdl : ∀ g ∈ d, g ∣ L := fun g hg => by
    rw [F.divs] at hg
    exact (mem_dv F.len).mp (List.mem_filter.mp hg).1
  unfold upI
  have e0 := hd_upto S F.s1 n
  rw [← F.head] at e0
  rw [e0]
  have cls : ∀ m : Nat, ∀ g ∈ d, copI (m / g) (sg (pf (L / g))) = ((cnt (fun w => decide (Nat.gcd w L = g)) m : Nat) : Int) := fun m g hg => by
    have gl := hdl g hg
    have g0 : 0 < g := Nat.pos_of_dvd_of_pos gl (pos120 F.len)
    rw [copI_cnt (mem_D.mpr (Nat.dvd_trans (div_dvd_of gl) F.len)), cnt_class gl g0]
  by_cases q : s ≤ n
  · rw [if_pos q, sum_sub (cls n) (cls (s - 1)), ← cnt_in hdn, ← cnt_in hdn, show min (s - 1) n = s - 1 by omega]
    have := cnt_from S (fun w => decide (Nat.gcd w L ∈ d)) (s - 1) (fun w hw => F.tail w (by omega)) n (by omega)
    omega
  · rw [if_neg q, show min (s - 1) n = n by have := F.s1; omega]
    omega
end M53
/-! the text by places; the facts of the top -/
namespace K53
open PySem PySem.Spec PyProof.Rows L2
def topS (i : Nat) : Stmt := PySem.Challenge.pw_twozeros_k53_whole_sets_by_meaning.main.body.getD i (.Pass ⟨0, 0, 0, 0⟩)
structure Txt (K : PySem.W.Frag) (mg : Str → Option Value) (C : Addr) : Prop where
  cl : Cls K C
  ins : C8.InsC K C
  nH : NoAttr K C "head"
  nS : NoAttr K C "start"
  nL : NoAttr K C "length"
  nD : NoAttr K C "divisors"
  mgC : mg "Widths" = some (.ref C)
  MOST_LENGTH : ∃ t, mg "MOST_LENGTH" = some (.int 5040 t)
  MOST_WIDTH : ∃ t, mg "MOST_WIDTH" = some (.int 1000 t)
  MOST_TOLD : ∃ t, mg "MOST_TOLD" = some (.int 100000 t)
  LONGEST_NUMBER : ∃ t, mg "LONGEST_NUMBER" = some (.int 6 t)
  int : mg "int" = none
  bool : mg "bool" = none
  str : mg "str" = none
  len : mg "len" = none
  sum : mg "sum" = none
  abs : mg "abs" = none
  sorted : mg "sorted" = none
  list : mg "list" = none
  tuple : mg "tuple" = none
  isinstance : mg "isinstance" = none
  all : mg "all" = none
  set : mg "set" = none
  range : mg "range" = none
theorem bt_int : bootBuiltins "int" = some (.type "int") := by decide +kernel
theorem bt_bool : bootBuiltins "bool" = some (.type "bool") := by decide +kernel
theorem bt_str : bootBuiltins "str" = some (.type "str") := by decide +kernel
theorem bt_len : bootBuiltins "len" = some (.builtin "len") := by decide +kernel
theorem bt_sum : bootBuiltins "sum" = some (.builtin "sum") := by decide +kernel
theorem bt_abs : bootBuiltins "abs" = some (.builtin "abs") := by decide +kernel
theorem bt_sorted : bootBuiltins "sorted" = some (.builtin "sorted") := by decide +kernel
theorem bt_list : bootBuiltins "list" = some (.type "list") := by decide +kernel
theorem bt_tuple : bootBuiltins "tuple" = some (.type "tuple") := by decide +kernel
theorem bt_isinstance : bootBuiltins "isinstance" = some (.builtin "isinstance") := by decide +kernel
theorem bt_all : bootBuiltins "all" = some (.builtin "all") := by decide +kernel
theorem bt_set : bootBuiltins "set" = some (.type "set") := by decide +kernel

theorem room65 {A : Around} {k : Nat} (hr : Room (k + 2) A) : A.units + 65 < cLine := by
  have := hr.un
  omega
/-! ### operators of the class, as constants -/
structure OpB (P : Program) (w : World) (K : PySem.W.Frag) (mg : Str → Option Value) (base : Heap) (k : Nat) (C : Addr) (op : Operator) (sp : Sp) : Prop where
  ex : ∃ g : Addr, PySem.W.selfFirst K C = true ∧ PySem.W.findIn K (.ref C) (PySem.dunder op.info.2) = some (some (.ref g)) ∧ PySem.W.isFn K (.ref g) = true ∧ FnR P w K mg base CX0 k g sp
structure OpC (P : Program) (w : World) (K : PySem.W.Frag) (mg : Str → Option Value) (base : Heap) (k : Nat) (C : Addr) (op : CmpOp) (sp : Sp) : Prop where
  ex : ∃ g : Addr, PySem.W.notFirst K C (.ref C) = true ∧ PySem.W.findIn K (.ref C) (cmpInfo op).2.1 = some (some (.ref g)) ∧ PySem.W.isFn K (.ref g) = true ∧ FnR P w K mg base CX0 k g sp
  hop : ∀ a b, compareOp op a b = richCompare op a b
structure OpN (P : Program) (w : World) (K : PySem.W.Frag) (mg : Str → Option Value) (base : Heap) (k : Nat) (C : Addr) (sp : Sp) : Prop where
  ex : ∃ g : Addr, PySem.W.notFirst K C (.ref C) = true ∧ PySem.W.findIn K (.ref C) "__ne__" = some (some (.builtin "object.__ne__")) ∧ PySem.W.mroIn K C (.type "object") = some true ∧ PySem.W.findIn K (.ref C) "__eq__" = some (some (.ref g)) ∧ PySem.W.isFn K (.ref g) = true ∧ FnR P w K mg base CX0 k g sp
structure OpU (P : Program) (w : World) (K : PySem.W.Frag) (mg : Str → Option Value) (base : Heap) (k : Nat) (C : Addr) (m : Str) (sp : Sp) : Prop where
  ex : ∃ g : Addr, PySem.W.findIn K (.ref C) m = some (some (.ref g)) ∧ PySem.W.isFn K (.ref g) = true ∧ FnR P w K mg base CX0 k g sp
section
variable {X : Cx} {C : Addr} {k j : Nat} {sp : Sp}
theorem OpB.op {op : Operator} (c : OpB X.prog X.w X.K X.mg X.base k C op sp) (hr : Room j X.A) (hk : k ≤ j) : OpR X (binaryOp op) (rBin C sp) := let ⟨_, a, b, c, F⟩ := c.ex; op_bin a b c F (hr.mono hk)
theorem OpC.op {op : CmpOp} (c : OpC X.prog X.w X.K X.mg X.base k C op sp) (hr : Room j X.A) (hk : k ≤ j) : OpR X (compareOp op) (rBin C sp) := let ⟨_, a, b, d, F⟩ := c.ex; op_cmp c.hop a b d F (hr.mono hk)
theorem OpN.op (c : OpN X.prog X.w X.K X.mg X.base k C sp) (hr : Room j X.A) (hk : k + 1 ≤ j) : OpR X (compareOp .NotEq) (rNeO C sp) := let ⟨_, a, b, c, d, e, F⟩ := c.ex; op_neO a b c d e F (hr.mono hk)
theorem OpU.un (c : OpU X.prog X.w X.K X.mg X.base k C "__invert__" sp) (hr : Room j X.A) (hk : k ≤ j) : UnR X (unaryOp .Invert) (rUn C sp) := let ⟨_, a, b, F⟩ := c.ex; un_own a b F (hr.mono hk)
theorem OpU.op (c : OpU X.prog X.w X.K X.mg X.base k C "__contains__" sp) (hr : Room j X.A) (hk : k ≤ j) : OpR X (compareOp .In) (rCont C sp) := let ⟨_, a, b, F⟩ := c.ex; op_cont a b F (hr.mono hk)
theorem OpU.call (c : OpU X.prog X.w X.K X.mg X.base k C "__str__" sp) (hr : Room j X.A) (hk : k + 2 ≤ j) : CallR X (.type "str") (rStrOwn C sp) := let ⟨_, a, b, F⟩ := c.ex; call_strOwn a b F (hr.mono hk)
end
theorem pkc {X : Cx} {x : Str} {n : Int} {pos : Pos} (hg : Gl X x) (h : ∃ t, X.mg x = some (.int n t)) (hd : (x == ("__debug__" : Str)) = false := by decide) : PE X (.Name x pos) (tC (.int n)) := let ⟨t, e⟩ := h; pe_glob hg e ⟨t, rfl⟩ hd
/-! ### rules whose reading names the written part by a letter (within a comprehension's block it may not name the block) -/
section
variable {X : Cx} {K : PySem.W.Frag}
theorem k_in (h : X.K = K) : OpR X (compareOp .In) (rIn K false) := by subst h; exact op_in_seq
theorem k_ixL (h : X.K = K) : IxR X (rIxL K) := by subst h; exact ix_list
theorem k_ixT (h : X.K = K) : IxR X (rIxT K) := by subst h; exact ix_tup
theorem k_len (h : X.K = K) : CallR X (.builtin "len") (Evl.rLenS K) := by subst h; exact call_len_seq
theorem k_list (h : X.K = K) : CallR X (.type "list") (Evl.rListS K) := by subst h; exact call_list_of
/-- tuple(a list) -/
def rTupL (K : PySem.W.Frag) : List V → Hp → VK → Prop := fun xs H Q => ∃ p ys, xs = [.ref p] ∧ SqL K H p ys ∧ ∀ l, H l = none → Q (.ref l) (upd H l (.tup ys))
theorem k_tup (h : X.K = K) : CallR X (.type "tuple") (rTupL K) := by
  subst h
  intro pins s σ H xs us Q I r hq
  obtain ⟨p, ys, e, hs, q⟩ := hq
  exact call_tuple_of pins s σ H xs us Q I r ⟨p, ys, e, .inl ⟨hs, q⟩⟩
theorem k_sum (hc : X.calm = true) (h : X.K = K) : CallR X (.builtin "sum") (rSum K) := by subst h; exact cr_sum hc
theorem k_all (hc : X.calm = true) (h : X.K = K) : CallR X (.builtin "all") (rAll K) := by subst h; exact cr_all hc
theorem k_sorted (h : X.K = K) : CallR X (.builtin "sorted") (rSortedI K) := by subst h; exact cr_sortedI
theorem k_isi (h : X.K = K) : CallR X (.builtin "isinstance") (rIsi K) := by subst h; exact call_isi
theorem k_eqD (hu : X.A.units + 64 < cLine) (h : X.K = K) : OpR X (compareOp .Eq) (rEqD K) := by subst h; exact op_eqD hu
theorem k_neD (hu : X.A.units + 64 < cLine) (h : X.K = K) : OpR X (compareOp .NotEq) (rNeD K) := by subst h; exact op_neD hu
theorem k_sl (h : X.K = K) : SlR X (rSlL K) := by subst h; exact sl_list
theorem k_pil {tg l : Expr} {tl : TE} (h : X.K = K) (hl : PE X l tl) : PI X tg l (iList K tl) := by subst h; exact pi_list hl
theorem k_pit {tg l : Expr} {tl : TE} (h : X.K = K) (hl : PE X l tl) : PI X tg l (iTup K tl) := by subst h; exact pi_tup hl
theorem k_pgt {es : List Expr} {k : Nat} {t : TGs} {n : Nat} {pos : Pos} (h : X.K = K) (hc : X.calm = true) (hs : PGs X es t) (hn : (assignEach es X.env).length = n := by rfl) (hst : (assignEach es X.env).findIdx? (·.1) = none := by rfl) :
    PG X (.Tuple es k pos) (gTup K n t) := by subst h; exact pg_tup hc hs hn hst
theorem k_fld {e : Expr} {f : Str} {ta : TE} {pos : Pos} (h : X.K = K) (he : PE X e ta) (hb : attributeBase e f X.env (eval e X.env) = eval e X.env) : PE X (.Attribute e f pos) (tFld K ta f) := by subst h; exact pe_fld he hb
theorem k_app {o e : Expr} {to : TE} {te : TE} {apos cpos : Pos} (h : X.K = K) (ho : PE X o to) (he : PE X e te)
    (hbase : attributeBase o "append" X.env (eval o X.env) = eval o X.env := by rfl)
    (hfew : ((backTo cpos (starEach [e] X.env)).all (fun x => !x.1) && (backToKw cpos (keywordEach [] X.env)).all (fun x => x.1.isSome)
      && decide ([e].length + ([] : List Keyword).length + (if ([] : List Keyword).isEmpty then 0 else 1) < 30)) = true := by rfl)
    (hline : (apos.endLine == cpos.line) = true := by rfl) (hs : starEach [e] X.env = (false, eval e X.env) :: starEach [] X.env := by rfl) (hplain : (backTo cpos (starEach [] X.env)).any (·.1) = false := by rfl) :
    PE X (.Call (.Attribute o "append" apos) [e] [] cpos) (tBM K "list" rAppend to (tCons te tNil)) := by
  subst h
  exact pe_bm PySem.F.plainAttrs_list PySem.F.slot_list_append PySem.F.type_list_append mt_append ho (pa_cons he pa_nil hs) hbase hfew hline hs hplain
/-- None in a list of data -/
def rInDK (K : PySem.W.Frag) : R2 := fun x y H Q => ∃ d ds, Dp K H x d ∧ Dp K H y (.list ds) ∧ SeqAt.shaped d = true ∧ SeqAt.shaped (.list ds) = true ∧ Q (.bl (ds.any fun z => PyData.eqv z d)) H
def rJoin (K : PySem.W.Frag) : V → List V → Hp → VK → Prop := fun x xs H Q => ∃ a p, ∃ ys : List Str, x = .str a ∧ xs = [.ref p] ∧ SqL K H p (ys.map V.str) ∧ (ys.map (·.length)).sum + ys.length * a.length ≤ 16777216 ∧ Q (.str (Txt.join a ys)) H
theorem k_join {o e : Expr} {to te : TE} {apos pos : Pos} (h : X.K = K) (ho : PE X o to) (he : PE X e te) (hs : starEach [e] X.env = [(false, eval e X.env)] := by rfl) (hbase : attributeBase o "join" X.env (eval o X.env) = eval o X.env := by rfl)
    (hline : (apos.endLine == pos.line) = true := by rfl) : PE X (.Call (.Attribute o "join" apos) [e] [] pos) (tM1 (rJoin K) to te) := by
  subst h
  refine pe_m1 PySem.F.slot_str_join PySem.F.type_str_join (r := rJoin X.K) ?_ ho he hs hbase hline
  intro pins s σ H x xs v us Q I rx rxs hq
  obtain ⟨a, p, ys, e1, e2, hl, hz, q⟩ := hq
  exact mt_join pins s σ H x xs v us Q I rx rxs ⟨a, p, ys, e1, e2, .inl hl, hz, q⟩
theorem k_revL {e : Expr} {te : TE} {k : Nat} {p1 p2 p3 pos : Pos} (h : X.K = K) (he : PE X e te) : PE X (.Subscript e (.Slice none none (some (.UnaryOp .USub (.Constant (.int 1) k p1) p2)) p3) pos) (tRevL K te) := by subst h; exact pe_revL he
end
/-! ### a dict comprehension given to a local name -/
section
variable {X : Cx}
theorem swd_true {kx vx : Expr} {gs : List Comprehension} {scope : Scope} {pos py : Pos} {y : Str} {l : Nat} {env : Env} (hk : env.scope.kind = .function) (hy : env.scope.names.lookup y = some .local) (hl : (py.line == pos.line) = true)
    (ha : (scope.names.any fun (n, k) => n == y && (k == .local || k == .cell)) = false) : swapsWith (.DictComp kx vx gs scope pos) (some (.Name y py)) l env = pure true := by
  have ky : env.kindOf y = some .local := hy
  have hb : env.blockKind = .function := by unfold Env.blockKind; rw [hk]; rfl
  unfold swapsWith
  simp only [hb, ky, ha, Expr.pos, hl]
  rfl
theorem ps_setDc {i : Nat} {y : Str} {py : Pos} {kx vx tg iter : Expr} {ifs : List Expr} {scope : Scope} {own : List (Str × Nat)} {pos spos : Pos} {wi : TI} {g : TG} {tt : TT} {tk tv : TE} (hc : X.calm = true) (hN : X.N.Nodup) (hy : X.N[i]? = some y) (hyl : X.env.scope.names.lookup y = some .local)
    (hsw : swapsWith (.DictComp kx vx [⟨tg, iter, ifs, 0⟩] scope pos) (some (.Name y py)) spos.line X.env = pure true) (hi : PI X tg iter wi) (ok : BlkOk X.N X.env.scope scope own)
    (hg : ∀ (s : Shared) (H : Hp) (C : Addr) (cl : List (Str × Addr)) (fp : List Addr), PG (X.blk s H scope (compEnvC scope cl C X.env) fp) tg g) (ht : ∀ (s : Shared) (H : Hp) (C : Addr) (cl : List (Str × Addr)) (fp : List Addr), PTs (X.blk s H scope (compEnvC scope cl C X.env) fp) ifs tt)
    (hk : ∀ (s : Shared) (H : Hp) (C : Addr) (cl : List (Str × Addr)) (fp : List Addr), PE (X.blk s H scope (compEnvC scope cl C X.env) fp) kx tk)
    (he : ∀ (s : Shared) (H : Hp) (C : Addr) (cl : List (Str × Addr)) (fp : List Addr), PE (X.blk s H scope (compEnvC scope cl C X.env) fp) vx tv) (hs : ∀ x, foldedSetIterable iter X.env x = pure x := by intro _; rfl) :
    PS X (.Assign [.Name y py] (.DictComp kx vx [⟨tg, iter, ifs, 0⟩] scope pos) spos) (tAsg (tDc wi g tt tk tv (own.map (·.2))) (gName i)) := by
  refine ⟨fun pins s σ H D I h => ?_⟩
  rw [exec_Assign_Name_used _ _ _ _ hsw]
  refine wpAny_bind (wpAny_standAt (wpAny_bind ?_))
  show wpAny _ X.A (do let _ ← comprehension (.DictComp kx vx [⟨tg, iter, ifs, 0⟩] scope pos) scope X.env (firstIterPos [⟨tg, iter, ifs, 0⟩] pos) newDict false (eval iter X.env) (some (assign (.Name y py) X.env))) _ _ s
  have h : tDc wi g tt tk tv (own.map (·.2)) σ H (fun x H1 => gName i x σ H1 D.nx) := h
  refine wpAny_bind (thn (dc_core (Qf := fun _ s' => SP X pins D .next s') hc hN I hi ok hg ht hk he hs h fun L C s' m H' I' q hn f => ?_) fun _ s' hq => wpAny_pure (wpAny_pure hq))
  show wpAny _ _ (assign (.Name y py) X.env (.ref L)) _ _ _
  refine wpAny_assign_Name (store_ok2 (v := V.ref L) I' hN hy (.inl hyl) rfl (fun s2 I2 hst => ?_) (.inr hyl))
  obtain ⟨a, sb, ha⟩ := hst
  obtain ⟨f0, f1, f2, f3, f4, f5⟩ := f
  have haC : C ≠ a := by
    rcases ha with z | z
    · rw [z]; exact f1
    · exact fun e => f4 y a z e.symm
  refine ⟨m, hn.sameBut sb haC, fun h3 sb3 => ?_⟩
  exact ⟨_, H', I2.turned (t' := s2.toks) (fun b o hb e => (sb3.2 b hb).trans e) f0 f1 f3 f4 f5, q⟩
end
/-! ### the scopes -/
abbrev s_is_integer : Stmt := topS 2
abbrev N_is_integer : List Str := ["value"]
theorem sc_is_integer : FnScope N_is_integer ["value"] (defScope s_is_integer) := ⟨rfl, rfl, rfl, by decide +kernel, rfl, by decide +kernel, by decide +kernel⟩
abbrev s_is_between : Stmt := topS 3
abbrev N_is_between : List Str := ["value", "low", "high"]
theorem sc_is_between : FnScope N_is_between ["value", "low", "high"] (defScope s_is_between) := ⟨rfl, rfl, rfl, by decide +kernel, rfl, by decide +kernel, by decide +kernel⟩
abbrev s_gcd : Stmt := topS 5
abbrev N_gcd : List Str := ["one", "other", "first", "second"]
theorem sc_gcd : FnScope N_gcd ["one", "other"] (defScope s_gcd) := ⟨rfl, rfl, rfl, by decide +kernel, rfl, by decide +kernel, by decide +kernel⟩
abbrev s_lcm : Stmt := topS 6
abbrev N_lcm : List Str := ["one", "other"]
theorem sc_lcm : FnScope N_lcm ["one", "other"] (defScope s_lcm) := ⟨rfl, rfl, rfl, by decide +kernel, rfl, by decide +kernel, by decide +kernel⟩
abbrev s_primes_of : Stmt := topS 7
abbrev N_primes_of : List Str := ["number", "found", "rest", "prime"]
theorem sc_primes_of : FnScope N_primes_of ["number"] (defScope s_primes_of) := ⟨rfl, rfl, rfl, by decide +kernel, rfl, by decide +kernel, by decide +kernel⟩
abbrev s_divisors_of : Stmt := topS 8
abbrev N_divisors_of : List Str := ["number", "found", "rest", "prime", "powers", "one", "power"]
theorem sc_divisors_of : FnScope N_divisors_of ["number"] (defScope s_divisors_of) := ⟨rfl, rfl, rfl, by decide +kernel, rfl, by decide +kernel, by decide +kernel⟩
abbrev s_coprimes_up_to : Stmt := topS 9
abbrev N_coprimes_up_to : List Str := ["number", "primes", "signed", "prime", "product", "sign"]
theorem sc_coprimes_up_to : FnScope N_coprimes_up_to ["number", "primes"] (defScope s_coprimes_up_to) := ⟨rfl, rfl, rfl, by decide +kernel, rfl, by decide +kernel, by decide +kernel⟩
abbrev s_order_up_to : Stmt := topS 10
abbrev N_order_up_to : List Str := ["number", "most", "power", "k"]
theorem sc_order_up_to : FnScope N_order_up_to ["number", "most"] (defScope s_order_up_to) := ⟨rfl, rfl, rfl, by decide +kernel, rfl, by decide +kernel, by decide +kernel⟩
abbrev s_merged : Stmt := topS 11
abbrev N_merged : List Str := ["length", "values", "prime", "shorter", "found", "divisor", "key"]
theorem sc_merged : FnScope N_merged ["length", "values", "prime"] (defScope s_merged) := ⟨rfl, rfl, rfl, by decide +kernel, rfl, by decide +kernel, by decide +kernel⟩
abbrev s_least_table : Stmt := topS 12
abbrev N_least_table : List Str := ["length", "values", "short", "told", "prime", "found"]
theorem sc_least_table : FnScope N_least_table ["length", "values"] (defScope s_least_table) := ⟨rfl, rfl, rfl, by decide +kernel, rfl, by decide +kernel, by decide +kernel⟩
abbrev s_formed : Stmt := topS 24
abbrev N_formed : List Str := ["head", "start", "length", "divisors", "values", "members", "kept", "taken", "divisor", "w", "key"]
theorem sc_formed : FnScope N_formed ["head", "start", "length", "divisors"] (defScope s_formed) := ⟨rfl, rfl, rfl, by decide +kernel, rfl, by decide +kernel, by decide +kernel⟩
abbrev s_first_out_of : Stmt := topS 25
abbrev N_first_out_of : List Str := ["numbers", "low", "high", "number"]
theorem sc_first_out_of : FnScope N_first_out_of ["numbers", "low", "high"] (defScope s_first_out_of) := ⟨rfl, rfl, rfl, by decide +kernel, rfl, by decide +kernel, by decide +kernel⟩
abbrev s_is_chosen : Stmt := topS 26
abbrev N_is_chosen : List Str := ["rule", "is_in_one", "is_in_other"]
theorem sc_is_chosen : FnScope N_is_chosen ["rule", "is_in_one", "is_in_other"] (defScope s_is_chosen) := ⟨rfl, rfl, rfl, by decide +kernel, rfl, by decide +kernel, by decide +kernel⟩
abbrev s_greater : Stmt := topS 27
abbrev N_greater : List Str := ["one", "other"]
theorem sc_greater : FnScope N_greater ["one", "other"] (defScope s_greater) := ⟨rfl, rfl, rfl, by decide +kernel, rfl, by decide +kernel, by decide +kernel⟩
abbrev s_is_member : Stmt := topS 28
abbrev N_is_member : List Str := ["parts", "x", "head", "start", "length", "divisors"]
theorem sc_is_member : FnScope N_is_member ["parts", "x"] (defScope s_is_member) := ⟨rfl, rfl, rfl, by decide +kernel, rfl, by decide +kernel, by decide +kernel⟩
abbrev s_joined_parts : Stmt := topS 29
abbrev N_joined_parts : List Str := ["one", "other", "rule", "start", "length", "head", "found", "divisor", "w"]
theorem sc_joined_parts : FnScope N_joined_parts ["one", "other", "rule"] (defScope s_joined_parts) := ⟨rfl, rfl, rfl, by decide +kernel, rfl, by decide +kernel, by decide +kernel⟩
abbrev s_joined_sets : Stmt := topS 30
abbrev N_joined_sets : List Str := ["one", "other", "rule", "head", "start", "length", "divisors"]
theorem sc_joined_sets : FnScope N_joined_sets ["one", "other", "rule"] (defScope s_joined_sets) := ⟨rfl, rfl, rfl, by decide +kernel, rfl, by decide +kernel, by decide +kernel⟩
abbrev s_is_nothing : Stmt := topS 31
abbrev N_is_nothing : List Str := ["one", "other", "rule", "head", "start", "length", "divisors"]
theorem sc_is_nothing : FnScope N_is_nothing ["one", "other", "rule"] (defScope s_is_nothing) := ⟨rfl, rfl, rfl, by decide +kernel, rfl, by decide +kernel, by decide +kernel⟩
abbrev s_classes_of : Stmt := topS 33
abbrev N_classes_of : List Str := ["length", "divisors", "divisor"]
theorem sc_classes_of : FnScope N_classes_of ["length", "divisors"] (defScope s_classes_of) := ⟨rfl, rfl, rfl, by decide +kernel, rfl, by decide +kernel, by decide +kernel⟩
abbrev s_members_up_to : Stmt := topS 34
abbrev N_members_up_to : List Str := ["head", "start", "classes", "n", "many", "divisor", "primes", "w"]
theorem sc_members_up_to : FnScope N_members_up_to ["head", "start", "classes", "n"] (defScope s_members_up_to) := ⟨rfl, rfl, rfl, by decide +kernel, rfl, by decide +kernel, by decide +kernel⟩
abbrev s_number_in : Stmt := topS 35
abbrev N_number_in : List Str := ["text", "sign"]
theorem sc_number_in : FnScope N_number_in ["text"] (defScope s_number_in) := ⟨rfl, rfl, rfl, by decide +kernel, rfl, by decide +kernel, by decide +kernel⟩
abbrev s_numbers_in : Stmt := topS 36
abbrev N_numbers_in : List Str := ["text", "numbers", "word"]
theorem sc_numbers_in : FnScope N_numbers_in ["text"] (defScope s_numbers_in) := ⟨rfl, rfl, rfl, by decide +kernel, rfl, by decide +kernel, by decide +kernel⟩
abbrev s_numbers_text : Stmt := topS 37
abbrev N_numbers_text : List Str := ["numbers", "number"]
theorem sc_numbers_text : FnScope N_numbers_text ["numbers"] (defScope s_numbers_text) := ⟨rfl, rfl, rfl, by decide +kernel, rfl, by decide +kernel, by decide +kernel⟩
abbrev s_w_init : Stmt := inClass (topS 38) 1
abbrev N_w_init : List Str := ["self", "head", "start", "length", "divisors"]
theorem sc_w_init : FnScope N_w_init ["self", "head", "start", "length", "divisors"] (defScope s_w_init) := ⟨rfl, rfl, rfl, by decide +kernel, rfl, by decide +kernel, by decide +kernel⟩
abbrev s_w_of : Stmt := inClass (topS 38) 4
abbrev N_w_of : List Str := ["widths", "most", "width"]
theorem sc_w_of : FnScope N_w_of ["widths"] (defScope s_w_of) := ⟨rfl, rfl, rfl, by decide +kernel, rfl, by decide +kernel, by decide +kernel⟩
abbrev s_w_from_width : Stmt := inClass (topS 38) 5
abbrev N_w_from_width : List Str := ["w"]
theorem sc_w_from_width : FnScope N_w_from_width ["w"] (defScope s_w_from_width) := ⟨rfl, rfl, rfl, by decide +kernel, rfl, by decide +kernel, by decide +kernel⟩
abbrev s_w_multiples : Stmt := inClass (topS 38) 6
abbrev N_w_multiples : List Str := ["k"]
theorem sc_w_multiples : FnScope N_w_multiples ["k"] (defScope s_w_multiples) := ⟨rfl, rfl, rfl, by decide +kernel, rfl, by decide +kernel, by decide +kernel⟩
abbrev s_w_dividing : Stmt := inClass (topS 38) 7
abbrev N_w_dividing : List Str := ["q", "order"]
theorem sc_w_dividing : FnScope N_w_dividing ["q"] (defScope s_w_dividing) := ⟨rfl, rfl, rfl, by decide +kernel, rfl, by decide +kernel, by decide +kernel⟩
abbrev s_w_told : Stmt := inClass (topS 38) 8
abbrev N_w_told : List Str := ["head", "start", "length", "divisors", "divisor"]
theorem sc_w_told : FnScope N_w_told ["head", "start", "length", "divisors"] (defScope s_w_told) := ⟨rfl, rfl, rfl, by decide +kernel, rfl, by decide +kernel, by decide +kernel⟩
abbrev s_w_read : Stmt := inClass (topS 38) 9
abbrev N_w_read : List Str := ["cls", "text", "parts", "numbers", "head", "start", "length", "divisors", "found", "part", "w", "divisor"]
theorem sc_w_read : FnScope N_w_read ["cls", "text"] (defScope s_w_read) := ⟨rfl, rfl, rfl, by decide +kernel, rfl, by decide +kernel, by decide +kernel⟩
abbrev s_w_contains : Stmt := inClass (topS 38) 12
abbrev N_w_contains : List Str := ["self", "x"]
theorem sc_w_contains : FnScope N_w_contains ["self", "x"] (defScope s_w_contains) := ⟨rfl, rfl, rfl, by decide +kernel, rfl, by decide +kernel, by decide +kernel⟩
abbrev s_w_described : Stmt := inClass (topS 38) 13
abbrev N_w_described : List Str := ["self"]
theorem sc_w_described : FnScope N_w_described ["self"] (defScope s_w_described) := ⟨rfl, rfl, rfl, by decide +kernel, rfl, by decide +kernel, by decide +kernel⟩
abbrev s_w_and : Stmt := inClass (topS 38) 14
abbrev N_w_and : List Str := ["self", "other"]
theorem sc_w_and : FnScope N_w_and ["self", "other"] (defScope s_w_and) := ⟨rfl, rfl, rfl, by decide +kernel, rfl, by decide +kernel, by decide +kernel⟩
abbrev s_w_or : Stmt := inClass (topS 38) 15
abbrev N_w_or : List Str := ["self", "other"]
theorem sc_w_or : FnScope N_w_or ["self", "other"] (defScope s_w_or) := ⟨rfl, rfl, rfl, by decide +kernel, rfl, by decide +kernel, by decide +kernel⟩
abbrev s_w_sub : Stmt := inClass (topS 38) 16
abbrev N_w_sub : List Str := ["self", "other"]
theorem sc_w_sub : FnScope N_w_sub ["self", "other"] (defScope s_w_sub) := ⟨rfl, rfl, rfl, by decide +kernel, rfl, by decide +kernel, by decide +kernel⟩
abbrev s_w_xor : Stmt := inClass (topS 38) 17
abbrev N_w_xor : List Str := ["self", "other"]
theorem sc_w_xor : FnScope N_w_xor ["self", "other"] (defScope s_w_xor) := ⟨rfl, rfl, rfl, by decide +kernel, rfl, by decide +kernel, by decide +kernel⟩
abbrev s_w_invert : Stmt := inClass (topS 38) 18
abbrev N_w_invert : List Str := ["self"]
theorem sc_w_invert : FnScope N_w_invert ["self"] (defScope s_w_invert) := ⟨rfl, rfl, rfl, by decide +kernel, rfl, by decide +kernel, by decide +kernel⟩
abbrev s_w_le : Stmt := inClass (topS 38) 19
abbrev N_w_le : List Str := ["self", "other"]
theorem sc_w_le : FnScope N_w_le ["self", "other"] (defScope s_w_le) := ⟨rfl, rfl, rfl, by decide +kernel, rfl, by decide +kernel, by decide +kernel⟩
abbrev s_w_eq : Stmt := inClass (topS 38) 23
abbrev N_w_eq : List Str := ["self", "other"]
theorem sc_w_eq : FnScope N_w_eq ["self", "other"] (defScope s_w_eq) := ⟨rfl, rfl, rfl, by decide +kernel, rfl, by decide +kernel, by decide +kernel⟩
abbrev s_w_str : Stmt := inClass (topS 38) 25
abbrev N_w_str : List Str := ["self", "parts", "part"]
theorem sc_w_str : FnScope N_w_str ["self"] (defScope s_w_str) := ⟨rfl, rfl, rfl, by decide +kernel, rfl, by decide +kernel, by decide +kernel⟩
abbrev s_w_up_to : Stmt := inClass (topS 38) 27
abbrev N_w_up_to : List Str := ["self", "n"]
theorem sc_w_up_to : FnScope N_w_up_to ["self", "n"] (defScope s_w_up_to) := ⟨rfl, rfl, rfl, by decide +kernel, rfl, by decide +kernel, by decide +kernel⟩
abbrev s_w_kth : Stmt := inClass (topS 38) 28
abbrev N_w_kth : List Str := ["self", "k", "classes", "low", "high", "middle"]
theorem sc_w_kth : FnScope N_w_kth ["self", "k"] (defScope s_w_kth) := ⟨rfl, rfl, rfl, by decide +kernel, rfl, by decide +kernel, by decide +kernel⟩
abbrev s__law_pen : Stmt := topS 40
abbrev N__law_pen : List Str := ["_law_script"]
theorem sc__law_pen : FnScope N__law_pen ["_law_script"] (defScope s__law_pen) := ⟨rfl, rfl, rfl, by decide +kernel, rfl, by decide +kernel, by decide +kernel⟩
abbrev s__law_draw : Stmt := topS 41
abbrev N__law_draw : List Str := ["_law_pen_here", "_law_many", "_law_digit", "_law_at", "_law_cell", "_law_great", "_law_mixed"]
theorem sc__law_draw : FnScope N__law_draw ["_law_pen_here", "_law_many"] (defScope s__law_draw) := ⟨rfl, rfl, rfl, by decide +kernel, rfl, by decide +kernel, by decide +kernel⟩
abbrev s__law_pick : Stmt := topS 42
abbrev N__law_pick : List Str := ["_law_pen_here", "_law_some"]
theorem sc__law_pick : FnScope N__law_pick ["_law_pen_here", "_law_some"] (defScope s__law_pick) := ⟨rfl, rfl, rfl, by decide +kernel, rfl, by decide +kernel, by decide +kernel⟩
abbrev s__law_gcd : Stmt := topS 43
abbrev N__law_gcd : List Str := ["_law_one", "_law_other"]
theorem sc__law_gcd : FnScope N__law_gcd ["_law_one", "_law_other"] (defScope s__law_gcd) := ⟨rfl, rfl, rfl, by decide +kernel, rfl, by decide +kernel, by decide +kernel⟩
abbrev s__law_divisors : Stmt := topS 44
abbrev N__law_divisors : List Str := ["_law_amount", "_law_low", "_law_high", "_law_k"]
theorem sc__law_divisors : FnScope N__law_divisors ["_law_amount"] (defScope s__law_divisors) := ⟨rfl, rfl, rfl, by decide +kernel, rfl, by decide +kernel, by decide +kernel⟩
abbrev s__law_leaf : Stmt := topS 45
abbrev N__law_leaf : List Str := ["_law_pen_here", "_law_way", "_law_some", "_law_low", "_law_part", "_law_odd", "_law_period", "_law_goals", "_law_k"]
theorem sc__law_leaf : FnScope N__law_leaf ["_law_pen_here"] (defScope s__law_leaf) := ⟨rfl, rfl, rfl, by decide +kernel, rfl, by decide +kernel, by decide +kernel⟩
abbrev s__law_tree : Stmt := topS 46
abbrev N__law_tree : List Str := ["_law_pen_here", "_law_deep", "_law_way", "_law_one", "_law_first", "_law_other", "_law_second"]
theorem sc__law_tree : FnScope N__law_tree ["_law_pen_here", "_law_deep"] (defScope s__law_tree) := ⟨rfl, rfl, rfl, by decide +kernel, rfl, by decide +kernel, by decide +kernel⟩
abbrev s__law_meant : Stmt := topS 47
abbrev N__law_meant : List Str := ["_law_tree_here", "_law_w", "_law_word", "_law_a", "_law_b"]
theorem sc__law_meant : FnScope N__law_meant ["_law_tree_here", "_law_w"] (defScope s__law_meant) := ⟨rfl, rfl, rfl, by decide +kernel, rfl, by decide +kernel, by decide +kernel⟩
abbrev s__law_counted_right : Stmt := topS 48
abbrev N__law_counted_right : List Str := ["_law_pen_here", "_law_made", "_law_truths", "_law_most", "_law_ring", "_law_low", "_law_n", "_law_due", "_law_rounds", "_law_found", "_law_k", "_law_w"]
theorem sc__law_counted_right : FnScope N__law_counted_right ["_law_pen_here", "_law_made", "_law_truths", "_law_most"] (defScope s__law_counted_right) := ⟨rfl, rfl, rfl, by decide +kernel, rfl, by decide +kernel, by decide +kernel⟩
abbrev s__law_least_right : Stmt := topS 49
abbrev N__law_least_right : List Str := ["_law_made", "_law_truths", "_law_w", "_law_short", "_law_told", "_law_key"]
theorem sc__law_least_right : FnScope N__law_least_right ["_law_made", "_law_truths"] (defScope s__law_least_right) := ⟨rfl, rfl, rfl, by decide +kernel, rfl, by decide +kernel, by decide +kernel⟩
abbrev s_law : Stmt := topS 50
abbrev N_law : List Str := ["_law_script", "_law_pen_here", "_law_most", "_law_turn", "_law_tree_here", "_law_made", "_law_truths", "_law_goals", "_law_again", "_law_other", "_law_more", "_law_part", "_law_w"]
theorem sc_law : FnScope N_law ["_law_script"] (defScope s_law) := ⟨rfl, rfl, rfl, by decide +kernel, rfl, by decide +kernel, by decide +kernel⟩
end K53
/-! defs, methods, static methods of the text; the promises -/
namespace K53
open PySem PySem.Spec PyProof.Rows L2 Evl
/-- a def of the module -/
structure Fn (K : PySem.W.Frag) (mg : Str → Option Value) (x : Str) (st : Stmt) (ps : List Str) : Prop where
  ex : ∃ (f : Addr) (fd : FuncData), Fun K x x st f fd ∧ mg x = some (.ref f) ∧ Binds K fd ps []
structure Fm (K : PySem.W.Frag) (C : Addr) (m qual : Str) (st : Stmt) (ps : List Str) : Prop where
  ex : ∃ (f : Addr) (fd : FuncData), Fun K m qual st f fd ∧ Meth K C m f ∧ Binds K fd ps []
structure Fs (K : PySem.W.Frag) (C : Addr) (m qual : Str) (st : Stmt) (ps : List Str) : Prop where
  ex : ∃ (mc : Value) (f p : Addr) (fd : FuncData) (rest : List Value), Fun K m qual st f fd ∧ ClX.CRead K C mc ∧ PySem.W.findCls K (.ref C) mc m = some (.get (.builtin "staticmethod.__get__") (.ref p) .none (.ref C)) ∧
    PySem.W.recIn K p "staticmethod" = some (.ref f :: rest) ∧ Binds K fd ps []
structure Fc (K : PySem.W.Frag) (C : Addr) (m qual : Str) (st : Stmt) (ps : List Str) : Prop where
  ex : ∃ (mc : Value) (f p : Addr) (fd : FuncData), Fun K m qual st f fd ∧ ClX.CRead K C mc ∧ ClX.CMet K C mc m p f ∧ Binds K fd ps []
/-- a body keeps its promise, whoever calls -/
def Body (P : Program) (w : World) (K : PySem.W.Frag) (mg : Str → Option Value) (base : Heap) (k : Nat) (qual : Str) (st : Stmt) (N : List Str) (sp : Sp) : Prop :=
  ∀ (f : Addr) (cdv : Value) (A : Around) (outer : List Env) (s : Shared) (H : Hp) (vs : List V) (Q : VK) (E : XK), Room k (A.deeper (envOfC qual (defScope st) s.heap.objs.size f cdv)) → sp vs H Q E →
      ∃ t, PSs (cxOf CX0 P w K mg base N qual (defScope st) f cdv A outer s H E).nox (defBody st) t ∧ t { nx := fun _ H' => Q .non H', rt := Q } (start N vs) H
section
variable {P : Program} {w : World} {K : PySem.W.Frag} {mg : Str → Option Value} {base : Heap} {k : Nat} {x m qual : Str} {C : Addr} {st : Stmt} {N ps : List Str} {sp : Sp}
theorem Fn.cl (F : Fn K mg x st ps) (S : FnScope N ps (defScope st)) (len : ∀ vs H Q E, sp vs H Q E → vs.length = ps.length) (B : Body P w K mg base k x st N sp) : Cl P w K mg base (k + 1) x sp := by
  obtain ⟨f, fd, F0, hm, b⟩ := F.ex
  exact cl_mk (F0.ok S len fun cdv A outer s H vs Q E hr h => B f cdv A outer s H vs Q E hr h) b hm F0.kp
theorem Fm.fr (F : Fm K C m qual st ps) (S : FnScope N ps (defScope st)) (len : ∀ vs H Q E, sp vs H Q E → vs.length = ps.length) (B : Body P w K mg base k qual st N sp) : ∃ f, FnR P w K mg base CX0 (k + 1) f sp ∧ Meth K C m f := by
  obtain ⟨f, fd, F0, hm, b⟩ := F.ex
  exact ⟨f, fnr_mk (F0.ok S len fun cdv A outer s H vs Q E hr h => B f cdv A outer s H vs Q E hr h) b, hm⟩
theorem Fm.mt (F : Fm K C m qual st ps) (S : FnScope N ps (defScope st)) (len : ∀ vs H Q E, sp vs H Q E → vs.length = ps.length) (B : Body P w K mg base k qual st N sp) : Mt P w K mg base (k + 1) C m sp := ⟨F.fr S len B⟩
theorem Fs.sm (F : Fs K C m qual st ps) (S : FnScope N ps (defScope st)) (len : ∀ vs H Q E, sp vs H Q E → vs.length = ps.length) (B : Body P w K mg base k qual st N sp) : Sm P w K mg base (k + 1) C m sp := by
  obtain ⟨mc, f, p, fd, rest, F0, r, a, b, bd⟩ := F.ex
  exact ⟨mc, f, p, rest, fnr_mk (F0.ok S len fun cdv A outer s H vs Q E hr h => B f cdv A outer s H vs Q E hr h) bd, r, a, b, F0.kp⟩
theorem Fc.cm (F : Fc K C m qual st ps) (S : FnScope N ps (defScope st)) (len : ∀ vs H Q E, sp vs H Q E → vs.length = ps.length) (B : Body P w K mg base k qual st N sp) : Cm P w K mg base (k + 1) C m sp := by
  obtain ⟨mc, f, p, fd, F0, r, a, bd⟩ := F.ex
  exact ⟨mc, f, p, fnr_mk (F0.ok S len fun cdv A outer s H vs Q E hr h => B f cdv A outer s H vs Q E hr h) bd, r, a⟩
end

/-! ### data in the heap -/
def nv (n : Nat) : V := .int (n : Int)
abbrev nvs (xs : List Nat) : List V := xs.map nv
theorem ex_seqL {K : PySem.W.Frag} {H H' : Hp} {a : Addr} {xs : List V} (e : Ex H H') (h : SqL K H a xs) : SqL K H' a xs := ex_l e h
/-- the attributes of a set -/
def wf (h : Addr) (s L : Nat) (d : Addr) : List (Str × V) := putF "divisors" (.ref d) (putF "length" (nv L) (putF "start" (nv s) (putF "head" (.ref h) [])))
theorem wf_head (h : Addr) (s L : Nat) (d : Addr) : (wf h s L d).lookup ("head" : Str) = some (.ref h) := by
  unfold wf
  rw [lookup_putF, if_neg (by decide +kernel), lookup_putF, if_neg (by decide +kernel), lookup_putF, if_neg (by decide +kernel), lookup_putF, if_pos rfl]
theorem wf_start (h : Addr) (s L : Nat) (d : Addr) : (wf h s L d).lookup ("start" : Str) = some (nv s) := by
  unfold wf
  rw [lookup_putF, if_neg (by decide +kernel), lookup_putF, if_neg (by decide +kernel), lookup_putF, if_pos rfl]
theorem wf_length (h : Addr) (s L : Nat) (d : Addr) : (wf h s L d).lookup ("length" : Str) = some (nv L) := by
  unfold wf
  rw [lookup_putF, if_neg (by decide +kernel), lookup_putF, if_pos rfl]
theorem wf_divisors (h : Addr) (s L : Nat) (d : Addr) : (wf h s L d).lookup ("divisors" : Str) = some (.ref d) := by
  unfold wf
  rw [lookup_putF, if_pos rfl]
theorem wf_no (h : Addr) (s L : Nat) (d : Addr) {m : Str} (h1 : ¬ m = "divisors") (h2 : ¬ m = "length") (h3 : ¬ m = "start") (h4 : ¬ m = "head") : (wf h s L d).lookup m = none := by
  unfold wf
  rw [lookup_putF, if_neg h1, lookup_putF, if_neg h2, lookup_putF, if_neg h3, lookup_putF, if_neg h4]
  rfl
/-- a set of widths at a, its form -/
structure WFm (K : PySem.W.Frag) (C : Addr) (H : Hp) (a : Addr) (h : List Nat) (s L : Nat) (d : List Nat) : Prop where
  ex : ∃ dx hp dp, H a = some (.ins C dx (wf hp s L dp)) ∧ SqT K H hp (nvs h) ∧ SqT K H dp (nvs d)
def WAt (K : PySem.W.Frag) (C : Addr) (H : Hp) (a : Addr) (S : Nat → Bool) : Prop := ∃ h s L d, WFm K C H a h s L d ∧ M53.Form S h s L d
theorem WFm.ext {K : PySem.W.Frag} {C : Addr} {H H' : Hp} {a : Addr} {h : List Nat} {s L : Nat} {d : List Nat} (w : WFm K C H a h s L d) (e : Ex H H') : WFm K C H' a h s L d := by
  obtain ⟨dx, hp, dp, h1, h2, h3⟩ := w.ex
  exact ⟨dx, hp, dp, e _ _ h1, ex_t e h2, ex_t e h3⟩
theorem WAt.ext {K : PySem.W.Frag} {C : Addr} {H H' : Hp} {a : Addr} {S : Nat → Bool} (w : WAt K C H a S) (e : Ex H H') : WAt K C H' a S :=
  let ⟨h, s, L, d, w1, F⟩ := w
  ⟨h, s, L, d, w1.ext e, F⟩
theorem WAt.congr {K : PySem.W.Frag} {C : Addr} {H : Hp} {a : Addr} {S S' : Nat → Bool} (w : WAt K C H a S) (e : ∀ n, 1 ≤ n → S n = S' n) : WAt K C H a S' :=
  let ⟨h, s, L, d, w1, F⟩ := w
  ⟨h, s, L, d, w1, F.congr e⟩
/-- a list or a tuple -/
def SqA (K : PySem.W.Frag) (H : Hp) (a : Addr) (xs : List V) : Prop := SqL K H a xs ∨ SqT K H a xs
theorem SqA.ext {K : PySem.W.Frag} {H H' : Hp} {a : Addr} {xs : List V} (h : SqA K H a xs) (e : Ex H H') : SqA K H' a xs := h.imp (ex_l e) (ex_t e)
/-- a new set handed back -/
def RetW (K : PySem.W.Frag) (C : Addr) (S : Nat → Bool) (H : Hp) (Q : VK) : Prop := ∀ a H2, Ex H H2 → WAt K C H2 a S → Q (.ref a) H2
/-- head, start, length, divisors -/
def PartsAt (K : PySem.W.Frag) (H : Hp) (p : Addr) (h : List Nat) (s L : Nat) (d : List Nat) : Prop := ∃ hp dp, SqT K H p [.ref hp, nv s, nv L, .ref dp] ∧ SqT K H hp (nvs h) ∧ SqT K H dp (nvs d)
theorem PartsAt.ext {K : PySem.W.Frag} {H H' : Hp} {p : Addr} {h : List Nat} {s L : Nat} {d : List Nat} (w : PartsAt K H p h s L d) (e : Ex H H') : PartsAt K H' p h s L d :=
  let ⟨hp, dp, a, b, c⟩ := w
  ⟨hp, dp, ex_t e a, ex_t e b, ex_t e c⟩

/-! ### the promises -/
def spInt : Sp := fun vs H Q _ => ∃ n : Int, vs = [.int n] ∧ RetV (.bl true) H Q
def spBetween : Sp := fun vs H Q _ => ∃ n lo hi : Int, vs = [.int n, .int lo, .int hi] ∧ RetV (.bl (decide (lo ≤ n) && decide (n ≤ hi))) H Q
def spGcd : Sp := fun vs H Q _ => ∃ a b : Nat, vs = [nv a, nv b] ∧ RetV (nv (Nat.gcd a b)) H Q
def spLcm : Sp := fun vs H Q _ => ∃ a b : Nat, vs = [nv a, nv b] ∧ a ∈ M53.D ∧ b ∈ M53.D ∧ RetV (nv (M53.lcm a b)) H Q
def spPrimes : Sp := fun vs H Q _ => ∃ n : Nat, vs = [nv n] ∧ n ∈ M53.D ∧ RetL (nvs (M53.pf n)) H Q
def spDivisors : Sp := fun vs H Q _ => ∃ n : Nat, vs = [nv n] ∧ n ∈ M53.D ∧ RetL (nvs (M53.dv n)) H Q
def spCop (K : PySem.W.Frag) : Sp := fun vs H Q _ => ∃ (N q : Nat) (p : Addr), vs = [nv N, .ref p] ∧ q ∈ M53.D ∧ SqL K H p (nvs (M53.pf q)) ∧ RetV (.int (M53.copI N (M53.sg (M53.pf q)))) H Q
def spOrder : Sp := fun vs H Q _ => ∃ q : Nat, vs = [nv q, .int 5040] ∧ q ∈ M53.menuQ ∧ RetV (nv (M53.ord q)) H Q
def tabV (v : Nat → Bool) (ds : List Nat) : List (Key × V) := ds.map fun (d : Nat) => ((Sum.inl (d : Int) : Key), V.bl (v d))
/-- a dict over the divisors of L -/
def TabAt (H : Hp) (a : Addr) (L : Nat) (v : Nat → Bool) : Prop := ∃ ds : List Nat, ds.Nodup ∧ (∀ d, d ∈ ds ↔ d ∣ L) ∧ ds.length ≤ 16 ∧ H a = some (.dK (tabV v ds))
theorem TabAt.ext {H H' : Hp} {a : Addr} {L : Nat} {v : Nat → Bool} (t : TabAt H a L v) (e : Ex H H') : TabAt H' a L v :=
  let ⟨ds, a1, a2, a3, a4⟩ := t
  ⟨ds, a1, a2, a3, e _ _ a4⟩
def spMerged : Sp := fun vs H Q _ => ∃ (L p : Nat) (a : Addr) (v : Nat → Bool), vs = [nv L, .ref a, nv p] ∧ L ∣ 120 ∧ p ∈ M53.pf L ∧ TabAt H a L v ∧
  (M53.Irr p L v → RetV .non H Q) ∧ (∀ b v2 H2, Ex H H2 → H b = none → TabAt H2 b (L / p) v2 → (∀ d, d ∣ L → v d = v2 (Nat.gcd d (L / p))) → Q (.ref b) H2)
def spLeast (K : PySem.W.Frag) : Sp := fun vs H Q _ => ∃ (L : Nat) (a : Addr) (v : Nat → Bool), vs = [nv L, .ref a] ∧ L ∣ 120 ∧ TabAt H a L v ∧
  ∀ t b L1 v1 H2, Ex H H2 → SqT K H2 t [nv L1, .ref b] → TabAt H2 b L1 v1 → L1 ∣ L → (∀ d, d ∣ L → v d = v1 (Nat.gcd d L1)) → (∀ p ∈ M53.pf L1, M53.Irr p L1 v1) → Q (.ref t) H2
/-- formed: S by its parts -/
def spFormed (K : PySem.W.Frag) (C : Addr) : Sp := fun vs H Q _ => ∃ (hp dp : Addr) (xs ds : List Nat) (s L : Nat) (S : Nat → Bool), vs = [.ref hp, nv s, nv L, .ref dp] ∧ SqA K H hp (nvs xs) ∧ SqA K H dp (nvs ds) ∧ L ∣ 120 ∧ 1 ≤ s ∧ s ≤ 2000 ∧ xs.length ≤ 2000 ∧
  (∀ x ∈ xs, 1 ≤ x ∧ x < s) ∧ (∀ w, 1 ≤ w → w < s → S w = decide (w ∈ xs)) ∧ (∀ w, s ≤ w → S w = decide (Nat.gcd w L ∈ ds)) ∧ M53.Tail S ∧ RetW K C S H Q
def spFirst (K : PySem.W.Frag) : Sp := fun vs H Q _ => ∃ (p : Addr) (xs : List Nat) (lo hi : Int), vs = [.ref p, .int lo, .int hi] ∧ SqA K H p (nvs xs) ∧ (∀ x ∈ xs, lo ≤ (x : Int) ∧ (x : Int) ≤ hi) ∧ RetV .non H Q
/-- the four rules -/
def ruleF (r : Str) (a b : Bool) : Bool := if r = "both" then a && b else if r = "either" then a || b else if r = "first" then a && !b else a != b
def spChosen : Sp := fun vs H Q _ => ∃ (r : Str) (a b : Bool), vs = [.str r, .bl a, .bl b] ∧ RetV (.bl (ruleF r a b)) H Q
def spGreater : Sp := fun vs H Q _ => ∃ a b : Int, vs = [.int a, .int b] ∧ RetV (.int (if b < a then a else b)) H Q
def spMember (K : PySem.W.Frag) : Sp := fun vs H Q _ => ∃ (p : Addr) (h : List Nat) (s L : Nat) (d : List Nat) (w : Nat), vs = [.ref p, nv w] ∧ PartsAt K H p h s L d ∧ RetV (.bl (if w < s then decide (w ∈ h) else decide (Nat.gcd w L ∈ d))) H Q
/-- the parts of what a rule makes of two sets: a head as a list, a start, a length, divisors as a list -/
def JoinAt (K : PySem.W.Frag) (H : Hp) (hp : Addr) (s L : Nat) (dp : Addr) (S : Nat → Bool) : Prop := ∃ xs ds : List Nat, SqL K H hp (nvs xs) ∧ SqL K H dp (nvs ds) ∧ L ∣ 120 ∧ 1 ≤ s ∧ s ≤ 601 ∧ xs.length ≤ 601 ∧ ds.length ≤ 16 ∧
  (∀ x, x ∈ xs ↔ 1 ≤ x ∧ x < s ∧ S x = true) ∧ (∀ g ∈ ds, g ∣ L) ∧ (∀ w, s ≤ w → S w = decide (Nat.gcd w L ∈ ds))
def spJParts (K : PySem.W.Frag) : Sp := fun vs H Q _ => ∃ (p q : Addr) (r : Str) (h : List Nat) (s L : Nat) (d : List Nat) (S : Nat → Bool) (h' : List Nat) (s' L' : Nat) (d' : List Nat) (S' : Nat → Bool), vs = [.ref p, .ref q, .str r] ∧
  PartsAt K H p h s L d ∧ M53.Form S h s L d ∧ PartsAt K H q h' s' L' d' ∧ M53.Form S' h' s' L' d' ∧
  ∀ t hp s2 L2 dp H2, Ex H H2 → SqT K H2 t [.ref hp, nv s2, nv L2, .ref dp] → JoinAt K H2 hp s2 L2 dp (fun w => ruleF r (S w) (S' w)) → Q (.ref t) H2
def spJSets (K : PySem.W.Frag) (C : Addr) : Sp := fun vs H Q _ => ∃ (p q : Addr) (r : Str) (h : List Nat) (s L : Nat) (d : List Nat) (S : Nat → Bool) (h' : List Nat) (s' L' : Nat) (d' : List Nat) (S' : Nat → Bool), vs = [.ref p, .ref q, .str r] ∧
  PartsAt K H p h s L d ∧ M53.Form S h s L d ∧ PartsAt K H q h' s' L' d' ∧ M53.Form S' h' s' L' d' ∧ RetW K C (fun w => ruleF r (S w) (S' w)) H Q
def spNothing (K : PySem.W.Frag) : Sp := fun vs H Q _ => ∃ (p q : Addr) (r : Str) (h : List Nat) (s L : Nat) (d : List Nat) (S : Nat → Bool) (h' : List Nat) (s' L' : Nat) (d' : List Nat) (S' : Nat → Bool), vs = [.ref p, .ref q, .str r] ∧
  PartsAt K H p h s L d ∧ M53.Form S h s L d ∧ PartsAt K H q h' s' L' d' ∧ M53.Form S' h' s' L' d' ∧ ∀ b : Bool, (b = true ↔ ∀ w, 1 ≤ w → w ≤ 840 → ruleF r (S w) (S' w) = false) → RetV (.bl b) H Q
/-- classes: each divisor with its list of primes -/
def ClassAt (K : PySem.W.Frag) (H : Hp) (L : Nat) (x : V) (g : Nat) : Prop := ∃ t l, x = .ref t ∧ SqT K H t [nv g, .ref l] ∧ SqL K H l (nvs (M53.pf (L / g)))
def ClassesAt (K : PySem.W.Frag) (H : Hp) (p : Addr) (L : Nat) (d : List Nat) : Prop := ∃ xs : List V, SqL K H p xs ∧ xs.length = d.length ∧ ∀ (i : Nat) x g, xs[i]? = some x → d[i]? = some g → ClassAt K H L x g
def spClasses (K : PySem.W.Frag) : Sp := fun vs H Q _ => ∃ (L : Nat) (dp : Addr) (d : List Nat), vs = [nv L, .ref dp] ∧ L ∣ 120 ∧ SqT K H dp (nvs d) ∧ (∀ g ∈ d, g ∣ L) ∧ d.length ≤ 16 ∧
  ∀ p H2, Ex H H2 → ClassesAt K H2 p L d → Q (.ref p) H2
def spUpTo' (K : PySem.W.Frag) : Sp := fun vs H Q _ => ∃ (hp p : Addr) (h : List Nat) (s L : Nat) (d : List Nat) (n : Nat) (S : Nat → Bool), vs = [.ref hp, nv s, .ref p, nv n] ∧ SqT K H hp (nvs h) ∧ ClassesAt K H p L d ∧ M53.Form S h s L d ∧ RetV (nv (M53.cnt S n)) H Q
end K53
/-! more of what evaluates to what -/
namespace K53
open PySem PySem.Spec PyProof.Rows L2 Evl
section
variable {K : PySem.W.Frag} {σ : L2.St} {H H' : Hp} {ta tb tc te : TE} {t : TA} {x y z v : V} {r r' : R2} {a b : Bool}
theorem ev_chain (ha : Ev ta σ H x) (hb : Ev tb σ H y) (hr : RV r x y H (.bl a)) (hc : Ev tc σ H z) (hr' : a = true → RV r' y z H (.bl b)) : Ev (tChain r r' ta tb tc) σ H (.bl (a && b)) := fun H1 e Q q =>
  ha H1 e _ fun H2 e2 => hb H2 (e.trans e2) _ fun H3 e3 => hr H3 ((e.trans e2).trans e3) _ fun H4 e4 => ⟨a, rfl, by
    cases a with
    | true => exact hc H4 (((e.trans e2).trans e3).trans e4) _ fun H5 e5 => hr' rfl H5 ((((e.trans e2).trans e3).trans e4).trans e5) Q fun H6 e6 => q H6 ((((e2.trans e3).trans e4).trans e5).trans e6)
    | false => exact q H4 ((e2.trans e3).trans e4)⟩
theorem ev_tF {sp : Sp} {vs : List V} (h : EvA t σ H vs) (hs : SpV sp vs H z) : Ev (tF sp t) σ H z := fun H1 e Q q =>
  h H1 e _ fun H2 e2 => hs H2 (e.trans e2) Q (fun H3 e3 => q H3 (e2.trans e3)) E0
theorem el_tF {sp : Sp} {vs xs : List V} (h : EvA t σ H vs) (hs : SpL sp vs H xs) : EvL (tF sp t) σ H xs := fun H1 e Q q =>
  h H1 e _ fun H2 e2 => hs H2 (e.trans e2) Q (fun p H3 hp e3 h3 => q p H3 (fresh_back e2 hp) (e2.trans e3) h3) E0
theorem flat_nvs (xs : List Nat) : (nvs xs).all flatV = true := by
  rw [List.all_eq_true]
  intro x hx
  obtain ⟨n, _, rfl⟩ := List.mem_map.mp hx
  rfl
theorem in_nvs (w : Nat) (xs : List Nat) : inV (nv w) (nvs xs) = decide (w ∈ xs) := by
  unfold inV
  rw [List.any_map, Bool.eq_iff_iff, List.any_eq_true, decide_eq_true_iff]
  constructor
  · rintro ⟨m, hm, e⟩
    have e : ((m : Int) == (w : Int)) = true := e
    have : m = w := by have := eq_of_beq e; omega
    rw [← this]
    exact hm
  · intro h
    exact ⟨w, h, (show ((w : Int) == (w : Int)) = true from beq_self_eq_true _)⟩
theorem rv_inN {p : Addr} {xs : List Nat} {w : Nat} (h : SqA K H p (nvs xs)) : RV (rIn K false) (nv w) (.ref p) H (.bl (decide (w ∈ xs))) := by
  have e := in_nvs w xs
  rcases h with h | h
  · have := rv_isL (x := nv w) h rfl (flat_nvs xs)
    rw [e] at this
    exact this
  · have := rv_isT (x := nv w) h rfl (flat_nvs xs)
    rw [e] at this
    exact this
theorem rc_isInt {n : Int} : RC (rIsi K) [.int n, .ty "int"] H (.bl true) := fun H1 _ Q q => ⟨_, _, _, _, true, rfl, .ty "int", .base (.int n), kit_ty (by decide +kernel), q H1 (Ex.refl H1)⟩
theorem rc_isBool {n : Int} : RC (rIsi K) [.int n, .ty "bool"] H (.bl false) := fun H1 _ Q q => ⟨_, _, _, _, false, rfl, .ty "bool", .base (.int n), kit_ty (by decide +kernel), q H1 (Ex.refl H1)⟩
theorem rc_isStr {n : Str} : RC (rIsi K) [.str n, .ty "str"] H (.bl true) := fun H1 _ Q q => ⟨_, _, _, _, true, rfl, .ty "str", .base (.str n), kit_ty (by decide +kernel), q H1 (Ex.refl H1)⟩
theorem rv_add {i j : Int} : RV (rI0 fun i j => .int (i + j)) (.int i) (.int j) H (.int (i + j)) := rv_I0
/-- naturals -/
theorem rv_addN {i j : Nat} : RV (rI0 fun i j => .int (i + j)) (nv i) (nv j) H (nv (i + j)) := rv_I0
theorem rv_subN {i j : Nat} (h : j ≤ i) : RV (rI0 fun i j => .int (i - j)) (nv i) (nv j) H (nv (i - j)) := by
  have e : nv (i - j) = .int ((i : Int) - (j : Int)) := congrArg V.int (by omega)
  rw [e]
  exact rv_I0
theorem rv_mulN {i j : Nat} (h : i < 2 ^ 64) : RV (rI CMul fun i j => .int (i * j)) (nv i) (nv j) H (nv (i * j)) := by
  have e : nv (i * j) = .int ((i : Int) * (j : Int)) := congrArg V.int (Int.natCast_mul i j)
  rw [e]
  exact rv_I (.inl ⟨by omega, by omega⟩)
theorem rv_divN {i j : Nat} (h0 : 0 < j) (h : j < 1073741824) : RV (rI CDiv fun i j => .int (i / j)) (nv i) (nv j) H (nv (i / j)) := by
  have e : nv (i / j) = .int ((i : Int) / (j : Int)) := congrArg V.int (Int.natCast_ediv i j)
  rw [e]
  exact rv_I ⟨by omega, by omega⟩
theorem rv_modN {i j : Nat} (h0 : 0 < j) : RV (rI (fun _ j => 0 < j) fun i j => .int (i % j)) (nv i) (nv j) H (nv (i % j)) := by
  have e : nv (i % j) = .int ((i : Int) % (j : Int)) := congrArg V.int (Int.natCast_emod i j)
  rw [e]
  exact rv_I (by omega)
theorem rv_ltN {i j : Nat} : RV (rI0 fun i j => .bl (decide (i < j))) (nv i) (nv j) H (.bl (decide (i < j))) := by
  have e : decide (i < j) = decide ((i : Int) < (j : Int)) := decide_eq_decide.mpr (by omega)
  rw [e]
  exact rv_I0
theorem rv_leN {i j : Nat} : RV (rI0 fun i j => .bl (decide (i ≤ j))) (nv i) (nv j) H (.bl (decide (i ≤ j))) := by
  have e : decide (i ≤ j) = decide ((i : Int) ≤ (j : Int)) := decide_eq_decide.mpr (by omega)
  rw [e]
  exact rv_I0
theorem rv_gtN {i j : Nat} : RV (rI0 fun i j => .bl (decide (j < i))) (nv i) (nv j) H (.bl (decide (j < i))) := by
  have e : decide (j < i) = decide ((j : Int) < (i : Int)) := decide_eq_decide.mpr (by omega)
  rw [e]
  exact rv_I0
theorem rv_geN {i j : Nat} : RV (rI0 fun i j => .bl (decide (j ≤ i))) (nv i) (nv j) H (.bl (decide (j ≤ i))) := by
  have e : decide (j ≤ i) = decide ((j : Int) ≤ (i : Int)) := decide_eq_decide.mpr (by omega)
  rw [e]
  exact rv_I0
theorem nv_eq {i j : Nat} : decide (nv i = nv j) = decide (i = j) := decide_eq_decide.mpr ⟨fun h => by have := V.int.inj h; omega, fun h => by rw [h]⟩
theorem rv_eqN {i j : Nat} : RV rEq (nv i) (nv j) H (.bl (decide (i = j))) := by
  rw [← nv_eq]
  exact rv_eq rfl
theorem rv_neN {i j : Nat} : RV rNe (nv i) (nv j) H (.bl (!decide (i = j))) := by
  rw [← nv_eq]
  exact rv_ne rfl
theorem rc_int {i : Int} : RC (fun xs H Q => (∃ i, xs = [.int i] ∧ Q (.int i) H) ∨ ∃ k, xs = [.bl k] ∧ Q (.int (if k then 1 else 0)) H) [.int i] H (.int i) := fun H1 _ Q q => .inl ⟨i, rfl, q H1 (Ex.refl H1)⟩
/-! ### the promises as values -/
theorem spv_int {n : Int} : SpV spInt [.int n] H (.bl true) := fun H1 _ Q q E => ⟨n, rfl, q⟩
theorem spv_between {n lo hi : Int} : SpV spBetween [.int n, .int lo, .int hi] H (.bl (decide (lo ≤ n) && decide (n ≤ hi))) := fun H1 _ Q q E => ⟨n, lo, hi, rfl, q⟩
theorem spv_gcd {a b : Nat} : SpV spGcd [nv a, nv b] H (nv (Nat.gcd a b)) := fun H1 _ Q q E => ⟨a, b, rfl, q⟩
theorem spv_lcm {a b : Nat} (ha : a ∈ M53.D) (hb : b ∈ M53.D) : SpV spLcm [nv a, nv b] H (nv (M53.lcm a b)) := fun H1 _ Q q E => ⟨a, b, rfl, ha, hb, q⟩
theorem spl_primes {n : Nat} (h : n ∈ M53.D) : SpL spPrimes [nv n] H (nvs (M53.pf n)) := fun H1 _ Q q E => ⟨n, rfl, h, fun p H2 hp e h2 => q p H2 hp e h2⟩
theorem spl_divisors {n : Nat} (h : n ∈ M53.D) : SpL spDivisors [nv n] H (nvs (M53.dv n)) := fun H1 _ Q q E => ⟨n, rfl, h, fun p H2 hp e h2 => q p H2 hp e h2⟩
theorem spv_greater {a b : Int} : SpV spGreater [.int a, .int b] H (.int (if b < a then a else b)) := fun H1 _ Q q E => ⟨a, b, rfl, q⟩
theorem spv_chosen {s : Str} {a b : Bool} : SpV spChosen [.str s, .bl a, .bl b] H (.bl (ruleF s a b)) := fun H1 _ Q q E => ⟨s, a, b, rfl, q⟩
theorem spv_member {p : Addr} {h : List Nat} {s L : Nat} {d : List Nat} {w : Nat} (hp : PartsAt K H p h s L d) : SpV (spMember K) [.ref p, nv w] H (.bl (if w < s then decide (w ∈ h) else decide (Nat.gcd w L ∈ d))) := fun H1 e Q q E => ⟨p, h, s, L, d, w, rfl, hp.ext e, q⟩
/-- a, b = e1, e2 by plain local names -/
theorem q_par {i j : Nat} {tz : TS} {D : Ends} (ha : Ev ta σ H x) (hb : Ev tb σ H y) (k : ∀ H1, Ex H H1 → tz D ((σ.set i (some x)).set j (some y)) H1) : tSeq (tPar i j (tCons ta (tCons tb tNil))) tz D σ H :=
  ha H (Ex.refl H) _ fun H1 e1 => hb H1 e1 _ fun H2 e2 => ⟨_, _, rfl, k H2 (e1.trans e2)⟩
theorem s_par {i j : Nat} {D : Ends} (ha : Ev ta σ H x) (hb : Ev tb σ H y) (k : ∀ H1, Ex H H1 → D.nx ((σ.set i (some x)).set j (some y)) H1) : tPar i j (tCons ta (tCons tb tNil)) D σ H :=
  ha H (Ex.refl H) _ fun H1 e1 => hb H1 e1 _ fun H2 e2 => ⟨_, _, rfl, k H2 (e1.trans e2)⟩
end
end K53
namespace K53
open PySem PySem.Spec PyProof.Rows L2 Evl
section
variable {P : Program} {w : World} {K : PySem.W.Frag} {mg : Str → Option Value} {base : Heap} {C : Addr}
theorem k_is_integer (T : Txt K mg C) (F : Fn K mg "is_integer" s_is_integer ["value"]) : Cl P w K mg base 1 "is_integer" spInt := by
  refine F.cl sc_is_integer (fun vs H Q E h => ?_) (fun f cdv A outer s H vs Q E hr h => ?_)
  · obtain ⟨n, rfl, _⟩ := h
    rfl
  · obtain ⟨n, rfl, k⟩ := h
    refine ⟨_, (pss_one (ps_ret (pe_and (pe_callB (k_isi (K := K) rfl) (by rfl) T.isinstance bt_isinstance (pa_cons (pv 0) (pa_cons (pe_bltn (v := .ty "int") rfl T.int bt_int rfl) pa_nil))) (pe_one (pe_not (pe_callB (k_isi (K := K) rfl) (by rfl) T.isinstance bt_isinstance (pa_cons (pv 0) (pa_cons (pe_bltn (v := .ty "bool") rfl T.bool bt_bool rfl) pa_nil)))))))), ?_⟩
    exact s_ret (ev_andV (ev_cb (ea_cons (ev_var rfl) (ea_cons ev_c ea_nil)) rc_isInt) (fun _ => ev_notV (ev_cb (ea_cons (ev_var rfl) (ea_cons ev_c ea_nil)) rc_isBool))) k
theorem k_is_between (c_is_integer : Cl P w K mg base 1 "is_integer" spInt) (F : Fn K mg "is_between" s_is_between ["value", "low", "high"]) : Cl P w K mg base 2 "is_between" spBetween := by
  refine F.cl sc_is_between (fun vs H Q E h => ?_) (fun f cdv A outer s H vs Q E hr h => ?_)
  · obtain ⟨n, lo, hi, rfl, _⟩ := h
    rfl
  · obtain ⟨n, lo, hi, rfl, k⟩ := h
    refine ⟨_, (pss_one (ps_ret (pe_and (pc c_is_integer hr (by decide) rfl (pa_cons (pv 0) pa_nil)) (pe_one (pe_chain op_le op_le (pv 1) (pv 0) (pv 2)))))), ?_⟩
    exact s_ret (ev_is (ev_andV (ev_tF (ea_cons (ev_var rfl) ea_nil) spv_int) fun _ => ev_chain (ev_var rfl) (ev_var rfl) rv_I0 (ev_var rfl) fun _ => rv_I0) (by rw [Bool.true_and])) k
theorem k_gcd (F : Fn K mg "gcd" s_gcd ["one", "other"]) : Cl P w K mg base 1 "gcd" spGcd := by
  refine F.cl sc_gcd (fun vs H Q E h => ?_) (fun f cdv A outer s H vs Q E hr h => ?_)
  · obtain ⟨a, b, rfl, _⟩ := h
    rfl
  · obtain ⟨a, b, rfl, k⟩ := h
    refine ⟨_, (pss_cons (ps_par (i := 2) (j := 3) rfl sc_gcd.nd rfl rfl (by decide) rfl rfl (pa_cons (pv 0) (pa_cons (pv 1) pa_nil)) (by rfl))
      (pss_cons (ps_while PassesOwn.never (pt_cmpR op_gt (pv 3) pe_int (nomark _)) (pss_one (ps_par (i := 2) (j := 3) rfl sc_gcd.nd rfl rfl (by decide) rfl rfl (pa_cons (pv 3) (pa_cons (pe_op op_mod (pv 2) (pv 3)) pa_nil)) (by rfl))))
      (pss_one (ps_ret (pv 2))))), ?_⟩
    refine q_par (ev_var rfl) (ev_var rfl) fun H0 e0 => ?_
    refine q_while (fun m σ H' => ∃ x y : Nat, σ = [some (nv a), some (nv b), some (nv x), some (nv y)] ∧ Nat.gcd x y = Nat.gcd a b ∧ Ex H H' ∧ m = y) b ⟨a, b, rfl, rfl, e0, rfl⟩ ?_
    rintro m σ H1 ⟨x, y, rfl, hg, e1, rfl⟩
    refine ⟨decide (0 < m), et_test (ev_op (ev_var rfl) ev_c rv_gtN), fun hb H2 e2 => ?_, fun hb H2 e2 => ?_⟩
    · have hm : 0 < m := of_decide_eq_true hb
      refine ⟨_, fun _ _ h => h, s_par (ev_var rfl) (ev_op (ev_var rfl) (ev_var rfl) (rv_modN hm)) fun H3 e3 => ⟨x % m, Nat.mod_lt _ hm, m, x % m, rfl, ?_, (e1.trans e2).trans e3, rfl⟩⟩
      rw [← hg, Nat.gcd_comm x m, Nat.gcd_rec m x, Nat.gcd_comm]
    · have hm : m = 0 := by have := of_decide_eq_false hb; omega
      subst hm
      rw [Nat.gcd_zero_right] at hg
      rw [← hg] at k
      exact s_ret (ev_var rfl) fun H3 e3 => k _ ((e1.trans e2).trans e3)
theorem k__law_gcd (T : Txt K mg C) (F : Fn K mg "_law_gcd" s__law_gcd ["_law_one", "_law_other"]) : Cl P w K mg base 1 "_law_gcd" spGcd := by
  refine F.cl sc__law_gcd (fun vs H Q E h => ?_) (fun f cdv A outer s H vs Q E hr h => ?_)
  · obtain ⟨a, b, rfl, _⟩ := h
    rfl
  · obtain ⟨a, b, rfl, k⟩ := h
    refine ⟨_, (pss_cons (ps_while PassesOwn.never (pt_cmpR op_gt (pv 1) pe_int (nomark _)) (pss_one (ps_par (i := 0) (j := 1) rfl sc__law_gcd.nd rfl rfl (by decide) rfl rfl (pa_cons (pv 1) (pa_cons (pe_op op_mod (pe_callTy call_int1 (by rfl) T.int bt_int (pa_cons (pv 0) pa_nil)) (pv 1)) pa_nil)) (by rfl))))
      (pss_one (ps_ret (pv 0)))), ?_⟩
    refine q_while (fun m σ H' => ∃ x y : Nat, σ = [some (nv x), some (nv y)] ∧ Nat.gcd x y = Nat.gcd a b ∧ Ex H H' ∧ m = y) b ⟨a, b, rfl, rfl, Ex.refl H, rfl⟩ ?_
    rintro m σ H1 ⟨x, y, rfl, hg, e1, rfl⟩
    refine ⟨decide (0 < m), et_test (ev_op (ev_var rfl) ev_c rv_gtN), fun hb H2 e2 => ?_, fun hb H2 e2 => ?_⟩
    · have hm : 0 < m := of_decide_eq_true hb
      refine ⟨_, fun _ _ h => h, s_par (ev_var rfl) (ev_op (ev_cb (ea_cons (ev_var rfl) ea_nil) (rc_int (i := (x : Int)))) (ev_var rfl) (rv_modN hm)) fun H3 e3 => ⟨x % m, Nat.mod_lt _ hm, m, x % m, rfl, ?_, (e1.trans e2).trans e3, rfl⟩⟩
      rw [← hg, Nat.gcd_comm x m, Nat.gcd_rec m x, Nat.gcd_comm]
    · have hm : m = 0 := by have := of_decide_eq_false hb; omega
      subst hm
      rw [Nat.gcd_zero_right] at hg
      rw [← hg] at k
      exact s_ret (ev_var rfl) fun H3 e3 => k _ ((e1.trans e2).trans e3)
theorem k_lcm (c_gcd : Cl P w K mg base 1 "gcd" spGcd) (F : Fn K mg "lcm" s_lcm ["one", "other"]) : Cl P w K mg base 2 "lcm" spLcm := by
  refine F.cl sc_lcm (fun vs H Q E h => ?_) (fun f cdv A outer s H vs Q E hr h => ?_)
  · obtain ⟨a, b, rfl, _⟩ := h
    rfl
  · obtain ⟨a, b, rfl, ha, hb, k⟩ := h
    refine ⟨_, (pss_one (ps_ret (pe_op op_mul (pe_op op_fdiv (pv 0) (pc c_gcd hr (by decide) rfl (pa_cons (pv 0) (pa_cons (pv 1) pa_nil)))) (pv 1)))), ?_⟩
    have pa := M53.pos120 (M53.mem_D.mp ha)
    have la := M53.le120 (M53.mem_D.mp ha)
    have g0 : 0 < Nat.gcd a b := Nat.gcd_pos_of_pos_left _ pa
    have g1 : Nat.gcd a b ≤ a := Nat.gcd_le_left _ pa
    have d1 : a / Nat.gcd a b ≤ a := Nat.div_le_self _ _
    exact s_ret (ev_op (ev_op (ev_var rfl) (ev_tF (ea_cons (ev_var rfl) (ea_cons (ev_var rfl) ea_nil)) spv_gcd) (rv_divN g0 (by omega))) (ev_var rfl) (rv_mulN (by omega))) k
theorem k_greater (F : Fn K mg "greater" s_greater ["one", "other"]) : Cl P w K mg base 1 "greater" spGreater := by
  refine F.cl sc_greater (fun vs H Q E h => ?_) (fun f cdv A outer s H vs Q E hr h => ?_)
  · obtain ⟨a, b, rfl, _⟩ := h
    rfl
  · obtain ⟨a, b, rfl, k⟩ := h
    refine ⟨_, (pss_one (ps_ret (pe_ifExp (pt_cmpR op_gt (pv 0) (pv 1) (nomark _)) (pv 0) (pv 1)))), ?_⟩
    exact s_ret (ev_if (b := decide (b < a)) (et_test (ev_op (ev_var rfl) (ev_var rfl) rv_I0)) (fun h => ev_var (by rw [if_pos (of_decide_eq_true h)] <;> rfl)) (fun h => ev_var (by rw [if_neg (of_decide_eq_false h)] <;> rfl))) k
theorem str_dec {a b : Str} : decide (V.str a = V.str b) = decide (a = b) := decide_eq_decide.mpr ⟨fun h => V.str.inj h, fun h => by rw [h]⟩
theorem k_is_chosen (F : Fn K mg "is_chosen" s_is_chosen ["rule", "is_in_one", "is_in_other"]) : Cl P w K mg base 1 "is_chosen" spChosen := by
  refine F.cl sc_is_chosen (fun vs H Q E h => ?_) (fun f cdv A outer s H vs Q E hr h => ?_)
  · obtain ⟨r, a, b, rfl, _⟩ := h
    rfl
  · obtain ⟨r, a, b, rfl, k⟩ := h
    refine ⟨_, (pss_cons (ps_if (pt_cmpR op_eq (pv 0) pe_str (nomark _)) (pss_one (ps_ret (pe_and (pv 1) (pe_one (pv 2))))) pss_nil)
      (pss_cons (ps_if (pt_cmpR op_eq (pv 0) pe_str (nomark _)) (pss_one (ps_ret (pe_or (pv 1) (pe_one (pv 2))))) pss_nil)
      (pss_cons (ps_if (pt_cmpR op_eq (pv 0) pe_str (nomark _)) (pss_one (ps_ret (pe_and (pv 1) (pe_one (pe_not (pv 2)))))) pss_nil)
      (pss_one (ps_ret (pe_cmpR op_ne (pv 1) (pv 2) (nomark _))))))), ?_⟩
    refine q_when (et_test (ev_op (ev_var rfl) ev_c (rv_eq rfl))) (fun hb H1 e1 => ?_) (fun hb H1 e1 => ?_)
    · rw [str_dec] at hb
      have k : RetV (.bl (a && b)) H Q := by
        have : ruleF r a b = (a && b) := by unfold ruleF; rw [if_pos (of_decide_eq_true hb)]
        rw [← this]; exact k
      exact s_ret (ev_andV (ev_var rfl) fun _ => ev_var rfl) fun H2 e2 => k _ (e1.trans e2)
    rw [str_dec] at hb
    refine q_when (et_test (ev_op (ev_var rfl) ev_c (rv_eq rfl))) (fun hb2 H2 e2 => ?_) (fun hb2 H2 e2 => ?_)
    · rw [str_dec] at hb2
      have k : RetV (.bl (a || b)) H Q := by
        have : ruleF r a b = (a || b) := by unfold ruleF; rw [if_neg (of_decide_eq_false hb), if_pos (of_decide_eq_true hb2)]
        rw [← this]; exact k
      exact s_ret (ev_orV (ev_var rfl) fun _ => ev_var rfl) fun H3 e3 => k _ ((e1.trans e2).trans e3)
    rw [str_dec] at hb2
    refine q_when (et_test (ev_op (ev_var rfl) ev_c (rv_eq rfl))) (fun hb3 H3 e3 => ?_) (fun hb3 H3 e3 => ?_)
    · rw [str_dec] at hb3
      have k : RetV (.bl (a && !b)) H Q := by
        have : ruleF r a b = (a && !b) := by unfold ruleF; rw [if_neg (of_decide_eq_false hb), if_neg (of_decide_eq_false hb2), if_pos (of_decide_eq_true hb3)]
        rw [← this]; exact k
      exact s_ret (ev_andV (ev_var rfl) fun _ => ev_notV (ev_var rfl)) fun H4 e4 => k _ (((e1.trans e2).trans e3).trans e4)
    rw [str_dec] at hb3
    have k : RetV (.bl (!decide (V.bl a = V.bl b))) H Q := by
      have : ruleF r a b = (!decide (V.bl a = V.bl b)) := by
        unfold ruleF
        rw [if_neg (of_decide_eq_false hb), if_neg (of_decide_eq_false hb2), if_neg (of_decide_eq_false hb3)]
        cases a <;> cases b <;> rfl
      rw [← this]; exact k
    exact s_ret (ev_op (ev_var rfl) (ev_var rfl) (rv_ne rfl)) fun H4 e4 => k _ (((e1.trans e2).trans e3).trans e4)
theorem k_is_member (c_gcd : Cl P w K mg base 1 "gcd" spGcd) (F : Fn K mg "is_member" s_is_member ["parts", "x"]) : Cl P w K mg base 2 "is_member" (spMember K) := by
  refine F.cl sc_is_member (fun vs H Q E h => ?_) (fun f cdv A outer s H vs Q E hr h => ?_)
  · obtain ⟨p, h, s, L, d, n, rfl, _⟩ := h
    rfl
  · obtain ⟨p, h, s, L, d, n, rfl, ⟨hp, dp, h1, h2, h3⟩, k⟩ := h
    refine ⟨_, (pss_cons (ps_asg (pv 0) (k_pgt (K := K) (n := 4) rfl rfl (pgs_cons (pg_name (i := 2) sc_is_member.nd rfl (Or.inl rfl)) (pgs_cons (pg_name (i := 3) sc_is_member.nd rfl (Or.inl rfl)) (pgs_cons (pg_name (i := 4) sc_is_member.nd rfl (Or.inl rfl)) (pgs_cons (pg_name (i := 5) sc_is_member.nd rfl (Or.inl rfl)) pgs_nil))))))
      (pss_one (ps_ret (pe_ifExp (pt_cmpR op_lt (pv 1) (pv 3) (nomark _)) (pe_cmpR (k_in (K := K) rfl) (pv 1) (pv 2) (by rfl)) (pe_cmpR (k_in (K := K) rfl) (pc c_gcd hr (by decide) rfl (pa_cons (pv 1) (pa_cons (pv 4) pa_nil))) (pv 5) (by rfl)))))), ?_⟩
    refine ⟨_, rfl, p, _, rfl, h1, rfl, _, _, rfl, _, _, rfl, _, _, rfl, _, _, rfl, rfl, ?_⟩
    exact s_ret (ev_if (b := decide (n < s)) (et_test (ev_op (ev_var rfl) (ev_var rfl) rv_ltN)) (fun q => ev_is (ev_op (ev_var rfl) (ev_var rfl) (rv_inN (.inr h2))) (by rw [if_pos (of_decide_eq_true q)]))
      (fun q => ev_is (ev_op (ev_tF (ea_cons (ev_var rfl) (ea_cons (ev_var rfl) ea_nil)) spv_gcd) (ev_var rfl) (rv_inN (.inr h3))) (by rw [if_neg (of_decide_eq_false q)]))) k
end
end K53
/-! comprehensions, displays -/
namespace K53
open PySem PySem.Spec PyProof.Rows L2 Evl
/-- te gives some value of which R holds, and only makes objects -/
def EvP (te : TE) (σ : L2.St) (H : Hp) (R : V → Hp → Prop) : Prop := ∀ H1, Ex H H1 → ∀ Q : VK, (∀ v H2, Ex H1 H2 → R v H2 → Q v H2) → te σ H1 Q
def EvPA (ta : TA) (σ : L2.St) (H : Hp) (R : List V → Hp → Prop) : Prop := ∀ H1, Ex H H1 → ∀ Q : List V → Hp → Prop, (∀ v H2, Ex H1 H2 → R v H2 → Q v H2) → ta σ H1 Q
section
variable {K : PySem.W.Frag} {σ : L2.St} {H H' : Hp} {ta tb tc te : TE} {t : TA} {tt : TT} {x y z v : V} {g : TG} {vs : List Nat}
theorem EvP.mono {R : V → Hp → Prop} (e : Ex H H') (h : EvP te σ H R) : EvP te σ H' R := fun H1 a Q q => h H1 (e.trans a) Q q
theorem Ev.p {R : V → Hp → Prop} (h : Ev te σ H v) (r : ∀ H2, Ex H H2 → R v H2) : EvP te σ H R := fun H1 e Q q => h H1 e Q fun H2 e2 => q v H2 e2 (r H2 (e.trans e2))
theorem EvP.imp {R R' : V → Hp → Prop} (h : EvP te σ H R) (r : ∀ v H2, Ex H H2 → R v H2 → R' v H2) : EvP te σ H R' := fun H1 e Q q => h H1 e Q fun v H2 e2 hr => q v H2 e2 (r v H2 (e.trans e2) hr)
theorem epa_nil {R : List V → Hp → Prop} (r : ∀ H2, Ex H H2 → R [] H2) : EvPA tNil σ H R := fun H1 e Q q => q [] H1 (Ex.refl H1) (r H1 e)
theorem epa_cons {R : V → Hp → Prop} {R' : List V → Hp → Prop} {R2 : List V → Hp → Prop} (h : EvP te σ H R) (h2 : EvPA t σ H R') (mono : ∀ v H1 H2, Ex H1 H2 → R v H1 → R v H2) (r : ∀ v vs H2, Ex H H2 → R v H2 → R' vs H2 → R2 (v :: vs) H2) : EvPA (tCons te t) σ H R2 :=
  fun H1 e Q q => h H1 e _ fun v H2 e2 hr => h2 H2 (e.trans e2) _ fun ws H3 e3 hr' => q (v :: ws) H3 (e2.trans e3) (r v ws H3 ((e.trans e2).trans e3) (mono v H2 H3 e3 hr) hr')
/-- a new tuple -/
theorem ep_tup {R : List V → Hp → Prop} {R' : V → Hp → Prop} (h : EvPA t σ H R) (hl : ∀ ws H2, R ws H2 → ws.length ≤ 100000) (r : ∀ p ws H2, Ex H H2 → R ws H2 → H2 p = none → R' (.ref p) (upd H2 p (.tup ws))) : EvP (tTup t) σ H R' :=
  fun H1 e Q q => h H1 e _ fun ws H2 e2 hr => ⟨sz_of (hl ws H2 hr), fun p hp => q (.ref p) _ (e2.trans (Ex.new hp)) (r p ws H2 (e.trans e2) hr hp)⟩
theorem EvL.p {xs : List V} (h : EvL te σ H xs) : EvP te σ H (fun v H2 => ∃ p, v = .ref p ∧ H2 p = some (.lst xs)) := fun H1 e Q q => h H1 e Q fun p H2 hp e2 h2 => q _ H2 e2 ⟨p, rfl, h2⟩
/-- what an argument list hands to a promise -/
theorem ep_tF {sp : Sp} {R : List V → Hp → Prop} {R' : V → Hp → Prop} (h : EvPA t σ H R) (hs : ∀ ws H1, Ex H H1 → R ws H1 → ∀ Q : VK, (∀ v H2, Ex H1 H2 → R' v H2 → Q v H2) → sp ws H1 Q E0) : EvP (tF sp t) σ H R' :=
  fun H1 e Q q => h H1 e _ fun ws H2 e2 hr => hs ws H2 (e.trans e2) hr Q fun v H3 e3 hr' => q v H3 (e2.trans e3) hr'
theorem EvA.pa {ws : List V} {R : List V → Hp → Prop} (h : EvA t σ H ws) (r : ∀ H2, Ex H H2 → R ws H2) : EvPA t σ H R := fun H1 e Q q => h H1 e Q fun H2 e2 => q ws H2 e2 (r H2 (e.trans e2))

/-- the heap without one address -/
def del (H : Hp) (a : Addr) : Hp := fun b => if b = a then none else H b
theorem del_at {H : Hp} {a b : Addr} (h : b ≠ a) : del H a b = H b := by unfold del; rw [if_neg h]
theorem del_ex {a : Addr} : Ex (del H a) H := fun b o e => by
  unfold del at e
  split at e
  · cases e
  · exact e
theorem del_mono {a : Addr} (e : Ex H H') : Ex (del H a) (del H' a) := fun b o h => by
  unfold del at h ⊢
  split at h
  · cases h
  · rename_i hb
    rw [if_neg hb]
    exact e b o h
theorem del_upd {a : Addr} {o : HO} : del (upd H a o) a = del H a := by
  funext b
  unfold del
  split
  · rfl
  · rename_i hb
    exact upd_ne hb
theorem ne_fresh {a b : Addr} (h : H a = none) (hb : H b ≠ none) : a ≠ b := fun e => hb (e ▸ h)
/-- te gives some value of which R holds in the heap without Dl (a list that is being made) -/
def EvD (Dl : Addr) (te : TE) (σ : L2.St) (H : Hp) (R : V → Hp → Prop) : Prop := ∀ H1, Ex H H1 → H1 Dl ≠ none → ∀ Q : VK, (∀ v H2, Ex H1 H2 → R v (del H2 Dl) → Q v H2) → te σ H1 Q
theorem Ev.d {Dl : Addr} {R : V → Hp → Prop} (h : Ev te σ H v) (r : ∀ H2, R v H2) : EvD Dl te σ H R := fun H1 e _ Q q => h H1 e Q fun H2 e2 => q v H2 e2 (r _)
/-- the new list of a comprehension without tests, item by item -/
def Cv (H : Hp) (R : Nat → V → Hp → Prop) (Dl : Addr) (i : Nat) (H' : Hp) : Prop := H Dl = none ∧ Ex H H' ∧ ∃ ys, H' Dl = some (.lst ys) ∧ ys.length = i ∧ ∀ j y, ys[j]? = some y → R j y (del H' Dl)
theorem cv_turn {R : Nat → V → Hp → Prop} (mono : ∀ i v H1 H2, Ex H1 H2 → R i v H1 → R i v H2) {Dl : Addr} {i : Nat} {σ2 : L2.St} (p : Cv H R Dl i H') (hi : i < 50000) (he : EvD Dl te σ2 H' (R i)) :
    tYes σ2 H' fun b H3 => if b = true then te σ2 H3 fun y H4 => ∃ acc, H4 Dl = some (.lst acc) ∧ acc.length < sizeLine ∧ Cv H R Dl (i + 1) (upd H4 Dl (.lst (acc ++ [y]))) else Cv H R Dl (i + 1) H3 := by
  obtain ⟨p1, p2, ys, p3, p4, p5⟩ := p
  show te σ2 H' fun y H4 => ∃ acc, H4 Dl = some (.lst acc) ∧ acc.length < sizeLine ∧ Cv H R Dl (i + 1) (upd H4 Dl (.lst (acc ++ [y])))
  refine he H' (Ex.refl H') (by rw [p3]; exact fun z => nomatch z) _ fun y H4 e4 hr => ⟨ys, e4 Dl _ p3, sz_lt (by omega), p1, Ex.mut (p2.trans e4) p1, _, upd_same, by rw [List.length_append, p4] <;> rfl, fun j z hz => ?_⟩
  rw [del_upd]
  by_cases hj : j < ys.length
  · rw [List.getElem?_append_left hj] at hz
    exact mono j z _ _ (del_mono e4) (p5 j z hz)
  · rw [List.getElem?_append_right (by omega)] at hz
    have hj0 : j - ys.length = 0 := by
      cases q : j - ys.length with
      | zero => rfl
      | succ m => rw [q] at hz; simp at hz
    rw [hj0] at hz
    have ez : y = z := by simpa using hz
    have ej : j = i := by omega
    rw [← ez, ej]
    exact hr
/-- what a comprehension hands on: a new list, item by item -/
def LcP (te : TE) (σ : L2.St) (H : Hp) (n : Nat) (R : Nat → V → Hp → Prop) : Prop := ∀ H0, Ex H H0 → ∀ Q : VK, (∀ D ys H2, H0 D = none → Ex H0 H2 → H2 D = some (.lst ys) → ys.length = n → (∀ j y, ys[j]? = some y → R j y H2) → Q (.ref D) H2) → te σ H0 Q
/-- over a list; g binds the target to σ2 without touching the heap -/
theorem lcL {a : Addr} {xs : List V} {tl : TE} (R : Nat → V → Hp → Prop) (mono : ∀ i v H1 H2, Ex H1 H2 → R i v H1 → R i v H2) (h : Ev tl σ H (.ref a)) (hx : SqL K H a xs) (hz : xs.length ≤ 40000)
    (he : ∀ (i : Nat) (x : V) H1, Ex H H1 → xs[i]? = some x → ∀ Z : L2.St → Hp → Prop, (∀ σ2, wipe σ2 vs = wipe σ vs → (∀ Dl, EvD Dl te σ2 H1 (R i)) → Z σ2 H1) → g x (wipe σ vs) H1 Z) : LcP (tLc (iList K tl) g tYes te vs) σ H xs.length R := fun H0 e0 Q q =>
  h H0 e0 _ fun H1 e1 => ⟨a, rfl, ⟨xs, ex_l (e0.trans e1) hx⟩, fun Dl hD =>
    lc_list (xs := xs) (Cv H1 R Dl) ⟨hD, Ex.new hD, [], upd_same, rfl, fun j y hy => by simp at hy⟩ (fun i H' _ p => ex_l ((e0.trans e1).trans p.2.1) hx)
      (fun i x H' hi p => he i x H' ((e0.trans e1).trans p.2.1) hi _ fun σ2 hw hp => ⟨hw, cv_turn mono (H := H1) p (by have := (List.getElem?_eq_some_iff.mp hi).1; omega) (hp Dl)⟩)
      (fun H' p => by
        obtain ⟨p1, p2, ys, p3, p4, p5⟩ := p
        exact q Dl ys H' (fresh_back e1 p1) (e1.trans p2) p3 p4 fun j y hy => mono j y _ _ del_ex (p5 j y hy))⟩
/-- over a tuple -/
theorem lcT {a : Addr} {xs : List V} {tl : TE} (R : Nat → V → Hp → Prop) (mono : ∀ i v H1 H2, Ex H1 H2 → R i v H1 → R i v H2) (h : Ev tl σ H (.ref a)) (hx : SqT K H a xs) (hz : xs.length ≤ 40000)
    (he : ∀ (i : Nat) (x : V) H1, Ex H H1 → xs[i]? = some x → ∀ Z : L2.St → Hp → Prop, (∀ σ2, wipe σ2 vs = wipe σ vs → (∀ Dl, EvD Dl te σ2 H1 (R i)) → Z σ2 H1) → g x (wipe σ vs) H1 Z) : LcP (tLc (iTup K tl) g tYes te vs) σ H xs.length R := fun H0 e0 Q q =>
  h H0 e0 _ fun H1 e1 => ⟨a, rfl, ⟨xs, ex_t (e0.trans e1) hx⟩, fun Dl hD =>
    lc_tup (xs := xs) (Cv H1 R Dl) ⟨hD, Ex.new hD, [], upd_same, rfl, fun j y hy => by simp at hy⟩ (fun i H' _ p => ex_t ((e0.trans e1).trans p.2.1) hx)
      (fun i x H' hi p => he i x H' ((e0.trans e1).trans p.2.1) hi _ fun σ2 hw hp => ⟨hw, cv_turn mono (H := H1) p (by have := (List.getElem?_eq_some_iff.mp hi).1; omega) (hp Dl)⟩)
      (fun H' p => by
        obtain ⟨p1, p2, ys, p3, p4, p5⟩ := p
        exact q Dl ys H' (fresh_back e1 p1) (e1.trans p2) p3 p4 fun j y hy => mono j y _ _ del_ex (p5 j y hy))⟩
/-- items told by their place alone: the list itself -/
theorem LcP.el {n : Nat} {f : Nat → V} (h : LcP te σ H n fun i v _ => v = f i) : EvL te σ H ((List.range n).map f) := fun H0 e0 Q q => h H0 e0 Q fun D ys H2 hD e2 h2 hl hr => q D H2 hD e2 (by
  rw [h2]
  have : ys = (List.range n).map f := by
    refine List.ext_getElem? fun i => ?_
    rw [List.getElem?_map]
    by_cases hi : i < n
    · rw [List.getElem?_range hi, List.getElem?_eq_getElem (by omega)]
      exact congrArg some (hr i _ (List.getElem?_eq_getElem (by omega)))
    · rw [List.getElem?_eq_none (by omega), List.getElem?_eq_none (by rw [List.length_range]; omega)]
      rfl
  rw [this])
/-- over a tuple, with a test, to a name -/
theorem el_lcT {a : Addr} {xs : List V} {tl : TE} {j : Nat} (f : Nat → Bool) (v : Nat → V) (h : Ev tl σ H (.ref a)) (hx : SqT K H a xs) (hz : xs.length ≤ 40000) (hw : ∀ x, wipe ((wipe σ vs).set j (some x)) vs = wipe σ vs)
    (ht : ∀ (i : Nat) (x : V) H1, Ex H H1 → xs[i]? = some x → EvT tt ((wipe σ vs).set j (some x)) H1 (f i)) (he : ∀ (i : Nat) (x : V) H1, Ex H H1 → xs[i]? = some x → f i = true → Ev te ((wipe σ vs).set j (some x)) H1 (v i)) :
    EvL (tLc (iTup K tl) (gName j) tt te vs) σ H (given xs.length f v) := fun H0 e Q q => h H0 e _ fun H1 e1 => ⟨a, rfl, ⟨xs, ex_t (e.trans e1) hx⟩, fun Dl hD =>
  lc_tup (xs := xs) (Cw H1 f v Dl) ⟨hD, Ex.new hD, upd_same⟩ (fun i H' _ p => ex_t ((e.trans e1).trans p.2.1) hx) (fun i x H' hi p => ⟨hw x, cw_turn p (by have := (List.getElem?_eq_some_iff.mp hi).1; omega) (ht i x H1 (e.trans e1) hi) (fun hf => he i x H1 (e.trans e1) hi hf)⟩)
    (fun H' p => q Dl H' (fresh_back e1 p.1) (e1.trans p.2.1) p.2.2)⟩
/-- over range(lo, n) -/
theorem el_lcR2 {ta : TA} {j : Nat} {lo n : Int} (f : Nat → Bool) (v : Nat → V) (h : EvA ta σ H [.int lo, .int n]) (hn : 0 ≤ lo ∧ lo ≤ 20000 ∧ -20000 ≤ n ∧ n ≤ 40000) (hw : ∀ x, wipe ((wipe σ vs).set j (some x)) vs = wipe σ vs)
    (ht : ∀ (i : Nat) H1, Ex H H1 → i < (n - lo).toNat → EvT tt ((wipe σ vs).set j (some (.int (lo + (i : Int))))) H1 (f i)) (he : ∀ (i : Nat) H1, Ex H H1 → i < (n - lo).toNat → f i = true → Ev te ((wipe σ vs).set j (some (.int (lo + (i : Int))))) H1 (v i)) :
    EvL (tLc (iRng2 ta) (gName j) tt te vs) σ H (given (n - lo).toNat f v) := fun H0 e Q q => h H0 e _ fun H1 e1 => ⟨lo, n, rfl, ⟨by omega, by omega, by omega, by omega⟩, fun Dl hD =>
  lc_range (lo := lo) (n := (n - lo).toNat) (Cw H1 f v Dl) ⟨hD, Ex.new hD, upd_same⟩ (fun i H' hi p => ⟨hw _, cw_turn p (by omega) (ht i H1 (e.trans e1) hi) (fun hf => he i H1 (e.trans e1) hi hf)⟩)
    (fun H' p => q Dl H' (fresh_back e1 p.1) (e1.trans p.2.1) p.2.2)⟩
theorem et_yes : EvT tYes σ H true := fun H1 _ Q q => q H1 (Ex.refl H1)
end
/-! ### lists -/
theorem range_getD (xs : List Nat) : (List.range xs.length).map (fun i => xs.getD i 0) = xs := by
  refine List.ext_getElem? fun i => ?_
  rw [List.getElem?_map]
  by_cases hi : i < xs.length
  · rw [List.getElem?_range hi, List.getElem?_eq_getElem hi]
    have : xs.getD i 0 = xs[i] := by rw [List.getD_eq_getElem?_getD, List.getElem?_eq_getElem hi] <;> rfl
    exact congrArg some this
  · rw [List.getElem?_eq_none (by rw [List.length_range]; omega), List.getElem?_eq_none (by omega)]
    rfl
theorem given_nvs (xs : List Nat) (p : Nat → Bool) : given xs.length (fun i => p (xs.getD i 0)) (fun i => nv (xs.getD i 0)) = nvs (xs.filter p) := by
  have h := range_getD xs
  unfold given
  conv => rhs; rw [← h]
  rw [List.filter_map, nvs, List.map_map]
  try rfl
theorem given_hd (S : Nat → Bool) (n : Nat) : given n (fun i => S (i + 1)) (fun i => nv (i + 1)) = nvs (M53.hd S (n + 1)) := by
  have e : M53.hd S (n + 1) = ((List.range n).map (· + 1)).filter S := by
    unfold M53.hd
    rw [List.range_succ_eq_map, List.filter_cons, if_neg (by simp), List.filter_map, List.filter_map]
    refine congrArg _ (List.filter_congr fun i _ => ?_)
    show (decide (1 ≤ i + 1) && S (i + 1)) = S (i + 1)
    rw [decide_eq_true (by omega), Bool.true_and]
  rw [e, List.filter_map, nvs, List.map_map]
  rfl
theorem getD_of {xs : List Nat} {i : Nat} {x : V} (h : (nvs xs)[i]? = some x) : x = nv (xs.getD i 0) ∧ i < xs.length ∧ xs.getD i 0 ∈ xs := by
  rw [List.getElem?_map] at h
  cases e : xs[i]? with
  | none => rw [e] at h; cases h
  | some n =>
    rw [e] at h
    have hi := (List.getElem?_eq_some_iff.mp e).1
    have : xs.getD i 0 = n := by rw [List.getD_eq_getElem?_getD, e] <;> rfl
    rw [this]
    exact ⟨(Option.some.inj h).symm, hi, List.mem_of_getElem? e⟩
/-- sorted, told of naturals -/
theorem sorted_is {ns : List Int} {xs zs : List Nat} (h : ns.Perm (xs.map fun n : Nat => (n : Int))) (hs : ns.Pairwise (· ≤ ·)) (hp : xs.Perm zs) (hz : zs.Pairwise (· < ·)) : ns = zs.map fun n : Nat => (n : Int) := by
  refine PySem.W.ksm_same (h.trans (hp.map _)) hs ?_
  rw [List.pairwise_map]
  exact hz.imp fun {a b} q => by omega
theorem nvs_int (zs : List Nat) : (zs.map fun n : Nat => (n : Int)).map V.int = nvs zs := by
  rw [List.map_map]
  rfl
end K53
namespace K53
open PySem PySem.Spec PyProof.Rows L2 Evl
section
variable {P : Program} {w : World} {K : PySem.W.Frag} {mg : Str → Option Value} {base : Heap} {C : Addr}
theorem k_first_out_of (c_is_between : Cl P w K mg base 2 "is_between" spBetween) (F : Fn K mg "first_out_of" s_first_out_of ["numbers", "low", "high"]) : Cl P w K mg base 3 "first_out_of" (spFirst K) := by
  refine F.cl sc_first_out_of (fun vs H Q E h => ?_) (fun f cdv A outer s H vs Q E hr h => ?_)
  · obtain ⟨p, xs, lo, hi, rfl, _⟩ := h
    rfl
  · obtain ⟨p, xs, lo, hi, rfl, hp | hp, hx, k⟩ := h
    · refine ⟨_, (pss_one (ps_for PassesOwn.never rfl (k_pil (K := K) rfl (pv 0)) (pg_name (i := 3) sc_first_out_of.nd rfl (Or.inl rfl))
        (pss_one (ps_if (pt_not (pt_val (pc c_is_between hr (by decide) rfl (pa_cons (pv 3) (pa_cons (pv 1) (pa_cons (pv 2) pa_nil)))))) pss_never pss_nil)))), ?_⟩
      refine s_forLn (ev_var rfl) hp (fun i σ H' => (∃ o, σ = [some (.ref p), some (.int lo), some (.int hi), o]) ∧ Ex H H') (fun H1 e => ⟨⟨_, rfl⟩, e⟩) (fun i σ' H' hi q => ex_l q.2 hp) (fun i x σ' H' hi q => ?_) (fun σ' H' q => k _ q.2)
      obtain ⟨⟨o, rfl⟩, e⟩ := q
      obtain ⟨ex, _, hm⟩ := getD_of hi
      subst ex
      obtain ⟨h1, h2⟩ := hx _ hm
      refine s_when (b := false) (et_is (et_not (et_test (ev_tF (ea_cons (ev_var rfl) (ea_cons (ev_var rfl) (ea_cons (ev_var rfl) ea_nil))) spv_between))) ?_) (fun h => nomatch h) (fun _ H1 e1 => ⟨⟨_, rfl⟩, e.trans e1⟩)
      rw [decide_eq_true h1, decide_eq_true h2]
      rfl
    · refine ⟨_, (pss_one (ps_for PassesOwn.never rfl (k_pit (K := K) rfl (pv 0)) (pg_name (i := 3) sc_first_out_of.nd rfl (Or.inl rfl))
        (pss_one (ps_if (pt_not (pt_val (pc c_is_between hr (by decide) rfl (pa_cons (pv 3) (pa_cons (pv 1) (pa_cons (pv 2) pa_nil)))))) pss_never pss_nil)))), ?_⟩
      refine s_forT (ev_var rfl) hp (fun i σ H' => (∃ o, σ = [some (.ref p), some (.int lo), some (.int hi), o]) ∧ Ex H H') (fun H1 e => ⟨⟨_, rfl⟩, e⟩) (fun i σ' H' hi q => ex_t q.2 hp) (fun i x σ' H' hi q => ?_) (fun σ' H' q => k _ q.2)
      obtain ⟨⟨o, rfl⟩, e⟩ := q
      obtain ⟨ex, _, hm⟩ := getD_of hi
      subst ex
      obtain ⟨h1, h2⟩ := hx _ hm
      refine s_when (b := false) (et_is (et_not (et_test (ev_tF (ea_cons (ev_var rfl) (ea_cons (ev_var rfl) (ea_cons (ev_var rfl) ea_nil))) spv_between))) ?_) (fun h => nomatch h) (fun _ H1 e1 => ⟨⟨_, rfl⟩, e.trans e1⟩)
      rw [decide_eq_true h1, decide_eq_true h2]
      rfl
theorem k_order_up_to (F : Fn K mg "order_up_to" s_order_up_to ["number", "most"]) : Cl P w K mg base 1 "order_up_to" spOrder := by
  refine F.cl sc_order_up_to (fun vs H Q E h => ?_) (fun f cdv A outer s H vs Q E hr h => ?_)
  · obtain ⟨q, rfl, _⟩ := h
    rfl
  · obtain ⟨q, rfl, hq, k⟩ := h
    refine ⟨_, (pss_cons (ps_set (i := 2) sc_order_up_to.nd rfl (Or.inl rfl) (pe_op op_mod pe_int (pv 0)))
      (pss_cons (ps_set (i := 3) sc_order_up_to.nd rfl (Or.inl rfl) pe_int)
      (pss_cons (ps_while PassesOwn.never (pt_cmpR op_ne (pv 2) (pe_op op_mod pe_int (pv 0)) (nomark _)) (pss_cons (ps_if (pt_cmpR op_eq (pv 3) (pv 1) (nomark _)) (pss_one (ps_ret pe_non)) pss_nil)
      (pss_cons (ps_set (i := 2) sc_order_up_to.nd rfl (Or.inl rfl) (pe_op op_mod (pe_op op_mul (pv 2) pe_int) (pv 0)))
      (pss_one (ps_set (i := 3) sc_order_up_to.nd rfl (Or.inl rfl) (pe_op op_add (pv 3) pe_int))))))
      (pss_one (ps_ret (pv 3)))))), ?_⟩
    have q0 : 0 < q := (by decide : ∀ q ∈ M53.menuQ, 0 < q) q hq
    have o12 : M53.ord q ≤ 12 := (by decide : ∀ q ∈ M53.menuQ, M53.ord q ≤ 12) q hq
    have o1 : 1 ≤ M53.ord q := (by decide : ∀ q ∈ M53.menuQ, 1 ≤ M53.ord q) q hq
    refine q_asg (ev_op ev_c (ev_var rfl) (rv_modN (i := 2) q0)) fun H1 e1 => ?_
    refine q_asg ev_c fun H2 e2 => ?_
    refine q_while (fun m σ H' => ∃ j : Nat, σ = [some (nv q), some (.int 5040), some (nv (2 ^ j % q)), some (nv j)] ∧ 1 ≤ j ∧ j ≤ M53.ord q ∧ Ex H H' ∧ m = 20 - j) 19 ⟨1, rfl, Nat.le_refl _, o1, e1.trans e2, rfl⟩ ?_
    rintro m σ H3 ⟨j, rfl, j1, j2, e3, rfl⟩
    have hb : decide (2 ^ j % q = 1 % q) = decide (j = M53.ord q) := by
      refine decide_eq_decide.mpr ⟨fun h => ?_, fun h => by rw [h]; exact M53.ord_pow q hq⟩
      refine Classical.byContradiction fun ne => ?_
      rw [M53.ord_res q hq j (by omega)] at h
      omega
    refine ⟨!decide (j = M53.ord q), et_is (et_test (ev_op (ev_var rfl) (ev_op ev_c (ev_var rfl) (rv_modN (i := 1) q0)) rv_neN)) (by rw [hb]), fun hb H4 e4 => ?_, fun hb H4 e4 => ?_⟩
    · have hj : ¬ j = M53.ord q := of_decide_eq_false (by rw [Bool.not_eq_true'] at hb; exact hb)
      refine ⟨_, fun _ _ h => h, ?_⟩
      refine q_when (b := false) (et_is (et_test (ev_op (ev_var rfl) (ev_var rfl) (rv_eqN (j := 5040)))) (decide_eq_false (by omega))) (fun h => nomatch h) fun _ H5 e5 => ?_
      have lt : 2 ^ j % q < q := Nat.mod_lt _ q0
      have q255 : q ≤ 255 := (by decide : ∀ q ∈ M53.menuQ, q ≤ 255) q hq
      refine q_asg (ev_op (ev_op (ev_var rfl) ev_c (rv_mulN (j := 2) (by omega))) (ev_var rfl) (rv_modN q0)) fun H6 e6 => ?_
      refine s_asg (ev_op (ev_var rfl) ev_c (rv_addN (j := 1))) fun H7 e7 => ?_
      refine ⟨20 - (j + 1), by omega, j + 1, ?_, by omega, by omega, ((((e3.trans e4).trans e5).trans e6).trans e7), rfl⟩
      have : 2 ^ j % q * 2 % q = 2 ^ (j + 1) % q := by rw [Nat.pow_succ, Nat.mod_mul_mod]
      rw [← this]
      rfl
    · have hj : j = M53.ord q := of_decide_eq_true (by rw [Bool.not_eq_false'] at hb; exact hb)
      subst hj
      exact s_ret (ev_var rfl) fun H5 e5 => k _ ((e3.trans e4).trans e5)
end
end K53
namespace K53
open PySem PySem.Spec PyProof.Rows L2 Evl
theorem t_yes {σ : L2.St} {H : Hp} {F G : Hp → Prop} (h : F H) : tYes σ H (fun b H3 => if b = true then F H3 else G H3) := by
  show if (true = true) then F H else G H
  rw [if_pos rfl]
  exact h
section
variable {K : PySem.W.Frag} {σ : L2.St} {H H' : Hp} {ta tb tc te tl tl1 : TE} {t : TA} {tt : TT} {x y z v : V} {g : TG} {vs vs1 : List Nat}
/-- [.. for x in xs for y in ys] -/
theorem el_lc2 {a b : Addr} {xs ys : List V} {j j1 : Nat} (v : V → V → V) (h : Ev tl σ H (.ref a)) (hx : SqL K H a xs) (hy : SqL K H b ys) (hz : xs.length * ys.length ≤ 40000) (hw : ∀ x, wipe ((wipe σ vs).set j (some x)) vs = wipe σ vs)
    (h1 : ∀ x H1, Ex H H1 → Ev tl1 ((wipe σ vs).set j (some x)) H1 (.ref b)) (hw1 : ∀ x y, wipe ((wipe ((wipe σ vs).set j (some x)) vs1).set j1 (some y)) vs1 = wipe ((wipe σ vs).set j (some x)) vs1)
    (he : ∀ x y H1, Ex H H1 → x ∈ xs → y ∈ ys → Ev te ((wipe ((wipe σ vs).set j (some x)) vs1).set j1 (some y)) H1 (v x y)) : EvL (tLc2 (iList K tl) (gName j) tYes (iList K tl1) (gName j1) tYes te vs vs1) σ H (xs.flatMap fun x => ys.map (v x)) := fun H0 e0 Q q =>
  h H0 e0 _ fun H1 e1 => ⟨a, rfl, ⟨xs, ex_l (e0.trans e1) hx⟩, fun Dl hD => by
    have big : ∀ i, i ≤ xs.length → ((xs.take i).flatMap fun x => ys.map (v x)).length = i * ys.length := fun i hi => by
      rw [List.length_flatMap]
      have : ∀ zs : List V, (zs.map fun x => (ys.map (v x)).length).sum = zs.length * ys.length := by
        intro zs
        induction zs with
        | nil => simp
        | cons z zs ih => rw [List.map_cons, List.sum_cons, ih, List.length_map, List.length_cons, Nat.succ_mul, Nat.add_comm]
      rw [this, List.length_take, Nat.min_eq_left hi]
    refine ⟨fun i m H' => m = xs.length - i ∧ i ≤ xs.length ∧ Ex H1 H' ∧ H' Dl = some (.lst ((xs.take i).flatMap fun x => ys.map (v x))), ⟨xs.length, by simp, Nat.zero_le _, Ex.new hD, upd_same⟩, ?_⟩
    rintro i m H' ⟨rfl, hi, e2, hl⟩
    have hxs := ex_l ((e0.trans e1).trans e2) hx
    by_cases hlt : i < xs.length
    · refine .inr ⟨⟨xs, xs[i], hxs, by simp [hlt]⟩, fun H' => Ex H1 H' ∧ H' Dl = some (.lst ((xs.take (i + 1)).flatMap fun x => ys.map (v x))), fun H'' p' => ⟨xs.length - (i + 1), by omega, rfl, hlt, p'⟩, fun x H2 y => ?_⟩
      obtain ⟨e, y⟩ := y
      subst e
      have hxi := y xs hxs
      refine ⟨hw x, ?_⟩
      refine t_yes ?_
      refine h1 x H2 ((e0.trans e1).trans e2) H2 (Ex.refl H2) _ fun H3 e3 => ⟨b, rfl, ⟨ys, ex_l (((e0.trans e1).trans e2).trans e3) hy⟩, ?_⟩
      refine ⟨fun k n H' => n = ys.length - k ∧ k ≤ ys.length ∧ Ex H1 H' ∧ H' Dl = some (.lst (((xs.take i).flatMap fun x => ys.map (v x)) ++ (ys.take k).map (v x))), ⟨ys.length, by simp, Nat.zero_le _, e2.trans e3, by rw [e3 _ _ hl]; simp⟩, ?_⟩
      rintro k n H4 ⟨rfl, hk, e4, hl4⟩
      have hys := ex_l ((e0.trans e1).trans e4) hy
      by_cases hkt : k < ys.length
      · refine .inr ⟨⟨ys, ys[k], hys, by simp [hkt]⟩, fun H' => Ex H1 H' ∧ H' Dl = some (.lst (((xs.take i).flatMap fun x => ys.map (v x)) ++ (ys.take (k + 1)).map (v x))), fun H'' p' => ⟨ys.length - (k + 1), by omega, rfl, hkt, p'⟩, fun y H5 yy => ?_⟩
        obtain ⟨e, yy⟩ := yy
        subst e
        have hyk := yy ys hys
        refine ⟨hw1 x y, ?_⟩
        refine t_yes ?_
        refine he x y H5 ((e0.trans e1).trans e4) (List.mem_of_getElem? hxi) (List.mem_of_getElem? hyk) H5 (Ex.refl H5) _ fun H6 e6 => ⟨_, e6 _ _ hl4, sz_lt ?_, ?_, ?_⟩
        · rw [List.length_append, big i hi, List.length_map, List.length_take]
          have h1 : (i + 1) * ys.length ≤ xs.length * ys.length := Nat.mul_le_mul_right _ hlt
          rw [Nat.succ_mul] at h1
          omega
        · exact Ex.mut (e4.trans e6) hD
        · rw [upd_same, List.append_assoc]
          have : (ys.take (k + 1)).map (v x) = (ys.take k).map (v x) ++ [v x y] := by
            rw [List.take_add_one, hyk, List.map_append]
            rfl
          rw [this]
      · have hk2 : k = ys.length := by omega
        subst hk2
        refine .inl ⟨⟨ys, hys, Nat.le_refl _⟩, e4, ?_⟩
        rw [hl4, List.take_length, List.take_add_one, hxi, List.flatMap_append]
        simp
    · have hi2 : i = xs.length := by omega
      subst hi2
      refine .inl ⟨⟨xs, hxs, Nat.le_refl _⟩, ?_⟩
      rw [List.take_length] at hl
      exact q Dl H' (fresh_back e1 hD) (e1.trans e2) hl⟩
/-- sorted(..) of naturals -/
theorem el_sorted {xs zs : List Nat} (h : EvL te σ H (nvs xs)) (hp : xs.Perm zs) (hz : zs.Pairwise (· < ·)) : EvL (tCB (rSortedI K) (tCons te tNil)) σ H (nvs zs) := fun H0 e0 Q q => h H0 e0 _ fun a H1 ha e1 h1 =>
  ⟨a, xs.map fun n : Nat => (n : Int), rfl, by rw [nvs_int]; exact sq_of h1, fun ns' p hp' hs hpn => by
    rw [sorted_is hp' hs hp hz, nvs_int]
    exact q p _ (fresh_back e1 hpn) (e1.trans (Ex.new hpn)) upd_same⟩
/-- [int(x) for x in xs] -/
theorem el_ints {a : Addr} {xs : List Nat} {j : Nat} (h : Ev tl σ H (.ref a)) (hx : SqL K H a (nvs xs)) (hz : xs.length ≤ 40000) (hw : ∀ x, wipe ((wipe σ vs).set j (some x)) vs = wipe σ vs) (hv : ∀ x, ((wipe σ vs).set j (some x))[j]? = some (some x)) :
    EvL (tLc (iList K tl) (gName j) tYes (tCB (fun xs H Q => (∃ i, xs = [.int i] ∧ Q (.int i) H) ∨ ∃ k, xs = [.bl k] ∧ Q (.int (if k then 1 else 0)) H) (tCons (tVar j) tNil)) vs) σ H (nvs xs) := by
  have g := given_nvs xs fun _ => true
  rw [List.filter_eq_self.mpr fun _ _ => rfl] at g
  have l : (nvs xs).length = xs.length := List.length_map _
  rw [← g, ← l]
  refine el_lcL _ _ h hx (by rw [l]; exact hz) hw (fun i x H1 e hi => et_yes) fun i x H1 e hi _ => ?_
  obtain ⟨ex, _, _⟩ := getD_of hi
  subst ex
  exact ev_cb (ea_cons (ev_var (hv _)) ea_nil) rc_int
end
end K53
namespace M53
def strip : Nat → Nat → Nat → Nat
  | 0, _, r => r
  | f + 1, p, r => if r % p = 0 then strip f p (r / p) else r
def pst (n : Nat) : Nat → Nat × List Nat
  | 0 => (n, [])
  | j + 1 => (strip 8 (j + 2) (pst n j).1, if (pst n j).1 % (j + 2) = 0 then (pst n j).2 ++ [j + 2] else (pst n j).2)
theorem pst_ok : ∀ n ∈ D, ∀ j < 11, 1 ≤ (pst n j).1 ∧ (pst n j).1 ≤ 120 ∧ (pst n j).2.length ≤ 3 ∧ ((j + 2) * (j + 2) ≤ (pst n j).1 → j < 10) ∧ (¬ (j + 2) * (j + 2) ≤ (pst n j).1 → (if 1 < (pst n j).1 then (pst n j).2 ++ [(pst n j).1] else (pst n j).2) = pf n) := by decide +kernel
/-- the powers taken out of r -/
def powr : Nat → Nat → Nat → List Nat → Nat × List Nat
  | 0, _, r, ws => (r, ws)
  | f + 1, p, r, ws => if r % p = 0 then powr f p (r / p) (ws ++ [ws.getLastD 0 * p]) else (r, ws)
def dst (n : Nat) : List Nat → Nat × List Nat
  | [] => (n, [1])
  | p :: ps => ((powr 8 p (dst n ps).1 [1]).1, (dst n ps).2.flatMap fun x => (powr 8 p (dst n ps).1 [1]).2.map fun w => x * w)
def dAt (n i : Nat) : Nat × List Nat := dst n ((pf n).take i).reverse
theorem dAt_ok : ∀ n ∈ D, ∀ i < 4, 1 ≤ (dAt n i).1 ∧ (dAt n i).1 ≤ 120 ∧ (dAt n i).2.length ≤ 16 ∧ ∀ x ∈ (dAt n i).2, x ≤ 120 := by decide +kernel
theorem dAt_step : ∀ n ∈ D, ∀ i < 4, ∀ p, (pf n)[i]? = some p → 2 ≤ p ∧ p ≤ 5 ∧ (dAt n (i + 1)) = ((powr 8 p (dAt n i).1 [1]).1, (dAt n i).2.flatMap fun x => (powr 8 p (dAt n i).1 [1]).2.map fun w => x * w) ∧ (powr 8 p (dAt n i).1 [1]).2.length ≤ 16 := by
  have : ∀ n ∈ D, ∀ i < 4, ∀ p ∈ (pf n)[i]?, 2 ≤ p ∧ p ≤ 5 ∧ (dAt n (i + 1)) = ((powr 8 p (dAt n i).1 [1]).1, (dAt n i).2.flatMap fun x => (powr 8 p (dAt n i).1 [1]).2.map fun w => x * w) ∧ (powr 8 p (dAt n i).1 [1]).2.length ≤ 16 := by decide +kernel
  exact fun n hn i hi p hp => this n hn i hi p hp
theorem dAt_all : ∀ n ∈ D, (dAt n (pf n).length).2.Perm (dv n) := by decide +kernel
theorem pf_len : ∀ n ∈ D, (pf n).length ≤ 3 := by decide
theorem powr_fact : ∀ (g p r : Nat) (ws : List Nat), ws ≠ [] → ws.length ≤ (powr g p r ws).2.length
  | 0, p, r, ws, _ => Nat.le_refl _
  | g + 1, p, r, ws, h => by
    unfold powr
    split
    · have := powr_fact g p (r / p) (ws ++ [ws.getLastD 0 * p]) (by simp)
      rw [List.length_append] at this
      omega
    · exact Nat.le_refl _
theorem div_half {r p g : Nat} (h1 : 1 ≤ r) (hp : 2 ≤ p) (hm : r % p = 0) (hg : r < 2 ^ (g + 1)) : 1 ≤ r / p ∧ r / p < 2 ^ g ∧ r / p < r := by
  have hd : p ∣ r := Nat.dvd_of_mod_eq_zero hm
  have hle : p ≤ r := Nat.le_of_dvd h1 hd
  refine ⟨Nat.div_pos hle (by omega), ?_, Nat.div_lt_self h1 hp⟩
  have : r / p ≤ r / 2 := Nat.div_le_div_left hp (by decide)
  rw [Nat.pow_succ] at hg
  omega
end M53
namespace K53
open PySem PySem.Spec PyProof.Rows L2 Evl
section
variable {P : Program} {w : World} {K : PySem.W.Frag} {mg : Str → Option Value} {base : Heap} {C : Addr}
theorem nvs_snoc (xs : List Nat) (y : Nat) : nvs (xs ++ [y]) = nvs xs ++ [nv y] := List.map_append
theorem k_primes_of (F : Fn K mg "primes_of" s_primes_of ["number"]) : Cl P w K mg base 1 "primes_of" spPrimes := by
  refine F.cl sc_primes_of (fun vs H Q E h => ?_) (fun f cdv A outer s H vs Q E hr h => ?_)
  · obtain ⟨n, rfl, _⟩ := h
    rfl
  · obtain ⟨n, rfl, hn, k⟩ := h
    refine ⟨_, (pss_cons (ps_set (i := 1) sc_primes_of.nd rfl (Or.inl rfl) (pe_lst pa_nil))
      (pss_cons (ps_set (i := 2) sc_primes_of.nd rfl (Or.inl rfl) (pv 0))
      (pss_cons (ps_set (i := 3) sc_primes_of.nd rfl (Or.inl rfl) pe_int)
      (pss_cons (ps_while PassesOwn.never (pt_cmpR op_le (pe_op op_mul (pv 3) (pv 3)) (pv 2) (nomark _)) (pss_cut (ps_if (pt_cmpR op_eq (pe_op op_mod (pv 2) (pv 3)) pe_int (nomark _)) (pss_one (ps_expr (k_app (K := K) rfl (pv 1) (pv 3)))) pss_nil)
      (pss_cons (ps_while PassesOwn.never (pt_cmpR op_eq (pe_op op_mod (pv 2) (pv 3)) pe_int (nomark _)) (pss_one (ps_set (i := 2) sc_primes_of.nd rfl (Or.inl rfl) (pe_op op_fdiv (pv 2) (pv 3)))))
      (pss_one (ps_set (i := 3) sc_primes_of.nd rfl (Or.inl rfl) (pe_op op_add (pv 3) pe_int))))))
      (pss_cons (ps_if (pt_cmpR op_gt (pv 2) pe_int (nomark _)) (pss_one (ps_expr (k_app (K := K) rfl (pv 1) (pv 2)))) pss_nil)
      (pss_one (ps_ret (pv 1)))))))), ?_⟩
    refine q_asgL (el_lst ea_nil (by decide)) fun fp H1 hfp e1 hf1 => ?_
    refine q_asg (ev_var rfl) fun H2 e2 => ?_
    refine q_asg ev_c fun H3 e3 => ?_
    refine q_while (fun m σ H' => ∃ j : Nat, σ = [some (nv n), some (.ref fp), some (nv (M53.pst n j).1), some (nv (j + 2))] ∧ j < 11 ∧ Ex H H' ∧ H' fp = some (.lst (nvs (M53.pst n j).2)) ∧ m = 11 - j) 11 ⟨0, rfl, by decide, (e1.trans e2).trans e3, e3 _ _ (e2 _ _ hf1), rfl⟩ ?_
    rintro m σ H4 ⟨j, rfl, j1, e4, hf4, rfl⟩
    obtain ⟨r1, r120, l3, jw, jd⟩ := M53.pst_ok n hn j j1
    have es : M53.pst n (j + 1) = (M53.strip 8 (j + 2) (M53.pst n j).1, if (M53.pst n j).1 % (j + 2) = 0 then (M53.pst n j).2 ++ [j + 2] else (M53.pst n j).2) := rfl
    obtain ⟨S', hS'⟩ : ∃ S', M53.pst n (j + 1) = S' := ⟨_, rfl⟩
    rw [hS'] at es
    generalize M53.pst n j = S at r1 r120 l3 jw jd es hf4 ⊢
    obtain ⟨r, xs⟩ := S
    refine ⟨decide ((j + 2) * (j + 2) ≤ r), et_test (ev_op (ev_op (ev_var rfl) (ev_var rfl) (rv_mulN (by omega))) (ev_var rfl) rv_leN), fun hb H5 e5 => ?_, fun hb H5 e5 => ?_⟩
    · have hb := of_decide_eq_true hb
      have j10 := jw hb
      refine ⟨_, fun _ _ h => h, ?_⟩
      refine q_cut (M := fun σ H' => σ = [some (nv n), some (.ref fp), some (nv r), some (nv (j + 2))] ∧ Ex H H' ∧ H' fp = some (.lst (nvs (if r % (j + 2) = 0 then xs ++ [j + 2] else xs)))) ?_ ?_
      · refine s_when (b := decide (r % (j + 2) = 0)) (et_test (ev_op (ev_op (ev_var rfl) (ev_var rfl) (rv_modN (by omega))) ev_c (rv_eqN (j := 0)))) (fun hb2 H6 e6 => ?_) (fun hb2 H6 e6 => ?_)
        · refine s_app (e6 _ _ (e5 _ _ hf4)) (ev_var rfl) (ev_var rfl) (by rw [List.length_map]; omega) fun H7 e7 => ⟨rfl, Ex.mut (((e4.trans e5).trans e6).trans e7) hfp, ?_⟩
          rw [if_pos (of_decide_eq_true hb2), upd_same, ← nvs_snoc]
        · refine ⟨rfl, (e4.trans e5).trans e6, ?_⟩
          rw [if_neg (of_decide_eq_false hb2)]
          exact e6 _ _ (e5 _ _ hf4)
      · rintro σ6 H6 ⟨rfl, e6, hf6⟩
        refine q_while (fun m σ H' => ∃ (g r' : Nat), σ = [some (nv n), some (.ref fp), some (nv r'), some (nv (j + 2))] ∧ M53.strip g (j + 2) r' = M53.strip 8 (j + 2) r ∧ r' < 2 ^ g ∧ 1 ≤ r' ∧ Ex H H' ∧ H' fp = some (.lst (nvs (if r % (j + 2) = 0 then xs ++ [j + 2] else xs))) ∧ m = r') r ⟨8, r, rfl, rfl, by omega, r1, e6, hf6, rfl⟩ ?_
        rintro m σ H7 ⟨g, r', rfl, hs, hg, hr1, e7, hf7, rfl⟩
        refine ⟨decide (m % (j + 2) = 0), et_test (ev_op (ev_op (ev_var rfl) (ev_var rfl) (rv_modN (by omega))) ev_c (rv_eqN (j := 0))), fun hb H8 e8 => ?_, fun hb H8 e8 => ?_⟩
        · have hb := of_decide_eq_true hb
          cases g with
          | zero => exact absurd hg (by omega)
          | succ g =>
            obtain ⟨d1, d2, d3⟩ := M53.div_half hr1 (by omega) hb hg
            refine ⟨_, fun _ _ h => h, ?_⟩
            refine s_asg (ev_op (ev_var rfl) (ev_var rfl) (rv_divN (by omega) (by omega))) fun H9 e9 => ⟨m / (j + 2), d3, g, _, rfl, ?_, d2, d1, (e7.trans e8).trans e9, e9 _ _ (e8 _ _ hf7), rfl⟩
            rw [← hs]
            show _ = if m % (j + 2) = 0 then _ else _
            rw [if_pos hb]
        · have hb := of_decide_eq_false hb
          have hm : m = M53.strip 8 (j + 2) r := by
            rw [← hs]
            cases g with
            | zero => rfl
            | succ g => exact (if_neg hb).symm
          refine s_asg (ev_op (ev_var rfl) ev_c (rv_addN (j := 1))) fun H9 e9 => ⟨11 - (j + 1), by omega, j + 1, ?_, by omega, (e7.trans e8).trans e9, ?_, rfl⟩
          · rw [hS', es]
            rw [hm]
            rfl
          · rw [hS', es]
            exact e9 _ _ (e8 _ _ hf7)
    · have jd := jd (of_decide_eq_false hb)
      refine q_when (b := decide (1 < r)) (et_test (ev_op (ev_var rfl) ev_c (rv_gtN (j := 1)))) (fun hb2 H6 e6 => ?_) (fun hb2 H6 e6 => ?_)
      · refine s_app (e6 _ _ (e5 _ _ hf4)) (ev_var rfl) (ev_var rfl) (by rw [List.length_map]; omega) fun H7 e7 => ?_
        refine s_ret (ev_var rfl) fun H8 e8 => k _ _ hfp ((Ex.mut (((e4.trans e5).trans e6).trans e7) hfp).trans e8) ?_
        rw [if_pos (of_decide_eq_true hb2)] at jd
        rw [← jd, nvs_snoc]
        exact e8 _ _ upd_same
      · rw [if_neg (of_decide_eq_false hb2)] at jd
        refine s_ret (ev_var rfl) fun H7 e7 => k _ _ hfp (((e4.trans e5).trans e6).trans e7) ?_
        rw [← jd]
        exact e7 _ _ (e6 _ _ (e5 _ _ hf4))
end
end K53
namespace M53
theorem powr_step : ∀ (g p r : Nat) (ws : List Nat), powr (g + 1) p r ws = if r % p = 0 then powr g p (r / p) (ws ++ [ws.getLastD 0 * p]) else (r, ws) := fun _ _ _ _ => rfl
theorem powr_stop {p r : Nat} (h : ¬ r % p = 0) (ws : List Nat) : ∀ g, powr g p r ws = (r, ws)
  | 0 => rfl
  | g + 1 => by rw [powr_step, if_neg h]
theorem powr_le : ∀ (g p r : Nat) (ws : List Nat) (B : Nat), (∀ x ∈ (powr g p r ws).2, x ≤ B) → ∀ x ∈ ws, x ≤ B
  | 0, p, r, ws, B, h => h
  | g + 1, p, r, ws, B, h => by
    rw [powr_step] at h
    split at h
    · exact fun x hx => powr_le g p (r / p) _ B h x (List.mem_append_left _ hx)
    · exact h
theorem dAt_pow : ∀ n ∈ D, ∀ i < 4, ∀ p, (pf n)[i]? = some p → ∀ x ∈ (powr 8 p (dAt n i).1 [1]).2, x ≤ 120 := by
  have : ∀ n ∈ D, ∀ i < 4, ∀ p ∈ (pf n)[i]?, ∀ x ∈ (powr 8 p (dAt n i).1 [1]).2, x ≤ 120 := by decide +kernel
  exact fun n hn i hi p hp => this n hn i hi p hp
end M53
namespace K53
open PySem PySem.Spec PyProof.Rows L2 Evl
theorem getLastD_nvs {ws : List Nat} (h : ws ≠ []) : atI (nvs ws) (-1) = some (nv (ws.getLastD 0)) := by
  have e : (nvs ws).length = ws.length := List.length_map _
  have hl : 0 < ws.length := List.length_pos_iff.mpr h
  unfold atI ixN
  rw [if_neg (by omega), if_pos (by omega)]
  show (nvs ws)[((-1 : Int) + ((nvs ws).length : Int)).toNat]? = _
  have : ((-1 : Int) + ((nvs ws).length : Int)).toNat = ws.length - 1 := by omega
  rw [this, List.getElem?_map, List.getLastD_eq_getLast?, List.getLast?_eq_getElem?]
  have : ws[ws.length - 1]? = some ws[ws.length - 1] := List.getElem?_eq_getElem _
  rw [this]
  rfl
section
variable {P : Program} {w : World} {K : PySem.W.Frag} {mg : Str → Option Value} {base : Heap} {C : Addr}
theorem k_divisors_of (T : Txt K mg C) (c_primes_of : Cl P w K mg base 1 "primes_of" spPrimes) (F : Fn K mg "divisors_of" s_divisors_of ["number"]) : Cl P w K mg base 2 "divisors_of" spDivisors := by
  refine F.cl sc_divisors_of (fun vs H Q E h => ?_) (fun f cdv A outer s H vs Q E hr h => ?_)
  · obtain ⟨n, rfl, _⟩ := h
    rfl
  · obtain ⟨n, rfl, hn, k⟩ := h
    refine ⟨_, (pss_cons (ps_set (i := 1) sc_divisors_of.nd rfl (Or.inl rfl) (pe_lst (pa_cons pe_int pa_nil)))
      (pss_cons (ps_set (i := 2) sc_divisors_of.nd rfl (Or.inl rfl) (pv 0))
      (pss_cons (ps_for PassesOwn.never rfl (k_pil (K := K) rfl (pc c_primes_of hr (by decide) rfl (pa_cons (pv 0) pa_nil))) (pg_name (i := 3) sc_divisors_of.nd rfl (Or.inl rfl))
        (pss_cons (ps_set (i := 4) sc_divisors_of.nd rfl (Or.inr rfl) (pe_lst (pa_cons pe_int pa_nil)))
      (pss_cons (ps_while PassesOwn.never (pt_cmpR op_eq (pe_op op_mod (pv 2) (pv 3)) pe_int (nomark _)) (pss_cons (ps_set (i := 2) sc_divisors_of.nd rfl (Or.inl rfl) (pe_op op_fdiv (pv 2) (pv 3)))
      (pss_one (ps_expr (k_app (K := K) rfl (pv 4) (pe_op op_mul (pe_ix (k_ixL (K := K) rfl) (pv 4) (pe_un un_neg pe_int) (fun _ _ => rfl)) (pv 3)))))))
      (pss_one (ps_setLc2 (i := 1) (own := [("one", 5), ("power", 6)]) (vs1 := [6]) rfl sc_divisors_of.nd rfl rfl (sw_true rfl rfl rfl (by decide +kernel)) (k_pil (K := K) rfl (pv 1)) (blkOk_by (own := [("one", 5), ("power", 6)]) (N := N_divisors_of) (sc := defScope s_divisors_of) (by decide +kernel)) (by decide) (fun _ _ _ _ _ => (pg_name (i := 5) sc_divisors_of.nd rfl (Or.inl rfl))) (fun _ _ _ _ _ => pts_nil) (fun _ _ _ _ _ => (k_pil (K := K) rfl (pv 4))) (fun _ _ _ _ _ => (pg_name (i := 6) sc_divisors_of.nd rfl (Or.inl rfl))) (fun _ _ _ _ _ => pts_nil) (fun _ _ _ _ _ => (pe_op op_mul (pv 5) (pv 6))))))))
      (pss_one (ps_ret (pe_callB (k_sorted (K := K) rfl) (by rfl) T.sorted bt_sorted (pa_cons (pe_lc (own := [("one", 5)]) rfl sc_divisors_of.nd (k_pil (K := K) rfl (pv 1)) (blkOk_by (own := [("one", 5)]) (N := N_divisors_of) (sc := defScope s_divisors_of) (by decide +kernel)) (fun _ _ _ _ _ => (pg_name (i := 5) sc_divisors_of.nd rfl (Or.inl rfl))) (fun _ _ _ _ _ => pts_nil) (fun _ _ _ _ _ => (pe_callTy call_int1 (by rfl) T.int bt_int (pa_cons (pv 5) pa_nil)))) pa_nil))))))), ?_⟩
    refine q_asgL (el_lst (ea_cons ev_c ea_nil) (by decide)) fun fp H1 hfp e1 hf1 => ?_
    refine q_asg (ev_var rfl) fun H2 e2 => ?_
    have l3 := M53.pf_len n hn
    refine q_forNLn (el_tF (ea_cons (ev_var rfl) ea_nil) (spl_primes hn)) (fun pp i σ H' => ∃ (fp : Addr) (o1 o2 o3 o4 : Option V), σ = [some (nv n), some (.ref fp), some (nv (M53.dAt n i).1), o1, o2, o3, o4] ∧ Ex H H' ∧ H fp = none ∧ H' fp = some (.lst (nvs (M53.dAt n i).2)) ∧ H pp = none ∧ fp ≠ pp ∧ H' pp = some (.lst (nvs (M53.pf n))))
      (fun pp H3 hpp e3 hp3 => ⟨fp, _, _, _, _, rfl, (e1.trans e2).trans e3, hfp, e3 _ _ (e2 _ _ hf1), fresh_back (e1.trans e2) hpp, fun e => by rw [← e, e2 _ _ hf1] at hpp; exact absurd hpp (by decide), hp3⟩)
      (fun pp i σ' H' hi q => let ⟨_, _, _, _, _, _, _, _, _, _, _, h⟩ := q; sq_of h) (fun pp i x σ' H' hi q => ?_) (fun pp σ' H' q => ?_)
    · obtain ⟨fp, o1, o2, o3, o4, rfl, e3, hfp, hf3, hpp, hne, hp3⟩ := q
      obtain ⟨ep, hi2, hm⟩ := getD_of hi
      have hpi : (M53.pf n)[i]? = some ((M53.pf n).getD i 0) := by rw [List.getD_eq_getElem?_getD, List.getElem?_eq_getElem hi2] <;> rfl
      generalize (M53.pf n).getD i 0 = p at ep hpi
      subst ep
      obtain ⟨p2, p5, es, lw⟩ := M53.dAt_step n hn i (by omega) p hpi
      have w120 := M53.dAt_pow n hn i (by omega) p hpi
      obtain ⟨r1, r120, lx, x120⟩ := M53.dAt_ok n hn i (by omega)
      rw [es]
      generalize M53.dAt n i = S at lw w120 r1 r120 lx x120 hf3 ⊢
      obtain ⟨r, xs⟩ := S
      refine q_asgL (el_lst (ea_cons ev_c ea_nil) (by decide)) fun wp H4 hwp e4 hw4 => ?_
      refine q_while (fun m σ H5 => ∃ (g r' : Nat) (ws : List Nat), σ = [some (nv n), some (.ref fp), some (nv r'), some (nv p), some (.ref wp), o3, o4] ∧ M53.powr g p r' ws = M53.powr 8 p r [1] ∧ r' < 2 ^ g ∧ 1 ≤ r' ∧ ws ≠ [] ∧ Ex H' H5 ∧ H5 wp = some (.lst (nvs ws)) ∧ m = r') r
        ⟨8, r, [1], rfl, rfl, by have : r ≤ 120 := r120; omega, r1, by simp, e4, hw4, rfl⟩ ?_
      rintro m σ H5 ⟨g, r', ws, rfl, hs, hg, hr1, hws, e5, hw5, rfl⟩
      refine ⟨decide (m % p = 0), et_test (ev_op (ev_op (ev_var rfl) (ev_var rfl) (rv_modN (by omega))) ev_c (rv_eqN (j := 0))), fun hb H6 e6 => ?_, fun hb H6 e6 => ?_⟩
      · have hb := of_decide_eq_true hb
        cases g with
        | zero => exact absurd hg (by omega)
        | succ g =>
          obtain ⟨d1, d2, d3⟩ := M53.div_half hr1 (by omega) hb hg
          rw [M53.powr_step, if_pos hb] at hs
          refine ⟨_, fun _ _ h => h, ?_⟩
          refine q_asg (ev_op (ev_var rfl) (ev_var rfl) (rv_divN (by omega) (by omega))) fun H7 e7 => ?_
          have wl := M53.powr_fact g p (m / p) (ws ++ [ws.getLastD 0 * p]) (by simp)
          rw [hs, List.length_append] at wl
          have wl : ws.length + 1 ≤ _ := wl
          have lw : (M53.powr 8 p r [1]).2.length ≤ 16 := lw
          have wb : ws.getLastD 0 * p ≤ 120 := M53.powr_le g p (m / p) (ws ++ [ws.getLastD 0 * p]) 120 (by rw [hs]; exact w120) _ (List.mem_append_right _ List.mem_cons_self)
          have wb2 : ws.getLastD 0 ≤ ws.getLastD 0 * p := Nat.le_mul_of_pos_right _ (by omega)
          refine s_app (e7 _ _ (e6 _ _ hw5)) (ev_var rfl) (ev_op (ev_op (ev_var rfl) (ev_un ev_c ru_neg) (rv_ixL (sq_of (e7 _ _ (e6 _ _ hw5))) (getLastD_nvs hws))) (ev_var rfl) (rv_mulN (by omega))) (by rw [List.length_map]; omega) fun H8 e8 =>
            ⟨m / p, d3, g, _, ws ++ [ws.getLastD 0 * p], rfl, hs, d2, d1, by simp, Ex.mut (((e5.trans e6).trans e7).trans e8) hwp, ?_, rfl⟩
          rw [upd_same, ← nvs_snoc]
      · have hb := of_decide_eq_false hb
        rw [M53.powr_stop hb] at hs
        rw [← hs] at lw w120 ⊢
        have lw : ws.length ≤ 16 := lw
        have lx : xs.length ≤ 16 := lx
        have key : ((nvs xs).flatMap fun x => (nvs ws).map fun y => (match x, y with | .int a, .int b => .int (a * b) | _, _ => .non : V)) = nvs (xs.flatMap fun x => ws.map fun w => x * w) := by
          unfold nvs
          rw [List.flatMap_map, List.map_flatMap]
          congr 1
          funext x
          rw [List.map_map, List.map_map]
          refine List.map_congr_left fun y _ => ?_
          show V.int ((x : Int) * (y : Int)) = nv (x * y)
          exact congrArg V.int (Int.natCast_mul x y).symm
        have E := el_lc2 (K := K) (tl := tVar 1) (tl1 := tVar 4) (te := tOp (rI CMul fun i j => V.int (i * j)) (tVar 5) (tVar 6)) (σ := [some (nv n), some (.ref fp), some (nv m), some (nv p), some (.ref wp), o3, o4]) (vs := [5, 6]) (vs1 := [6]) (j := 5) (j1 := 6) (H := H6)
          (fun x y => (match x, y with | .int a, .int b => .int (a * b) | _, _ => .non : V)) (ev_var rfl) (sq_of (e6 _ _ (e5 _ _ hf3))) (sq_of (e6 _ _ hw5)) (by rw [List.length_map, List.length_map]; exact Nat.le_trans (Nat.mul_le_mul lx lw) (by decide)) (fun _ => rfl) (fun _ _ _ => ev_var rfl) (fun _ _ => rfl) (fun x y H1 e hx hy => by
            obtain ⟨a, ha, rfl⟩ := List.mem_map.mp hx
            obtain ⟨b, hb, rfl⟩ := List.mem_map.mp hy
            have ha : a ≤ 120 := x120 a ha
            exact ev_is (ev_op (ev_var rfl) (ev_var rfl) (rv_mulN (by omega))) (congrArg V.int (Int.natCast_mul a b)))
        rw [key] at E
        refine s_asgL E fun fp2 H7 hfp2 e7 hf7 => ⟨fp2, _, _, _, _, rfl, ((e3.trans e5).trans e6).trans e7, fresh_back ((e3.trans e5).trans e6) hfp2, hf7, hpp, fun e => ?_, e7 _ _ (e6 _ _ (e5 _ _ hp3))⟩
        rw [e, e6 _ _ (e5 _ _ hp3)] at hfp2
        exact absurd hfp2 (by simp)
    · obtain ⟨fp, o1, o2, o3, o4, rfl, e3, hfp, hf3, hpp, hne, hp3⟩ := q
      rw [List.length_map] at hf3
      obtain ⟨r1, r120, lx, x120⟩ := M53.dAt_ok n hn _ (show (M53.pf n).length < 4 by omega)
      refine s_retL (el_sorted (el_ints (ev_var rfl) (sq_of hf3) (by omega) (fun _ => rfl) (fun _ => rfl)) (M53.dAt_all n hn) (M53.dv_sorted n)) fun p H4 hp e4 h4 => k _ _ (fresh_back e3 hp) (e3.trans e4) h4
end
end K53
namespace M53
theorem sg_ok : ∀ q ∈ D, ∀ i < 4, (sg ((pf q).take i)).length ≤ 8 ∧ ∀ x ∈ sg ((pf q).take i), 0 < x.1 ∧ x.1 ≤ 30 ∧ -1 ≤ x.2 ∧ x.2 ≤ 1 := by decide +kernel
theorem sg_snoc (ps : List Nat) (p : Nat) : sg (ps ++ [p]) = sgStep (sg ps) p := by
  unfold sg
  rw [List.foldl_append]
  rfl
end M53
namespace K53
open PySem PySem.Spec PyProof.Rows L2 Evl
theorem range_get {α : Type} (xs : List α) (d : α) : (List.range xs.length).map (fun i => xs.getD i d) = xs := by
  refine List.ext_getElem? fun i => ?_
  rw [List.getElem?_map]
  by_cases hi : i < xs.length
  · rw [List.getElem?_range hi, List.getElem?_eq_getElem hi]
    have : xs.getD i d = xs[i] := by rw [List.getD_eq_getElem?_getD, List.getElem?_eq_getElem hi] <;> rfl
    exact congrArg some this
  · rw [List.getElem?_eq_none (by rw [List.length_range]; omega), List.getElem?_eq_none (by omega)]
    rfl
theorem getD_at {α : Type} {xs : List α} {i : Nat} {x : α} (d : α) (h : xs[i]? = some x) : xs.getD i d = x := by rw [List.getD_eq_getElem?_getD, h] <;> rfl
section
variable {K : PySem.W.Frag} {σ : L2.St} {H H' : Hp} {ta tb tc te tl tl1 : TE} {t : TA} {ws : List V}
theorem ed_tup {Dl : Addr} {R : V → Hp → Prop} (h : EvA t σ H ws) (hl : ws.length ≤ 100000) (r : ∀ p H2, H2 p = some (.tup ws) → R (.ref p) H2) : EvD Dl (tTup t) σ H R := fun H1 e hD Q q => h H1 e _ fun H2 e2 =>
  ⟨sz_of hl, fun p hp => q (.ref p) _ (e2.trans (Ex.new hp)) (r p _ (by
    have ne : p ≠ Dl := fun z => by
      rw [z] at hp
      exact hD (fresh_back e2 hp)
    rw [del_at ne, upd_same]))⟩
theorem ev_sum {ns : List Int} (h : EvL te σ H (ns.map V.int)) : Ev (tCB (rSum K) (tCons te tNil)) σ H (.int ns.sum) := fun H1 e Q q => h H1 e _ fun p H2 hp e2 h2 => ⟨p, ns, rfl, sq_of h2, q H2 e2⟩
end
def PairAt (K : PySem.W.Frag) (x : Nat × Int) (v : V) (H : Hp) : Prop := ∃ q, v = .ref q ∧ SqT K H q [nv x.1, .int x.2]
theorem PairAt.ext {K : PySem.W.Frag} {x : Nat × Int} {v : V} {H H' : Hp} (h : PairAt K x v H) (e : Ex H H') : PairAt K x v H' := let ⟨q, a, b⟩ := h; ⟨q, a, ex_t e b⟩
def PairsAt (K : PySem.W.Frag) (H : Hp) (p : Addr) (l : List (Nat × Int)) : Prop := ∃ ys, H p = some (.lst ys) ∧ ys.length = l.length ∧ ∀ (j : Nat) y x, ys[j]? = some y → l[j]? = some x → PairAt K x y H
theorem PairsAt.ext {K : PySem.W.Frag} {p : Addr} {l : List (Nat × Int)} {H H' : Hp} (h : PairsAt K H p l) (e : Ex H H') : PairsAt K H' p l := let ⟨ys, a, b, c⟩ := h; ⟨ys, e _ _ a, b, fun j y x hy hx => (c j y x hy hx).ext e⟩
section
variable {P : Program} {w : World} {K : PySem.W.Frag} {mg : Str → Option Value} {base : Heap} {C : Addr}
theorem k_coprimes_up_to (T : Txt K mg C) (F : Fn K mg "coprimes_up_to" s_coprimes_up_to ["number", "primes"]) : Cl P w K mg base 1 "coprimes_up_to" (spCop K) := by
  refine F.cl sc_coprimes_up_to (fun vs H Q E h => ?_) (fun f cdv A outer s H vs Q E hr h => ?_)
  · obtain ⟨n, q, p, rfl, _⟩ := h
    rfl
  · obtain ⟨n, q, p, rfl, hq, hp, k⟩ := h
    have l3 := M53.pf_len q hq
    refine ⟨_, (pss_cons (ps_set (i := 2) sc_coprimes_up_to.nd rfl (Or.inl rfl) (pe_lst (pa_cons (pe_tup (pa_cons pe_int (pa_cons pe_int pa_nil))) pa_nil)))
      (pss_cons (ps_for PassesOwn.never rfl (k_pil (K := K) rfl (pv 1)) (pg_name (i := 3) sc_coprimes_up_to.nd rfl (Or.inr rfl))
        (pss_one (ps_set (i := 2) sc_coprimes_up_to.nd rfl (Or.inl rfl) (pe_op op_cat (pv 2) (pe_lc (own := [("product", 4), ("sign", 5)]) rfl sc_coprimes_up_to.nd (k_pil (K := K) rfl (pv 2)) (blkOk_by (own := [("product", 4), ("sign", 5)]) (N := N_coprimes_up_to) (sc := defScope s_coprimes_up_to) (by decide +kernel)) (fun _ _ _ _ _ => (k_pgt (K := K) (n := 2) rfl rfl (pgs_cons (pg_name (i := 4) sc_coprimes_up_to.nd rfl (Or.inl rfl)) (pgs_cons (pg_name (i := 5) sc_coprimes_up_to.nd rfl (Or.inl rfl)) pgs_nil)))) (fun _ _ _ _ _ => pts_nil) (fun _ _ _ _ _ => (pe_tup (pa_cons (pe_op op_mul (pv 4) (pv 3)) (pa_cons (pe_un un_neg (pv 5)) pa_nil)))))))))
      (pss_one (ps_ret (pe_callB (k_sum (K := K) rfl rfl) (by rfl) T.sum bt_sum (pa_cons (pe_lc (own := [("product", 4), ("sign", 5)]) rfl sc_coprimes_up_to.nd (k_pil (K := K) rfl (pv 2)) (blkOk_by (own := [("product", 4), ("sign", 5)]) (N := N_coprimes_up_to) (sc := defScope s_coprimes_up_to) (by decide +kernel)) (fun _ _ _ _ _ => (k_pgt (K := K) (n := 2) rfl rfl (pgs_cons (pg_name (i := 4) sc_coprimes_up_to.nd rfl (Or.inl rfl)) (pgs_cons (pg_name (i := 5) sc_coprimes_up_to.nd rfl (Or.inl rfl)) pgs_nil)))) (fun _ _ _ _ _ => pts_nil) (fun _ _ _ _ _ => (pe_op op_mul (pv 5) (pe_op op_fdiv (pv 0) (pv 4))))) pa_nil)))))), ?_⟩
    refine ⟨sz_of (by simp), fun tp htp => ⟨sz_of (by simp), fun sp hsp => ?_⟩⟩
    refine q_forLn (ev_var rfl) (ex_l (Ex.new htp |>.trans (Ex.new hsp)) hp) (fun i σ H' => ∃ (sp : Addr) (o1 o2 o3 : Option V), σ = [some (nv n), some (.ref p), some (.ref sp), o1, o2, o3] ∧ Ex H H' ∧ PairsAt K H' sp (M53.sg ((M53.pf q).take i)))
      (fun H3 e3 => ⟨sp, _, _, _, rfl, (Ex.new htp |>.trans (Ex.new hsp)).trans e3, PairsAt.ext ⟨_, upd_same, rfl, fun j y x hy hx => ?_⟩ e3⟩)
      (fun i σ' H' hi h => let ⟨_, _, _, _, _, e, _⟩ := h; ex_l e hp) (fun i x σ' H' hi h => ?_) (fun σ' H' h => ?_)
    · cases j with
      | zero =>
        have hy : some (V.ref tp) = some y := hy
        have hx : some ((1 : Nat), (1 : Int)) = some x := hx
        cases hy
        cases hx
        exact ⟨tp, rfl, st_of (Ex.new hsp _ _ upd_same)⟩
      | succ j => simp at hy
    · obtain ⟨sp, o1, o2, o3, rfl, e1, ys, hs, hl, hys⟩ := h
      obtain ⟨ep, hi2, hm⟩ := getD_of hi
      have hpi : (M53.pf q)[i]? = some ((M53.pf q).getD i 0) := by rw [List.getD_eq_getElem?_getD, List.getElem?_eq_getElem hi2] <;> rfl
      generalize (M53.pf q).getD i 0 = pr at ep hpi hm
      subst ep
      have p5 : pr ≤ 5 := by rcases (M53.mem_pf.mp hm).1 with e | e | e <;> omega
      obtain ⟨l8, hsg⟩ := M53.sg_ok q hq i (by omega)
      have et : (M53.pf q).take (i + 1) = (M53.pf q).take i ++ [pr] := by rw [List.take_add_one, hpi] <;> rfl
      rw [et, M53.sg_snoc]
      generalize M53.sg ((M53.pf q).take i) = l at hl hys l8 hsg ⊢
      have L : LcP (tLc (iList K (tVar 2)) (gTup K 2 (gCons (gName 4) (gCons (gName 5) gNil))) tYes (tTup (tCons (tOp (rI CMul fun i j => V.int (i * j)) (tVar 4) (tVar 3)) (tCons (tUn (rU fun i => V.int (-i)) (tVar 5)) tNil))) [4, 5]) [some (nv n), some (V.ref p), some (V.ref sp), some (nv pr), o2, o3] H' ys.length (fun i v H => ∀ x, l[i]? = some x → PairAt K (x.1 * pr, -x.2) v H) := by
        refine lcL _ (fun i v H1 H2 e h x hx => (h x hx).ext e) (ev_var rfl) (sq_of hs) (by omega) fun i y H1 e hy Z hz => ?_
        have hil := (List.getElem?_eq_some_iff.mp hy).1
        have hx : l[i]? = some l[i] := List.getElem?_eq_getElem (by omega)
        obtain ⟨t, rfl, ht⟩ := hys i y _ hy hx
        have b := hsg _ (List.getElem_mem (by omega : i < l.length))
        refine ⟨t, _, rfl, ex_t e ht, rfl, _, _, rfl, _, _, rfl, rfl, hz _ rfl fun Dl => ?_⟩
        refine ed_tup (ea_cons (ev_op (ev_var rfl) (ev_var rfl) (rv_mulN (by omega))) (ea_cons (ev_un (ev_var rfl) ru_neg) ea_nil)) (by simp) fun t2 H2 h2 x hx2 => ?_
        rw [hx] at hx2
        cases hx2
        exact ⟨t2, rfl, st_of h2⟩
      refine ⟨_, rfl, L H' (Ex.refl _) _ fun D zs H2 hD e2 hDs hzl hzs => ⟨sp, D, _, _, rfl, rfl, e2 _ _ hs, hDs, sz_of (by omega), fun np hnp => ?_⟩⟩
      have e3 : Ex H2 (upd H2 np (.lst (ys ++ zs))) := Ex.new hnp
      refine ⟨np, _, _, _, rfl, (e1.trans e2).trans e3, ys ++ zs, upd_same, ?_, fun j y x hy hx => ?_⟩
      · unfold M53.sgStep
        rw [List.length_append, List.length_append, List.length_map, hl, hzl, hl]
      · unfold M53.sgStep at hx
        by_cases hj : j < ys.length
        · rw [List.getElem?_append_left hj] at hy
          rw [List.getElem?_append_left (by omega)] at hx
          exact (hys j y x hy hx).ext (e2.trans e3)
        · rw [List.getElem?_append_right (by omega)] at hy
          rw [List.getElem?_append_right (by omega), List.getElem?_map, ← hl] at hx
          cases hx3 : l[j - ys.length]? with
          | none => rw [hx3] at hx; cases hx
          | some x' =>
            rw [hx3] at hx
            cases hx
            exact (hzs _ y hy x' hx3).ext e3
    · obtain ⟨sp, o1, o2, o3, rfl, e1, ys, hs, hl, hys⟩ := h
      rw [List.length_map] at hl hys
      obtain ⟨l8, hsg⟩ := M53.sg_ok q hq _ (show (M53.pf q).length < 4 by omega)
      rw [List.take_length] at hl hys l8 hsg
      have L : LcP (tLc (iList K (tVar 2)) (gTup K 2 (gCons (gName 4) (gCons (gName 5) gNil))) tYes (tOp (rI CMul fun i j => V.int (i * j)) (tVar 5) (tOp (rI CDiv fun i j => V.int (i / j)) (tVar 0) (tVar 4))) [4, 5]) [some (nv n), some (V.ref p), some (V.ref sp), o1, o2, o3] H' ys.length
          (fun i v _ => v = V.int (((M53.sg (M53.pf q)).getD i (0, 0)).2 * ((n : Int) / (((M53.sg (M53.pf q)).getD i (0, 0)).1 : Int)))) := by
        refine lcL _ (fun i v H1 H2 e h => h) (ev_var rfl) (sq_of hs) (by omega) fun i y H1 e hy Z hz => ?_
        have hil := (List.getElem?_eq_some_iff.mp hy).1
        have hx : (M53.sg (M53.pf q))[i]? = some (M53.sg (M53.pf q))[i] := List.getElem?_eq_getElem (by omega)
        obtain ⟨t, rfl, ht⟩ := hys i y _ hy hx
        have b := hsg _ (List.getElem_mem (by omega : i < (M53.sg (M53.pf q)).length))
        refine ⟨t, _, rfl, ex_t e ht, rfl, _, _, rfl, _, _, rfl, rfl, hz _ rfl fun Dl => ?_⟩
        exact Ev.d (ev_op (ev_var rfl) (ev_op (ev_var rfl) (ev_var rfl) (rv_I ⟨by omega, by omega⟩)) (rv_I (.inl ⟨by omega, by omega⟩))) fun _ => by rw [getD_at (0, 0) hx]
      have L2 := L.el
      rw [hl] at L2
      have key : (List.range (M53.sg (M53.pf q)).length).map (fun i => V.int (((M53.sg (M53.pf q)).getD i (0, 0)).2 * ((n : Int) / (((M53.sg (M53.pf q)).getD i (0, 0)).1 : Int)))) = ((M53.sg (M53.pf q)).map fun x => x.2 * ((n : Int) / (x.1 : Int))).map V.int := by
        conv => rhs; rw [← range_get (M53.sg (M53.pf q)) (0, 0)]
        rw [List.map_map, List.map_map]
        rfl
      rw [key] at L2
      exact s_ret (ev_sum L2) fun H2 e2 => k _ (e1.trans e2)
end
end K53
/-! dicts; values told by a word -/
namespace K53
open PySem PySem.Spec PyProof.Rows L2 Evl
theorem tab_nil (v : Nat → Bool) : tabV v [] = [] := rfl
theorem valV_tab (v : Nat → Bool) (d : Nat) : ∀ ds : List Nat, valV (tabV v ds) (Sum.inl (d : Int)) = if d ∈ ds then some (.bl (v d)) else none
  | [] => rfl
  | e :: ds => by
    have ih := valV_tab v d ds
    show valV (((Sum.inl (e : Int) : Key), V.bl (v e)) :: tabV v ds) _ = _
    by_cases h : e = d
    · subst h
      rw [valV_pos rfl, if_pos List.mem_cons_self]
    · rw [valV_neg (fun z => h (by have := Sum.inl.inj z; omega)), ih]
      have : (d ∈ e :: ds) ↔ d ∈ ds := by
        rw [List.mem_cons]
        exact ⟨fun z => z.resolve_left fun q => h q.symm, Or.inr⟩
      simp only [this]
theorem tab_congr {v v2 : Nat → Bool} {ds : List Nat} (h : ∀ d ∈ ds, v d = v2 d) : tabV v ds = tabV v2 ds := List.map_congr_left fun d hd => by rw [h d hd]
theorem tab_snoc (v : Nat → Bool) (ds : List Nat) (d : Nat) (b : Bool) (h : ¬ d ∈ ds) : putK (tabV v ds) (Sum.inl (d : Int)) (.bl b) = tabV (fun x => if x = d then b else v x) (ds ++ [d]) := by
  rw [putK_new]
  · unfold tabV
    rw [List.map_append]
    have e1 : ds.map (fun (d : Nat) => ((Sum.inl (d : Int) : Key), V.bl (v d))) = ds.map (fun (y : Nat) => ((Sum.inl (y : Int) : Key), V.bl ((fun x => if x = d then b else v x) y))) := List.map_congr_left fun x hx => by
      have ne : ¬ x = d := fun e => h (by rw [← e]; exact hx)
      show _ = (_, V.bl (if x = d then b else v x))
      rw [if_neg ne]
    have e2 : [((Sum.inl (d : Int) : Key), V.bl b)] = [d].map (fun (y : Nat) => ((Sum.inl (y : Int) : Key), V.bl ((fun x => if x = d then b else v x) y))) := by
      show _ = [((Sum.inl (d : Int) : Key), V.bl (if d = d then b else v d))]
      rw [if_pos rfl]
    rw [e1, e2]
  · rw [valV_tab, if_neg h]
section
variable {K : PySem.W.Frag} {σ : L2.St} {H H' : Hp} {ta tb tc td te tl tl1 ty tv : TE} {t : TA} {tt : TT} {x y z v : V} {g : TG} {vs : List Nat} {tu tw tz : TS} {D : Ends} {kvs : List (Key × V)} {a : Addr} {k : Key}
theorem ev_dget (h : Ev td σ H (.ref a)) (hk : Ev ty σ H (kV k)) (ha : Rd H a (.dK kvs)) (hv : valV kvs k = some v) : Ev (tDGet td ty) σ H v := fun H1 e Q q => h H1 e _ fun H2 e2 => hk H2 (e.trans e2) _ fun H3 e3 =>
  ⟨a, v, rfl, .inl ⟨kvs, k, ex_rd ((e.trans e2).trans e3) ha, rfl, hv.symm⟩, q H3 (e2.trans e3)⟩
theorem ev_din (hk : Ev ty σ H (kV k)) (h : Ev td σ H (.ref a)) (ha : Rd H a (.dK kvs)) : Ev (tDIn ty td) σ H (.bl (valV kvs k).isSome) := fun H1 e Q q => hk H1 e _ fun H2 e2 => h H2 (e.trans e2) _ fun H3 e3 =>
  ⟨a, valV kvs k, rfl, .inl ⟨kvs, k, ex_rd ((e.trans e2).trans e3) ha, rfl, rfl⟩, q H3 (e2.trans e3)⟩
theorem ev_dnotin (hk : Ev ty σ H (kV k)) (h : Ev td σ H (.ref a)) (ha : Rd H a (.dK kvs)) : Ev (tDNotIn ty td) σ H (.bl (!(valV kvs k).isSome)) := fun H1 e Q q => hk H1 e _ fun H2 e2 => h H2 (e.trans e2) _ fun H3 e3 =>
  ⟨a, valV kvs k, rfl, .inl ⟨kvs, k, ex_rd ((e.trans e2).trans e3) ha, rfl, rfl⟩, q H3 (e2.trans e3)⟩
theorem s_dput (hv : Ev tv σ H v) (h : Ev td σ H (.ref a)) (hk : Ev ty σ H (kV k)) (ha : H a = some (.dK kvs)) (hl : kvs.length < 100000) (q : ∀ H1, Ex H H1 → D.nx σ (upd H1 a (.dK (putK kvs k v)))) : sDPut td ty tv D σ H := hv H (Ex.refl H) _ fun H1 e1 => h H1 e1 _ fun H2 e2 => hk H2 (e1.trans e2) _ fun H3 e3 =>
  ⟨a, _, rfl, .inl ⟨kvs, k, ((e1.trans e2).trans e3) _ _ ha, rfl, sz_lt hl, rfl⟩, q H3 ((e1.trans e2).trans e3)⟩
/-- {} -/
theorem q_dnew {i : Nat} (q : ∀ p H1, H p = none → Ex H H1 → H1 p = some (.dK []) → tz D (σ.set i (some (.ref p))) H1) : tSeq (tAsg tDNewK (gName i)) tz D σ H := fun p hp => q p _ hp (Ex.new hp) upd_same
theorem lock_ex {o : Obj} {u : HO} (h : H a = some u) (e : Ex (upd H a (.frz o u)) H') : Ex H (upd H' a u) := fun b w hb => by
  by_cases hba : b = a
  · subst hba
    rw [h] at hb
    cases hb
    exact upd_same
  · rw [upd_ne hba]
    refine e b w ?_
    rw [upd_ne hba]
    exact hb
/-- a loop over the keys of a dict, which the body reads only -/
theorem s_forK {j : Nat} (ha : H a = some (.dK kvs)) (h : ∀ o, Ev td σ (upd H a (.frz o (.dK kvs))) (.ref a)) (Pv : Obj → Nat → L2.St → Hp → Prop) (h0 : ∀ o H1, Ex (upd H a (.frz o (.dK kvs))) H1 → Pv o 0 σ H1) (hG : ∀ o i σ' H', Pv o i σ' H' → H' a = some (.frz o (.dK kvs)))
    (hs : ∀ o i k v σ' H', kvs[i]? = some (k, v) → Pv o i σ' H' → tu ⟨Pv o (i + 1), fun v H' => H' a = some (.frz o (.dK kvs)) ∧ D.rt v (upd H' a (.dK kvs)), fun σ H' => H' a = some (.frz o (.dK kvs)) ∧ D.nx σ (upd H' a (.dK kvs)), Pv o (i + 1)⟩ (σ'.set j (some (kV k))) H')
    (hd : ∀ o σ' H', Pv o kvs.length σ' H' → D.nx σ' (upd H' a (.dK kvs))) : tLock (tFor (iKeys td) (gName j) tu) D σ H :=
  ⟨a, .dK kvs, ha, True.intro, fun o => h o _ (Ex.refl _) _ fun H1 e1 => ⟨a, o, rfl, .inl ⟨kvs, e1 _ _ upd_same,
    for_it walk_keys (Pv o) (h0 o H1 e1) (fun i σ' H' _ p => hG o i σ' H' p) (fun i x σ' H' H'' hi p y => by
      obtain ⟨rfl, k, v, hk, rfl⟩ := y
      exact hs o i k v σ' H'' hk p) (fun σ' H' p => ⟨hG o _ σ' H' p, hd o σ' H' p⟩)⟩⟩⟩
theorem q_forK {j : Nat} (ha : H a = some (.dK kvs)) (h : ∀ o, Ev td σ (upd H a (.frz o (.dK kvs))) (.ref a)) (Pv : Obj → Nat → L2.St → Hp → Prop) (h0 : ∀ o H1, Ex (upd H a (.frz o (.dK kvs))) H1 → Pv o 0 σ H1) (hG : ∀ o i σ' H', Pv o i σ' H' → H' a = some (.frz o (.dK kvs)))
    (hs : ∀ o i k v σ' H', kvs[i]? = some (k, v) → Pv o i σ' H' → tu ⟨Pv o (i + 1), fun v H' => H' a = some (.frz o (.dK kvs)) ∧ D.rt v (upd H' a (.dK kvs)), fun σ H' => H' a = some (.frz o (.dK kvs)) ∧ tz D σ (upd H' a (.dK kvs)), Pv o (i + 1)⟩ (σ'.set j (some (kV k))) H')
    (hd : ∀ o σ' H', Pv o kvs.length σ' H' → tz D σ' (upd H' a (.dK kvs))) : tSeq (tLock (tFor (iKeys td) (gName j) tu)) tz D σ H := s_forK (D := { D with nx := tz D }) ha h Pv h0 hG hs hd
/-- [.. for k in a dict]: which turns give, and what -/
theorem el_lcK {j : Nat} (f : Nat → Bool) (v : Nat → V) (ha : H a = some (.dK kvs)) (h : ∀ H1, Ev td σ H1 (.ref a)) (hz : kvs.length ≤ 40000) (hw : ∀ x, wipe ((wipe σ vs).set j (some x)) vs = wipe σ vs)
    (ht : ∀ (i : Nat) k y o H1, Ex (upd H a (.frz o (.dK kvs))) H1 → kvs[i]? = some (k, y) → EvT tt ((wipe σ vs).set j (some (kV k))) H1 (f i)) (he : ∀ (i : Nat) k y o H1, Ex (upd H a (.frz o (.dK kvs))) H1 → kvs[i]? = some (k, y) → f i = true → Ev te ((wipe σ vs).set j (some (kV k))) H1 (v i)) :
    EvL (tLockE (tLc (iKeys td) (gName j) tt te vs)) σ H (given kvs.length f v) := fun H0 e Q q =>
  ⟨a, .dK kvs, e _ _ ha, True.intro, fun o => h _ _ (Ex.refl _) _ fun H1 e1 => ⟨a, o, rfl, .inl ⟨kvs, e1 _ _ upd_same, fun Dl hD => by
    have base : Ex (upd H a (.frz o (.dK kvs))) (upd H0 a (.frz o (.dK kvs))) := fun b w hb => by
      by_cases hba : b = a
      · subst hba
        rw [upd_same] at hb
        rw [upd_same]
        exact hb
      · rw [upd_ne hba] at hb
        rw [upd_ne hba]
        exact e b w hb
    have hH1 : H1 a = some (.frz o (.dK kvs)) := e1 _ _ upd_same
    refine lc_it walk_keys (Cw H1 f v Dl) ⟨hD, Ex.new hD, upd_same⟩ (fun i H' _ p => p.2.1 _ _ hH1) (fun i x H' H'' hi p y => ?_) (fun H' p => ?_)
    · obtain ⟨rfl, k, y, hk, rfl⟩ := y
      exact ⟨hw _, cw_turn p (by omega) (ht i k y o H1 (base.trans e1) hk) (fun hf => he i k y o H1 (base.trans e1) hk hf)⟩
    · have hDa : Dl ≠ a := fun z => by rw [z, hH1] at hD; cases hD
      refine ⟨p.2.1 _ _ hH1, q Dl _ ?_ (lock_ex (e _ _ ha) (e1.trans p.2.1)) ?_⟩
      · have := fresh_back e1 hD
        rw [upd_ne hDa] at this
        exact this
      · rw [upd_ne hDa]
        exact p.2.2⟩⟩⟩
theorem q_asgP {R : V → Hp → Prop} {i : Nat} (h : EvP te σ H R) (k : ∀ v H1, Ex H H1 → R v H1 → tz D (σ.set i (some v)) H1) : tSeq (tAsg te (gName i)) tz D σ H := h H (Ex.refl H) _ k
theorem s_asgP {R : V → Hp → Prop} {i : Nat} (h : EvP te σ H R) (k : ∀ v H1, Ex H H1 → R v H1 → D.nx (σ.set i (some v)) H1) : tAsg te (gName i) D σ H := h H (Ex.refl H) _ k
theorem s_retP {R : V → Hp → Prop} (h : EvP te σ H R) (k : ∀ v H1, Ex H H1 → R v H1 → D.rt v H1) : tRet te D σ H := h H (Ex.refl H) _ k
theorem ep_if {R : V → Hp → Prop} {b : Bool} (h : EvT tt σ H b) (h1 : b = true → EvP ta σ H R) (h2 : b = false → EvP tb σ H R) : EvP (tIf tt ta tb) σ H R := fun H1 e Q q => h H1 e _ fun H2 e2 => by
  cases b with
  | true =>
    show ta σ H2 Q
    exact h1 rfl H2 (e.trans e2) Q fun v H3 e3 r => q v H3 (e2.trans e3) r
  | false =>
    show tb σ H2 Q
    exact h2 rfl H2 (e.trans e2) Q fun v H3 e3 r => q v H3 (e2.trans e3) r
theorem rv_notN : RV (fun x y H Q => y = .non ∧ Q (.bl (!decide (x = .non))) H) x .non H (.bl (!decide (x = .non))) := fun H1 _ _ q => ⟨rfl, q H1 (Ex.refl H1)⟩
theorem rv_isN : RV (fun x y H Q => y = .non ∧ Q (.bl (decide (x = .non))) H) x .non H (.bl (decide (x = .non))) := fun H1 _ _ q => ⟨rfl, q H1 (Ex.refl H1)⟩
/-- {f(x): g(x) for x in xs} to a dict, by turns -/
def Cd (H : Hp) (d : Nat → List (Key × V)) (Dl : Addr) (i : Nat) (H' : Hp) : Prop := H Dl = none ∧ Ex H H' ∧ H' Dl = some (.dK (d i))
theorem el_dc {xs : List V} {j : Nat} {tk : TE} (hz : xs.length ≤ 40000) (d : Nat → List (Key × V)) (d0 : d 0 = []) (hl : ∀ i, (d i).length ≤ i) (kk : Nat → Key) (vv : Nat → V) (hd : ∀ i, i < xs.length → d (i + 1) = putK (d i) (kk i) (vv i)) (hw : ∀ x, wipe ((wipe σ vs).set j (some x)) vs = wipe σ vs)
    (hk : ∀ (i : Nat) x H1, Ex H H1 → xs[i]? = some x → Ev tk ((wipe σ vs).set j (some x)) H1 (kV (kk i))) (hv : ∀ (i : Nat) x H1, Ex H H1 → xs[i]? = some x → Ev tv ((wipe σ vs).set j (some x)) H1 (vv i)) {H1 : Hp} (e1 : Ex H H1) {J : It} {G : Hp → Prop} (w : Walk J xs.length G (YAt xs)) (hG : ∀ H', Ex H1 H' → G H') {Qd : Hp → Prop} {Dl : Addr} (hD : H1 Dl = none) (q : ∀ H2, Ex H1 H2 → H2 Dl = some (.dK (d xs.length)) → Qd H2) :
    ∃ W : Nat → Nat → Hp → Prop, (∃ m, W 0 m (upd H1 Dl (.dK []))) ∧ ∀ i m H, W i m H → (J.stop i H ∧ Qd H) ∨ (J.go i H ∧ ∃ Nx : Hp → Prop, (∀ H', Nx H' → ∃ m', m' < m ∧ W (i + 1) m' H') ∧ ∀ x H', J.yld i H x H' → gName j x (wipe σ vs) H' fun σ2 H2 => wipe σ2 vs = wipe σ vs ∧ tYes σ2 H2 fun b H3 =>
    if b = true then tk σ2 H3 fun y H4 => tv σ2 H4 fun z H5 => ∃ kvs k, y = kV k ∧ H5 Dl = some (.dK kvs) ∧ kvs.length < sizeLine ∧ Nx (upd H5 Dl (.dK (putK kvs k z))) else Nx H3) := by
  refine ⟨fun i m H' => m = xs.length - i ∧ i ≤ xs.length ∧ Ex H1 H' ∧ H' Dl = some (.dK (d i)), ⟨xs.length, by simp, Nat.zero_le _, Ex.new hD, by rw [d0]; exact upd_same⟩, ?_⟩
  rintro i m H' ⟨rfl, hi, e2, h2⟩
  by_cases hlt : i < xs.length
  · refine .inr ⟨w.goes i H' hlt (hG H' e2), fun H' => Ex H1 H' ∧ H' Dl = some (.dK (d (i + 1))), fun H' p => ⟨xs.length - (i + 1), by omega, rfl, hlt, p⟩, fun x H'' y => ?_⟩
    obtain ⟨e, hx⟩ := w.yields i H' x H'' hlt (hG H' e2) y
    subst e
    refine ⟨hw x, t_yes ?_⟩
    refine hk i x H'' (e1.trans e2) hx H'' (Ex.refl _) _ fun H4 e4 => hv i x H4 ((e1.trans e2).trans e4) hx H4 (Ex.refl _) _ fun H5 e5 => ⟨d i, kk i, rfl, e5 _ _ (e4 _ _ h2), sz_lt (by have := hl i; omega), Ex.mut ((e2.trans e4).trans e5) hD, ?_⟩
    rw [upd_same, hd i hlt]
  · have : i = xs.length := by omega
    subst this
    exact .inl ⟨w.stops H' (hG H' e2), q H' e2 h2⟩
/-- a new dict -/
def EvDc (te : TE) (σ : L2.St) (H : Hp) (kvs : List (Key × V)) : Prop := ∀ H1, Ex H H1 → ∀ Q : VK, (∀ p H2, H1 p = none → Ex H1 H2 → H2 p = some (.dK kvs) → Q (.ref p) H2) → te σ H1 Q
theorem ed_L {b : Addr} {xs : List V} {j : Nat} {tk : TE} (h : Ev tl σ H (.ref b)) (hx : SqL K H b xs) (hz : xs.length ≤ 40000) (d : Nat → List (Key × V)) (d0 : d 0 = []) (hl : ∀ i, (d i).length ≤ i) (kk : Nat → Key) (vv : Nat → V) (hd : ∀ i, i < xs.length → d (i + 1) = putK (d i) (kk i) (vv i)) (hw : ∀ x, wipe ((wipe σ vs).set j (some x)) vs = wipe σ vs)
    (hk : ∀ (i : Nat) x H1, Ex H H1 → xs[i]? = some x → Ev tk ((wipe σ vs).set j (some x)) H1 (kV (kk i))) (hv : ∀ (i : Nat) x H1, Ex H H1 → xs[i]? = some x → Ev tv ((wipe σ vs).set j (some x)) H1 (vv i)) : EvDc (tDc (iList K tl) (gName j) tYes tk tv vs) σ H (d xs.length) := fun H0 e0 Q q =>
  h H0 e0 _ fun H1 e1 => ⟨b, rfl, ⟨xs, ex_l (e0.trans e1) hx⟩, fun Dl hD => el_dc (H := H) hz d d0 hl kk vv hd hw hk hv (e0.trans e1) walk_list (fun H' e => ex_l ((e0.trans e1).trans e) hx) hD fun H2 e2 h2 => q Dl H2 (fresh_back e1 hD) (e1.trans e2) h2⟩
theorem ed_NL {xs : List V} {j : Nat} {tk : TE} (h : EvL tl σ H xs) (hz : xs.length ≤ 40000) (d : Nat → List (Key × V)) (d0 : d 0 = []) (hl : ∀ i, (d i).length ≤ i) (kk : Nat → Key) (vv : Nat → V) (hd : ∀ i, i < xs.length → d (i + 1) = putK (d i) (kk i) (vv i)) (hw : ∀ x, wipe ((wipe σ vs).set j (some x)) vs = wipe σ vs)
    (hk : ∀ (i : Nat) x H1, Ex H H1 → xs[i]? = some x → Ev tk ((wipe σ vs).set j (some x)) H1 (kV (kk i))) (hv : ∀ (i : Nat) x H1, Ex H H1 → xs[i]? = some x → Ev tv ((wipe σ vs).set j (some x)) H1 (vv i)) : EvDc (tDc (iList K tl) (gName j) tYes tk tv vs) σ H (d xs.length) := fun H0 e0 Q q =>
  h H0 e0 _ fun b H1 hb e1 h1 => ⟨b, rfl, ⟨xs, sq_of h1⟩, fun Dl hD => el_dc (H := H) hz d d0 hl kk vv hd hw hk hv (e0.trans e1) (walk_list (K := K) (a := b)) (fun H' e => sq_of (e _ _ h1)) hD fun H2 e2 h2 => q Dl H2 (fresh_back e1 hD) (e1.trans e2) h2⟩
theorem ed_T {b : Addr} {xs : List V} {j : Nat} {tk : TE} (h : Ev tl σ H (.ref b)) (hx : SqT K H b xs) (hz : xs.length ≤ 40000) (d : Nat → List (Key × V)) (d0 : d 0 = []) (hl : ∀ i, (d i).length ≤ i) (kk : Nat → Key) (vv : Nat → V) (hd : ∀ i, i < xs.length → d (i + 1) = putK (d i) (kk i) (vv i)) (hw : ∀ x, wipe ((wipe σ vs).set j (some x)) vs = wipe σ vs)
    (hk : ∀ (i : Nat) x H1, Ex H H1 → xs[i]? = some x → Ev tk ((wipe σ vs).set j (some x)) H1 (kV (kk i))) (hv : ∀ (i : Nat) x H1, Ex H H1 → xs[i]? = some x → Ev tv ((wipe σ vs).set j (some x)) H1 (vv i)) : EvDc (tDc (iTup K tl) (gName j) tYes tk tv vs) σ H (d xs.length) := fun H0 e0 Q q =>
  h H0 e0 _ fun H1 e1 => ⟨b, rfl, ⟨xs, ex_t (e0.trans e1) hx⟩, fun Dl hD => el_dc (H := H) hz d d0 hl kk vv hd hw hk hv (e0.trans e1) walk_tup (fun H' e => ex_t ((e0.trans e1).trans e) hx) hD fun H2 e2 h2 => q Dl H2 (fresh_back e1 hD) (e1.trans e2) h2⟩
theorem q_asgDc {i : Nat} (h : EvDc te σ H kvs) (k : ∀ p H1, H p = none → Ex H H1 → H1 p = some (.dK kvs) → tz D (σ.set i (some (.ref p))) H1) : tSeq (tAsg te (gName i)) tz D σ H := h H (Ex.refl H) _ fun p H1 hp e h1 => k p H1 hp e h1
/-- tuple(a new list) -/
theorem eu_tupL {xs : List V} (h : EvL te σ H xs) : EvU (tCB (rTupL K) (tCons te tNil)) σ H xs := fun H0 e0 Q q => h H0 e0 _ fun p H1 hp e1 h1 => ⟨p, xs, rfl, sq_of h1, fun l hl => q l _ (fresh_back e1 hl) (e1.trans (Ex.new hl)) upd_same⟩
end
end K53
namespace M53
theorem pf_nodup (n : Nat) : (pf n).Nodup := List.Nodup.sublist List.filter_sublist (by decide)
theorem nodup_at {xs : List Nat} (h : xs.Nodup) {i j : Nat} {p : Nat} (hi : xs[i]? = some p) (hj : xs[j]? = some p) : i = j := by
  obtain ⟨a, b⟩ := List.getElem?_eq_some_iff.mp hi
  obtain ⟨c, d⟩ := List.getElem?_eq_some_iff.mp hj
  have q := List.pairwise_iff_getElem.mp h
  rcases Nat.lt_trichotomy i j with lt | eq | gt
  · exact absurd (b.trans d.symm) (q i j a c lt)
  · exact eq
  · exact absurd (d.trans b.symm) (q j i c a gt)
end M53
namespace K53
open PySem PySem.Spec PyProof.Rows L2 Evl
theorem upd_mono {H H' : Hp} {a : Addr} {o : HO} (e : Ex H H') : Ex (upd H a o) (upd H' a o) := fun b w hb => by
  by_cases hba : b = a
  · subst hba
    rw [upd_same] at hb
    rw [upd_same]
    exact hb
  · rw [upd_ne hba] at hb
    rw [upd_ne hba]
    exact e b w hb
theorem tab_at {v : Nat → Bool} {ds : List Nat} {i : Nat} {k : Key} {y : V} (h : (tabV v ds)[i]? = some (k, y)) : ∃ d, ds[i]? = some d ∧ k = Sum.inl (d : Int) ∧ y = .bl (v d) := by
  unfold tabV at h
  rw [List.getElem?_map] at h
  cases hd : ds[i]? with
  | none => rw [hd] at h; cases h
  | some d => rw [hd] at h; cases h; exact ⟨d, rfl, rfl, rfl⟩
theorem tab_len (v : Nat → Bool) (ds : List Nat) : (tabV v ds).length = ds.length := List.length_map _
section
variable {P : Program} {w : World} {K : PySem.W.Frag} {mg : Str → Option Value} {base : Heap} {C : Addr}
theorem k_merged (c_gcd : Cl P w K mg base 1 "gcd" spGcd) (F : Fn K mg "merged" s_merged ["length", "values", "prime"]) : Cl P w K mg base 2 "merged" spMerged := by
  refine F.cl sc_merged (fun vs H Q E h => ?_) (fun f cdv A outer s H vs Q E hr h => ?_)
  · obtain ⟨L, p, a, v, rfl, _⟩ := h
    rfl
  · obtain ⟨L, p, a, v, rfl, hL, hp, ⟨ds, dn, dm, dl, ha⟩, kN, kT⟩ := h
    have hu := hr.units
    refine ⟨_, (pss_cons (ps_set (i := 3) sc_merged.nd rfl (Or.inl rfl) (pe_op op_fdiv (pv 0) (pv 2)))
      (pss_cons (ps_set (i := 4) sc_merged.nd rfl (Or.inl rfl) pe_dnewK)
      (pss_cons (ps_lock (ps_for PassesOwn.never rfl (pi_keys (pv 1)) (pg_name (i := 5) sc_merged.nd rfl (Or.inl rfl))
        (pss_cons (ps_set (i := 6) sc_merged.nd rfl (Or.inl rfl) (pc c_gcd hr (by decide) rfl (pa_cons (pv 5) (pa_cons (pv 3) pa_nil))))
      (pss_one (ps_if (pt_cmp (pc_dnotin (hu_of hr) (pv 6) (pv 4))) (pss_one (ps_dput (hu_of hr) (pv 4) (pv 6) (pe_dget (hu_of hr) (pv 1) (pv 5) (fun _ _ => rfl)) rfl)) (pss_one (ps_if (pt_cmpR op_ne (pe_dget (hu_of hr) (pv 4) (pv 6) (fun _ _ => rfl)) (pe_dget (hu_of hr) (pv 1) (pv 5) (fun _ _ => rfl)) (nomark _)) (pss_one (ps_ret pe_non)) pss_nil)))))))
      (pss_one (ps_ret (pv 4)))))), ?_⟩
    have hpp := M53.mem_pf.mp hp
    have p0 : 0 < p := by omega
    have p5 : p ≤ 5 := by omega
    have Ld : L / p ∣ L := M53.div_dvd_of hpp.2
    refine q_asg (ev_op (ev_var rfl) (ev_var rfl) (rv_divN p0 (by omega))) fun H1 e1 => ?_
    have ha1 := e1 _ _ ha
    refine q_dnew fun fp H2 hfp e2 hf2 => ?_
    have ha2 := e2 _ _ ha1
    have hne : fp ≠ a := fun e => by rw [e, ha1] at hfp; cases hfp
    have hfL : ∀ o, upd H1 a (.frz o (.dK (tabV v ds))) fp = none := fun o => by rw [upd_ne hne]; exact hfp
    refine q_forK ha2 (fun o => ev_var rfl) (fun o i σ H' => ∃ (gs : List Nat) (v2 : Nat → Bool) (o1 o2 : Option V), σ = [some (nv L), some (.ref a), some (nv p), some (nv (L / p)), some (.ref fp), o1, o2] ∧ Ex (upd H1 a (.frz o (.dK (tabV v ds)))) H' ∧ H' fp = some (.dK (tabV v2 gs)) ∧ gs.Nodup ∧ gs.length ≤ i ∧
        (∀ g ∈ gs, g ∣ L / p ∧ ∃ (j : Nat) (d : Nat), j < i ∧ ds[j]? = some d ∧ Nat.gcd d (L / p) = g ∧ v d = v2 g) ∧ (∀ (j : Nat) (d : Nat), j < i → ds[j]? = some d → Nat.gcd d (L / p) ∈ gs ∧ v d = v2 (Nat.gcd d (L / p))))
      (fun o H3 e3 => ⟨[], fun _ => false, _, _, rfl, (upd_mono e2).trans e3, e3 _ _ (by rw [upd_ne hne]; exact hf2), List.nodup_nil, Nat.le_refl _, fun g hg => absurd hg List.not_mem_nil, fun j d hj => absurd hj (by omega)⟩)
      (fun o i σ' H' q => let ⟨_, _, _, _, _, e, _⟩ := q; e _ _ upd_same) (fun o i k x σ' H' hi q => ?_) (fun o σ' H' q => ?_)
    · obtain ⟨gs, v2, o1, o2, rfl, e3, hf3, gn, gl, hg, hj⟩ := q
      obtain ⟨d, hd, rfl, rfl⟩ := tab_at hi
      have hi2 := (List.getElem?_eq_some_iff.mp hd).1
      have hdL : d ∣ L := (dm d).mp (List.mem_of_getElem? hd)
      have hfr : Rd H' a (.dK (tabV v ds)) := .inr ⟨o, e3 _ _ upd_same⟩
      have hvd : valV (tabV v ds) (Sum.inl (d : Int)) = some (.bl (v d)) := by rw [valV_tab, if_pos (List.mem_of_getElem? hd)]
      refine q_asg (ev_tF (ea_cons (ev_var rfl) (ea_cons (ev_var rfl) ea_nil)) spv_gcd) fun H4 e4 => ?_
      by_cases hk : Nat.gcd d (L / p) ∈ gs
      · have hvk : valV (tabV v2 gs) (Sum.inl ((Nat.gcd d (L / p) : Nat) : Int)) = some (.bl (v2 (Nat.gcd d (L / p)))) := by rw [valV_tab, if_pos hk]
        refine s_if (b := false) (et_B (ev_is (ev_dnotin (k := Sum.inl ((Nat.gcd d (L / p) : Nat) : Int)) (ev_var rfl) (ev_var rfl) (.inl (e4 _ _ hf3))) (by rw [hvk]; rfl))) (fun h => nomatch h) fun _ H5 e5 => ?_
        refine s_when (b := !decide (V.bl (v2 (Nat.gcd d (L / p))) = V.bl (v d))) (et_test (ev_op (ev_dget (k := Sum.inl ((Nat.gcd d (L / p) : Nat) : Int)) (ev_var rfl) (ev_var rfl) (.inl (e5 _ _ (e4 _ _ hf3))) hvk) (ev_dget (k := Sum.inl (d : Int)) (ev_var rfl) (ev_var rfl) (ex_rd (e4.trans e5) hfr) hvd) (rv_ne rfl))) (fun hb H6 e6 => ?_) (fun hb H6 e6 => ?_)
        · obtain ⟨_, j, d', hjl, hd', hgd, hvd'⟩ := hg _ hk
          have ne : ¬ V.bl (v2 (Nat.gcd d (L / p))) = V.bl (v d) := of_decide_eq_false (by rw [Bool.not_eq_true'] at hb; exact hb)
          have irr : M53.Irr p L v := ⟨d', d, (dm d').mp (List.mem_of_getElem? hd'), hdL, hgd, fun e => ne (by rw [← hvd', e])⟩
          refine s_ret ev_c fun H7 e7 => ?_
          have e37 := (((e3.trans e4).trans e5).trans e6).trans e7
          exact ⟨e37 _ _ upd_same, kN irr _ (e1.trans (lock_ex ha1 e37))⟩
        · have eq : v2 (Nat.gcd d (L / p)) = v d := V.bl.inj (of_decide_eq_true (by rw [Bool.not_eq_false'] at hb; exact hb))
          refine ⟨gs, v2, _, _, rfl, ((e3.trans e4).trans e5).trans e6, e6 _ _ (e5 _ _ (e4 _ _ hf3)), gn, by omega, fun g hgg => ?_, fun j d1 hj1 hd1 => ?_⟩
          · obtain ⟨a1, j, d', b1, b2, b3, b4⟩ := hg g hgg
            exact ⟨a1, j, d', by omega, b2, b3, b4⟩
          · by_cases hji : j = i
            · rw [hji, hd] at hd1
              cases hd1
              exact ⟨hk, eq.symm⟩
            · exact hj j d1 (by omega) hd1
      · have hvk : valV (tabV v2 gs) (Sum.inl ((Nat.gcd d (L / p) : Nat) : Int)) = none := by rw [valV_tab, if_neg hk]
        refine s_if (b := true) (et_B (ev_is (ev_dnotin (k := Sum.inl ((Nat.gcd d (L / p) : Nat) : Int)) (ev_var rfl) (ev_var rfl) (.inl (e4 _ _ hf3))) (by rw [hvk]; rfl))) (fun _ H5 e5 => ?_) fun h => nomatch h
        refine s_dput (k := Sum.inl ((Nat.gcd d (L / p) : Nat) : Int)) (ev_dget (k := Sum.inl (d : Int)) (ev_var rfl) (ev_var rfl) (ex_rd (e4.trans e5) hfr) hvd) (ev_var rfl) (ev_var rfl) (e5 _ _ (e4 _ _ hf3)) (by rw [tab_len]; omega) fun H6 e6 => ?_
        rw [tab_snoc v2 gs _ (v d) hk]
        refine ⟨gs ++ [Nat.gcd d (L / p)], _, _, _, rfl, Ex.mut (((e3.trans e4).trans e5).trans e6) (hfL o), upd_same, ?_, by rw [List.length_append]; exact Nat.succ_le_succ gl, fun g hgg => ?_, fun j d1 hj1 hd1 => ?_⟩
        · rw [List.nodup_append]
          refine ⟨gn, by simp, fun a ha b hb => ?_⟩
          have : b = Nat.gcd d (L / p) := by simpa using hb
          rw [this]
          exact fun e => hk (by rw [← e]; exact ha)
        · rcases List.mem_append.mp hgg with hgg | hgg
          · obtain ⟨a1, j, d', b1, b2, b3, b4⟩ := hg g hgg
            refine ⟨a1, j, d', by omega, b2, b3, ?_⟩
            show v d' = if g = Nat.gcd d (L / p) then v d else v2 g
            rw [if_neg fun e => hk (by rw [← e]; exact hgg)]
            exact b4
          · have : g = Nat.gcd d (L / p) := by simpa using hgg
            subst this
            refine ⟨Nat.gcd_dvd_right _ _, i, d, by omega, hd, rfl, ?_⟩
            show v d = if Nat.gcd d (L / p) = Nat.gcd d (L / p) then v d else _
            rw [if_pos rfl]
        · by_cases hji : j = i
          · rw [hji, hd] at hd1
            cases hd1
            refine ⟨List.mem_append_right _ List.mem_cons_self, ?_⟩
            show v d = if Nat.gcd d (L / p) = Nat.gcd d (L / p) then v d else _
            rw [if_pos rfl]
          · obtain ⟨m1, m2⟩ := hj j d1 (by omega) hd1
            refine ⟨List.mem_append_left _ m1, ?_⟩
            show v d1 = if Nat.gcd d1 (L / p) = Nat.gcd d (L / p) then v d else v2 (Nat.gcd d1 (L / p))
            rw [if_neg fun e => hk (by rw [← e]; exact m1)]
            exact m2
    · obtain ⟨gs, v2, o1, o2, rfl, e3, hf3, gn, gl, hg, hj⟩ := q
      rw [tab_len] at gl hj hg
      refine s_ret (ev_var rfl) fun H5 e5 => kT fp v2 H5 ((e1.trans (lock_ex ha1 e3)).trans e5) (fresh_back e1 hfp) ⟨gs, gn, fun g => ⟨fun h => (hg g h).1, fun h => ?_⟩, by omega, e5 _ _ (by rw [upd_ne hne]; exact hf3)⟩ fun d hd => ?_
      · obtain ⟨j, hjl, hjd⟩ := List.getElem_of_mem ((dm g).mpr (Nat.dvd_trans h Ld))
        have := (hj j g hjl (by rw [← hjd]; exact List.getElem?_eq_getElem hjl)).1
        rw [Nat.gcd_eq_left h] at this
        exact this
      · obtain ⟨j, hjl, hjd⟩ := List.getElem_of_mem ((dm d).mpr hd)
        exact (hj j d hjl (by rw [← hjd]; exact List.getElem?_eq_getElem hjl)).2
/-- what merged hands back -/
def Fd (H : Hp) (p s : Nat) (u : Nat → Bool) (x : V) : Prop := (x = .non ∧ M53.Irr p s u) ∨ ∃ b u', x = .ref b ∧ TabAt H b (s / p) u' ∧ ∀ d, d ∣ s → u d = u' (Nat.gcd d (s / p))
theorem ep_merged {σ : L2.St} {H : Hp} {t : TA} {s p : Nat} {b : Addr} {u : Nat → Bool} (h : EvA t σ H [nv s, .ref b, nv p]) (hs : s ∣ 120) (hp : p ∈ M53.pf s) (ht : TabAt H b s u) : EvP (tF spMerged t) σ H fun x H2 => Fd H2 p s u x := fun H1 e Q q => h H1 e _ fun H2 e2 =>
  ⟨s, p, b, u, rfl, hs, hp, ht.ext (e.trans e2), fun irr H3 e3 => q _ _ (e2.trans e3) (.inl ⟨rfl, irr⟩), fun b' u' H3 e3 _ ht' hu => q _ _ (e2.trans e3) (.inr ⟨b', u', rfl, ht', hu⟩)⟩
theorem k_least_table (c_primes_of : Cl P w K mg base 1 "primes_of" spPrimes) (c_merged : Cl P w K mg base 2 "merged" spMerged) (F : Fn K mg "least_table" s_least_table ["length", "values"]) : Cl P w K mg base 3 "least_table" (spLeast K) := by
  refine F.cl sc_least_table (fun vs H Q E h => ?_) (fun f cdv A outer s H vs Q E hr h => ?_)
  · obtain ⟨L, a, v, rfl, _⟩ := h
    rfl
  · obtain ⟨L, a, v, rfl, hL, ht, k⟩ := h
    refine ⟨_, (pss_cons (ps_par (i := 2) (j := 3) rfl sc_least_table.nd rfl rfl (by decide) rfl rfl (pa_cons (pv 0) (pa_cons (pv 1) pa_nil)) (by rfl))
      (pss_cons (ps_for PassesOwn.never rfl (k_pil (K := K) rfl (pc c_primes_of hr (by decide) rfl (pa_cons (pv 0) pa_nil))) (pg_name (i := 4) sc_least_table.nd rfl (Or.inl rfl))
        (pss_cons (ps_set (i := 5) sc_least_table.nd rfl (Or.inl rfl) (pc c_merged hr (by decide) rfl (pa_cons (pv 2) (pa_cons (pv 3) (pa_cons (pv 4) pa_nil)))))
      (pss_one (ps_while PassesOwn.never (pt_cmpR op_notN (pv 5) pe_non (nomark _)) (pss_cons (ps_par (i := 2) (j := 3) rfl sc_least_table.nd rfl rfl (by decide) rfl rfl (pa_cons (pe_op op_fdiv (pv 2) (pv 4)) (pa_cons (pv 5) pa_nil)) (by rfl))
      (pss_one (ps_set (i := 5) sc_least_table.nd rfl (Or.inl rfl) (pe_ifExp (pt_cmpR op_eq (pe_op op_mod (pv 2) (pv 4)) pe_int (nomark _)) (pc c_merged hr (by decide) rfl (pa_cons (pv 2) (pa_cons (pv 3) (pa_cons (pv 4) pa_nil)))) pe_non))))))))
      (pss_one (ps_ret (pe_tup (pa_cons (pv 2) (pa_cons (pv 3) pa_nil))))))), ?_⟩
    have L0 := M53.pos120 hL
    refine q_par (ev_var rfl) (ev_var rfl) fun H1 e1 => ?_
    refine q_forNLn (el_tF (ea_cons (ev_var rfl) ea_nil) (spl_primes (M53.mem_D.mpr hL))) (fun pp i σ H' => ∃ (s : Nat) (b : Addr) (u : Nat → Bool) (o4 o5 : Option V), σ = [some (nv L), some (.ref a), some (nv s), some (.ref b), o4, o5] ∧ Ex H H' ∧ H' pp = some (.lst (nvs (M53.pf L))) ∧ s ∣ L ∧ TabAt H' b s u ∧
        (∀ d, d ∣ L → v d = u (Nat.gcd d s)) ∧ (∀ (j : Nat) (p : Nat), j < i → (M53.pf L)[j]? = some p → p ∣ s → M53.Irr p s u) ∧ (∀ (j : Nat) (p : Nat), i ≤ j → (M53.pf L)[j]? = some p → p ∣ s))
      (fun pp H2 hpp e2 hp2 => ⟨L, a, v, _, _, rfl, e1.trans e2, hp2, Nat.dvd_refl L, ht.ext (e1.trans e2), fun d hd => by rw [Nat.gcd_eq_left hd], fun j p hj => absurd hj (by omega), fun j p _ hp => (M53.mem_pf.mp (List.mem_of_getElem? hp)).2⟩)
      (fun pp i σ' H' hi q => let ⟨_, _, _, _, _, _, _, h, _⟩ := q; sq_of h) (fun pp i x σ' H' hi q => ?_) (fun pp σ' H' q => ?_)
    · obtain ⟨s, b, u, o4, o5, rfl, e2, hpp, hs, hb, hv, irr, dvs⟩ := q
      obtain ⟨ep, hi2, hm⟩ := getD_of hi
      have hpi : (M53.pf L)[i]? = some ((M53.pf L).getD i 0) := by rw [List.getD_eq_getElem?_getD, List.getElem?_eq_getElem hi2] <;> rfl
      generalize (M53.pf L).getD i 0 = p at ep hpi hm
      subst ep
      have p235 := (M53.mem_pf.mp hm).1
      have hps := dvs i p (Nat.le_refl _) hpi
      refine q_asgP (ep_merged (ea_cons (ev_var rfl) (ea_cons (ev_var rfl) (ea_cons (ev_var rfl) ea_nil))) (Nat.dvd_trans hs hL) (M53.mem_pf.mpr ⟨p235, hps⟩) hb) fun x H3 e3 hx => ?_
      refine s_while (fun m σ H4 => ∃ (s : Nat) (b : Addr) (u : Nat → Bool) (x : V), σ = [some (nv L), some (.ref a), some (nv s), some (.ref b), some (nv p), some x] ∧ Ex H' H4 ∧ s ∣ L ∧ TabAt H4 b s u ∧
        (∀ d, d ∣ L → v d = u (Nat.gcd d s)) ∧ (∀ (j : Nat) (p : Nat), j < i → (M53.pf L)[j]? = some p → p ∣ s → M53.Irr p s u) ∧ (∀ (j : Nat) (p : Nat), i < j → (M53.pf L)[j]? = some p → p ∣ s) ∧ (¬ p ∣ s ∧ x = .non ∨ p ∣ s ∧ Fd H4 p s u x) ∧ m = s) s
        ⟨s, b, u, x, rfl, e3, hs, hb.ext e3, hv, irr, fun j p hj => dvs j p (by omega), .inr ⟨hps, hx⟩, rfl⟩ ?_
      rintro m σ H4 ⟨s, b, u, x, rfl, e4, hs, hb, hv, irr, dvs, hx, rfl⟩
      refine ⟨!decide (x = .non), et_test (ev_op (ev_var rfl) ev_c rv_notN), fun hb2 H5 e5 => ?_, fun hb2 H5 e5 => ?_⟩
      · have ne : ¬ x = .non := of_decide_eq_false (by rw [Bool.not_eq_true'] at hb2; exact hb2)
        rcases hx with ⟨_, hx⟩ | ⟨hps, ⟨hx, _⟩ | ⟨b', u', rfl, hb', hu'⟩⟩
        · exact absurd hx ne
        · exact absurd hx ne
        have m0 : 0 < m := Nat.pos_of_dvd_of_pos hs L0
        have hm120 : m ∣ 120 := Nat.dvd_trans hs hL
        have hmp : m / p ∣ m := M53.div_dvd_of hps
        refine ⟨_, fun _ _ h => h, ?_⟩
        refine q_par (ev_op (ev_var rfl) (ev_var rfl) (rv_divN (by omega) (by omega))) (ev_var rfl) fun H6 e6 => ?_
        have less : ∀ (j : Nat) (q : Nat), j < i → (M53.pf L)[j]? = some q → q ∣ m / p → M53.Irr q (m / p) u' := fun j q hj hq hqd => by
          have q235 := (M53.mem_pf.mp (List.mem_of_getElem? hq)).1
          exact M53.Irr.less hm120 hps hqd (by omega) hu' (irr j q hj hq (Nat.dvd_trans hqd hmp))
        have keep : ∀ (j : Nat) (q : Nat), i < j → (M53.pf L)[j]? = some q → q ∣ m / p := fun j q hj hq => by
          have q235 := (M53.mem_pf.mp (List.mem_of_getElem? hq)).1
          refine M53.keep_prime m (M53.mem_D.mpr hm120) q (by simp only [List.mem_cons, List.not_mem_nil, or_false]; exact q235) p (by simp only [List.mem_cons, List.not_mem_nil, or_false]; exact p235) (fun e => ?_) (dvs j q hj hq) hps
          rw [e] at hq
          have := M53.nodup_at (M53.pf_nodup L) hpi hq
          omega
        have step : ∀ d, d ∣ L → v d = u' (Nat.gcd d (m / p)) := fun d hd => by rw [hv d hd, hu' _ (Nat.gcd_dvd_right _ _), M53.gcd_of_gcd hmp]
        have E : EvP (tIf (tTest (tOp rEq (tOp (rI (fun x j => 0 < j) fun i j => V.int (i % j)) (tVar 2) (tVar 4)) (tC (V.int 0)))) (tF spMerged (tCons (tVar 2) (tCons (tVar 3) (tCons (tVar 4) tNil)))) (tC V.non)) [some (nv L), some (.ref a), some (nv (m / p)), some (.ref b'), some (nv p), some (.ref b')] H6 (fun x H7 => ¬ p ∣ m / p ∧ x = .non ∨ p ∣ m / p ∧ Fd H7 p (m / p) u' x) := by
          refine ep_if (b := decide (m / p % p = 0)) (et_test (ev_op (ev_op (ev_var rfl) (ev_var rfl) (rv_modN (by omega))) ev_c (rv_eqN (j := 0)))) (fun hb3 => ?_) (fun hb3 => ?_)
          · have hd : p ∣ m / p := Nat.dvd_of_mod_eq_zero (of_decide_eq_true hb3)
            exact (ep_merged (ea_cons (ev_var rfl) (ea_cons (ev_var rfl) (ea_cons (ev_var rfl) ea_nil))) (Nat.dvd_trans hmp hm120) (M53.mem_pf.mpr ⟨p235, hd⟩) (hb'.ext (e5.trans e6))).imp fun x H7 _ r => .inr ⟨hd, r⟩
          · exact Ev.p ev_c fun H7 _ => .inl ⟨fun hd => of_decide_eq_false hb3 (Nat.mod_eq_zero_of_dvd hd), rfl⟩
        refine s_asgP E fun x H7 e7 hx => ⟨m / p, Nat.div_lt_self m0 (by omega), m / p, b', u', x, rfl, ((e4.trans e5).trans e6).trans e7, Nat.dvd_trans hmp hs, hb'.ext ((e5.trans e6).trans e7), step, less, keep, hx, rfl⟩
      · have hx0 : x = .non := of_decide_eq_true (by rw [Bool.not_eq_false'] at hb2; exact hb2)
        subst hx0
        have hirr : p ∣ m → M53.Irr p m u := fun hd => by
          rcases hx with ⟨n, _⟩ | ⟨_, ⟨_, q⟩ | ⟨_, _, q, _⟩⟩
          · exact absurd hd n
          · exact q
          · exact nomatch q
        refine ⟨m, b, u, _, _, rfl, (e2.trans e4).trans e5, e5 _ _ (e4 _ _ hpp), hs, hb.ext e5, hv, fun j q hj hq hqd => ?_, fun j q hj hq => dvs j q (by omega) hq⟩
        by_cases hji : j = i
        · rw [hji, hpi] at hq
          cases hq
          exact hirr hqd
        · exact irr j q (by omega) hq hqd
    · obtain ⟨s, b, u, o4, o5, rfl, e2, hpp, hs, hb, hv, irr, dvs⟩ := q
      refine s_retU (eu_tup (ea_cons (ev_var rfl) (ea_cons (ev_var rfl) ea_nil)) (by simp)) fun t H3 _ e3 h3 => k t b s u H3 (e2.trans e3) (st_of h3) (hb.ext e3) hs hv fun p hp => ?_
      obtain ⟨h1, h2⟩ := M53.mem_pf.mp hp
      obtain ⟨j, hjl, hjd⟩ := List.getElem_of_mem (M53.mem_pf.mpr ⟨h1, Nat.dvd_trans h2 hs⟩ : p ∈ M53.pf L)
      exact irr j p (by rw [List.length_map]; exact hjl) (by rw [← hjd]; exact List.getElem?_eq_getElem hjl) h2
end
end K53
namespace M53
def ded (xs : List Nat) : List Nat := xs.foldl (fun acc x => if x ∈ acc then acc else acc ++ [x]) []
theorem ded_snoc (xs : List Nat) (x : Nat) : ded (xs ++ [x]) = if x ∈ ded xs then ded xs else ded xs ++ [x] := by
  unfold ded
  rw [List.foldl_append]
  rfl
theorem ded_props (xs : List Nat) : ∀ i, i ≤ xs.length → (ded (xs.take i)).Nodup ∧ (∀ x, x ∈ ded (xs.take i) ↔ x ∈ xs.take i) ∧ (ded (xs.take i)).length ≤ i
  | 0, _ => ⟨by rw [List.take_zero]; exact List.nodup_nil, fun x => by rw [List.take_zero]; exact Iff.rfl, by rw [List.take_zero]; exact Nat.le_refl _⟩
  | i + 1, h => by
    obtain ⟨a, b, c⟩ := ded_props xs i (by omega)
    have e : xs.take (i + 1) = xs.take i ++ [xs[i]] := by rw [List.take_add_one, List.getElem?_eq_getElem (by omega)] <;> rfl
    rw [e, ded_snoc]
    by_cases q : xs[i] ∈ ded (xs.take i)
    · rw [if_pos q]
      refine ⟨a, fun x => ?_, by omega⟩
      rw [List.mem_append, b]
      refine ⟨Or.inl, fun z => z.elim id fun z => ?_⟩
      have : x = xs[i] := by simpa using z
      rw [this]
      exact (b _).mp q
    · rw [if_neg q]
      refine ⟨?_, fun x => ?_, by rw [List.length_append]; exact Nat.succ_le_succ c⟩
      · rw [List.nodup_append]
        refine ⟨a, by simp, fun y hy z hz => ?_⟩
        have : z = xs[i] := by simpa using hz
        rw [this]
        exact fun e => q (by rw [← e]; exact hy)
      · rw [List.mem_append, List.mem_append, b]
theorem perm_of {xs ys : List Nat} (hx : xs.Nodup) (hy : ys.Nodup) (h : ∀ a, a ∈ xs ↔ a ∈ ys) : xs.Perm ys := (List.perm_ext_iff_of_nodup hx hy).mpr h
theorem sorted_nodup {xs : List Nat} (h : xs.Pairwise (· < ·)) : xs.Nodup := h.imp fun {a b} q => Nat.ne_of_lt q
theorem hd_filter (S : Nat → Bool) {s' s : Nat} (h : s' ≤ s) : (hd S s).filter (fun w => decide (w < s')) = hd S s' := by
  refine sorted_ext (List.Pairwise.sublist List.filter_sublist (hd_sorted S s)) (hd_sorted S s') fun a => ?_
  rw [List.mem_filter, mem_hd, mem_hd, decide_eq_true_iff]
  exact ⟨fun ⟨⟨a, b, c⟩, d⟩ => ⟨a, d, c⟩, fun ⟨a, b, c⟩ => ⟨⟨a, by omega, c⟩, b⟩⟩
theorem dv_len (n : Nat) : (dv n).length ≤ 16 := Nat.le_trans (List.length_filter_le _ _) (by decide)
theorem nodup_take {xs : List Nat} (h : xs.Nodup) {i : Nat} (hi : i < xs.length) : ¬ xs[i] ∈ xs.take i := fun m => by
  obtain ⟨j, hj, e⟩ := List.getElem_of_mem m
  rw [List.length_take] at hj
  rw [List.getElem_take] at e
  have := nodup_at h (List.getElem?_eq_getElem (show j < xs.length by omega)) (by rw [e]; exact List.getElem?_eq_getElem hi)
  omega
end M53
namespace K53
open PySem PySem.Spec PyProof.Rows L2 Evl
def spInit (C : Addr) : Sp := fun vs H Q _ => ∃ (x hp dp dx : Addr) (s L : Nat), vs = [.ref x, .ref hp, nv s, nv L, .ref dp] ∧ H x = some (.ins C dx []) ∧ ∀ H2, H2 x = some (.ins C dx (wf hp s L dp)) → (∀ b, b ≠ x → H2 b = H b) → Q .non H2
def spDescr (K : PySem.W.Frag) (C : Addr) : Sp := fun vs H Q _ => ∃ (x : Addr) (h : List Nat) (s L : Nat) (d : List Nat), vs = [.ref x] ∧ WFm K C H x h s L d ∧ ∀ p H2, Ex H H2 → PartsAt K H2 p h s L d → Q (.ref p) H2
theorem len_putF (f : Str) (v : V) : ∀ fs : List (Str × V), (putF f v fs).length ≤ fs.length + 1
  | [] => Nat.le_refl _
  | (g, x) :: r => by
    have ih := len_putF f v r
    unfold putF
    split
    · exact Nat.le_succ _
    · exact Nat.succ_le_succ ih
theorem tab_put (v : Nat → Bool) (ds : List Nat) (d : Nat) (h : ¬ d ∈ ds) : putK (tabV v ds) (Sum.inl (d : Int)) (.bl (v d)) = tabV v (ds ++ [d]) := by
  rw [tab_snoc v ds d (v d) h]
  refine tab_congr fun x _ => ?_
  by_cases e : x = d
  · rw [if_pos e, e]
  · rw [if_neg e]
theorem tab_put_in (v : Nat → Bool) (ds : List Nat) (d : Nat) (h : d ∈ ds) : putK (tabV v ds) (Sum.inl (d : Int)) (.bl (v d)) = tabV v ds := by
  unfold putK
  rw [valV_any, valV_tab, if_pos h]
  show List.map _ _ = _
  unfold tabV
  rw [List.map_map]
  refine List.map_congr_left fun x _ => ?_
  show (if (Sum.inl (x : Int) : Key) = Sum.inl (d : Int) then ((Sum.inl (x : Int) : Key), V.bl (v d)) else _) = _
  by_cases e : x = d
  · subst e
    rw [if_pos rfl]
  · rw [if_neg fun z => e (by have := Sum.inl.inj z; omega)]
section
variable {K : PySem.W.Frag} {σ : L2.St} {H H' : Hp} {ta tb tc td te tl tl1 ty tv : TE} {t : TA} {tt : TT} {x y z v : V} {g : TG} {vs : List Nat} {tu tw tz : TS} {D : Ends} {a : Addr} {C : Addr}
theorem ev_fld {f : Str} {dx : Addr} {fs : List (Str × V)} (h : Ev ta σ H (.ref a)) (ha : H a = some (.ins C dx fs)) (cl : Cls K C) (n : NoAttr K C f) (l : fs.lookup f = some v) : Ev (tFld K ta f) σ H v := fun H1 e Q q => h H1 e _ fun H2 e2 =>
  ⟨a, C, dx, fs, v, rfl, e2 _ _ (e _ _ ha), cl, n, l, q H2 e2⟩
theorem q_asgG {R : V → Hp → Prop} (h : EvP te σ H R) (k : ∀ v H1, Ex H H1 → R v H1 → g v σ H1 fun σ' H' => tz D σ' H') : tSeq (tAsg te g) tz D σ H := h H (Ex.refl H) _ k
theorem ep_make {h d : List Nat} {s L : Nat} (hh : EvPA t σ H fun ws H2 => ∃ hp dp, ws = [.ref hp, nv s, nv L, .ref dp] ∧ SqT K H2 hp (nvs h) ∧ SqT K H2 dp (nvs d)) : EvP (StX.tMakeR C (spInit C) E0 t) σ H fun v H2 => ∃ a, v = .ref a ∧ WFm K C H2 a h s L d := fun H1 e Q q => hh H1 e _ fun ws H2 e2 r => by
  obtain ⟨hp, dp, rfl, h1, h2⟩ := r
  intro x dx hx hdx hne
  refine ⟨x, hp, dp, dx, s, L, rfl, upd_same, fun H3 h3 hk => ⟨rfl, ?_⟩⟩
  have e3 : Ex H2 H3 := fun b o hb => by
    have n1 : b ≠ x := fun z => by rw [z, hx] at hb; cases hb
    have n2 : b ≠ dx := fun z => by rw [z, hdx] at hb; cases hb
    rw [hk b n1, upd_ne n1, upd_ne n2]
    exact hb
  exact q _ H3 (e2.trans e3) ⟨x, rfl, ⟨dx, hp, dp, h3, ex_t e3 h1, ex_t e3 h2⟩⟩
/-- [int(k) for k in a dict] -/
theorem el_intsK {v : Nat → Bool} {ms : List Nat} {j : Nat} (ha : H a = some (.dK (tabV v ms))) (h : ∀ H1, Ev td σ H1 (.ref a)) (hz : ms.length ≤ 40000) (hw : ∀ x, wipe ((wipe σ vs).set j (some x)) vs = wipe σ vs) (hv : ∀ x, ((wipe σ vs).set j (some x))[j]? = some (some x)) :
    EvL (tLockE (tLc (iKeys td) (gName j) tYes (tCB (fun xs H Q => (∃ i, xs = [.int i] ∧ Q (.int i) H) ∨ ∃ k, xs = [.bl k] ∧ Q (.int (if k then 1 else 0)) H) (tCons (tVar j) tNil)) vs)) σ H (nvs ms) := by
  have g := given_nvs ms fun _ => true
  rw [List.filter_eq_self.mpr fun _ _ => rfl] at g
  rw [← g, ← tab_len v ms]
  refine el_lcK _ _ ha h (by rw [tab_len]; exact hz) hw (fun i k y o H1 e hi => et_yes) fun i k y o H1 e hi _ => ?_
  obtain ⟨d, hd, rfl, rfl⟩ := tab_at hi
  refine ev_is (ev_cb (ea_cons (ev_var (hv _)) ea_nil) (rc_int (i := (d : Int)))) ?_
  show nv d = nv (ms.getD i 0)
  rw [getD_at 0 hd]
/-- [x for x in a new list if f(x)] -/
theorem el_keep {xs : List Nat} {j : Nat} (f : Nat → Bool) (h : EvL tl σ H (nvs xs)) (hz : xs.length ≤ 40000) (hw : ∀ x, wipe ((wipe σ vs).set j (some x)) vs = wipe σ vs) (hv : ∀ x, ((wipe σ vs).set j (some x))[j]? = some (some x))
    (ht : ∀ (x : Nat) H1, Ex H H1 → x ∈ xs → EvT tt ((wipe σ vs).set j (some (nv x))) H1 (f x)) : EvL (tLc (iList K tl) (gName j) tt (tVar j) vs) σ H (nvs (xs.filter f)) := by
  have l : (nvs xs).length = xs.length := List.length_map _
  rw [← given_nvs xs f, ← l]
  refine el_lcNL _ _ h (by rw [l]; exact hz) hw (fun i x H1 e hi => ?_) fun i x H1 e hi _ => ?_
  · obtain ⟨ex, _, hm⟩ := getD_of hi
    subst ex
    exact ht _ H1 e hm
  · obtain ⟨ex, _, hm⟩ := getD_of hi
    subst ex
    exact ev_var (hv _)
end
section
variable {P : Program} {w : World} {K : PySem.W.Frag} {mg : Str → Option Value} {base : Heap} {C : Addr}
theorem k_init (T : Txt K mg C) (F : Fm K C "__init__" "Widths.__init__" s_w_init ["self", "head", "start", "length", "divisors"]) : ∃ f, FnR P w K mg base CX0 1 f (spInit C) ∧ Meth K C "__init__" f := by
  refine F.fr sc_w_init (fun vs H Q E h => ?_) (fun f cdv A outer s H vs Q E hr h => ?_)
  · obtain ⟨x, hp, dp, dx, s, L, rfl, _⟩ := h
    rfl
  · obtain ⟨x, hp, dp, dx, s, L, rfl, hx, k⟩ := h
    refine ⟨_, (pss_cons (ps_fld (pv 0) (pv 1) rfl)
      (pss_cons (ps_fld (pv 0) (pv 2) rfl)
      (pss_cons (ps_fld (pv 0) (pv 3) rfl)
      (pss_one (ps_fld (pv 0) (pv 4) rfl))))), ?_⟩
    have l1 := len_putF "head" (.ref hp) []
    have l2 := len_putF "start" (nv s) (putF "head" (.ref hp) [])
    have l3 := len_putF "length" (nv L) (putF "start" (nv s) (putF "head" (.ref hp) []))
    have l0 : ([] : List (Str × V)).length = 0 := rfl
    refine ⟨_, rfl, _, rfl, x, C, dx, [], rfl, hx, T.cl, T.nH, by simp, ?_⟩
    refine ⟨_, rfl, _, rfl, x, C, dx, _, rfl, upd_same, T.cl, T.nS, by omega, ?_⟩
    refine ⟨_, rfl, _, rfl, x, C, dx, _, rfl, upd_same, T.cl, T.nL, by omega, ?_⟩
    refine ⟨_, rfl, _, rfl, x, C, dx, _, rfl, upd_same, T.cl, T.nD, by omega, ?_⟩
    exact k _ upd_same fun b hb => by rw [upd_ne hb, upd_ne hb, upd_ne hb, upd_ne hb]
theorem k_described (T : Txt K mg C) (F : Fm K C "described" "Widths.described" s_w_described ["self"]) : Mt P w K mg base 1 C "described" (spDescr K C) := by
  refine F.mt sc_w_described (fun vs H Q E h => ?_) (fun f cdv A outer s H vs Q E hr h => ?_)
  · obtain ⟨x, h, s, L, d, rfl, _⟩ := h
    rfl
  · obtain ⟨x, h, s, L, d, rfl, W, k⟩ := h
    refine ⟨_, (pss_one (ps_ret (pe_tup (pa_cons (k_fld (K := K) rfl (pv 0) rfl) (pa_cons (k_fld (K := K) rfl (pv 0) rfl) (pa_cons (k_fld (K := K) rfl (pv 0) rfl) (pa_cons (k_fld (K := K) rfl (pv 0) rfl) pa_nil))))))), ?_⟩
    obtain ⟨dx, hp, dp, h1, h2, h3⟩ := W.ex
    refine s_retU (eu_tup (ea_cons (ev_fld (ev_var rfl) h1 T.cl T.nH (wf_head hp s L dp)) (ea_cons (ev_fld (ev_var rfl) h1 T.cl T.nS (wf_start hp s L dp)) (ea_cons (ev_fld (ev_var rfl) h1 T.cl T.nL (wf_length hp s L dp)) (ea_cons (ev_fld (ev_var rfl) h1 T.cl T.nD (wf_divisors hp s L dp)) ea_nil)))) (by simp)) fun p H1 _ e1 hp1 =>
      k p H1 e1 ⟨hp, dp, st_of hp1, ex_t e1 h2, ex_t e1 h3⟩
theorem k_formed (T : Txt K mg C) (c_gcd : Cl P w K mg base 1 "gcd" spGcd) (c_divisors_of : Cl P w K mg base 2 "divisors_of" spDivisors) (c_least_table : Cl P w K mg base 3 "least_table" (spLeast K)) (c_make : Mk' P w K mg base 1 "Widths" C (spInit C)) (F : Fn K mg "formed" s_formed ["head", "start", "length", "divisors"]) : Cl P w K mg base 4 "formed" (spFormed K C) := by
  refine F.cl sc_formed (fun vs H Q E h => ?_) (fun f cdv A outer s H vs Q E hr h => ?_)
  · obtain ⟨hp, dp, xs, ds, s, L, S, rfl, _⟩ := h
    rfl
  · obtain ⟨hp, dp, xs, ds, s, L, S, rfl, hhp, hdp, hL, s1, s2, xl, xb, hS1, hS2, tl, k⟩ := h
    have hu := hr.units
    rcases hhp with hhp | hhp
    · refine ⟨_, (pss_cons (ps_set (i := 4) sc_formed.nd rfl (Or.inr rfl) (pe_dc (own := [("divisor", 8)]) rfl sc_formed.nd (k_pil (K := K) rfl (pc c_divisors_of hr (by decide) rfl (pa_cons (pv 2) pa_nil))) (blkOk_by (own := [("divisor", 8)]) (N := N_formed) (sc := defScope s_formed) (by decide +kernel)) (fun _ _ _ _ _ => (pg_name (i := 8) sc_formed.nd rfl (Or.inl rfl))) (fun _ _ _ _ _ => pts_nil) (fun _ _ _ _ _ => (pv 8)) (fun _ _ _ _ _ => (pe_cmpR (k_in (K := K) rfl) (pv 8) (pv 3) (by rfl)))))
      (pss_cons (ps_asg (pc c_least_table hr (by decide) rfl (pa_cons (pv 2) (pa_cons (pv 4) pa_nil))) (k_pgt (K := K) (n := 2) rfl rfl (pgs_cons (pg_name (i := 2) sc_formed.nd rfl (Or.inl rfl)) (pgs_cons (pg_name (i := 4) sc_formed.nd rfl (Or.inr rfl)) pgs_nil))))
      (pss_cons (ps_if (pt_cmpR op_gt (pv 2) (pkc rfl T.MOST_LENGTH) (nomark _)) pss_never pss_nil)
      (pss_cons (ps_setDc (i := 5) (own := [("w", 9)]) rfl sc_formed.nd rfl rfl (swd_true rfl rfl rfl (by decide +kernel)) (k_pil (K := K) rfl (pv 0)) (blkOk_by (own := [("w", 9)]) (N := N_formed) (sc := defScope s_formed) (by decide +kernel)) (fun _ _ _ _ _ => (pg_name (i := 9) sc_formed.nd rfl (Or.inl rfl))) (fun _ _ _ _ _ => pts_nil) (fun _ _ _ _ _ => (pv 9)) (fun _ _ _ _ _ => pe_bl))
      (pss_cons (ps_while PassesOwn.never (PW.pt (pw_and (pt_cmpR op_gt (pv 1) pe_int (nomark _)) (pw_and1 (pt_cmpR op_eq (pe_cmp (pc_din (hu_of hr) (pe_op op_sub (pv 1) pe_int) (pv 5))) (pe_dget (hu_of hr) (pv 4) (pc c_gcd hr (by decide) rfl (pa_cons (pe_op op_sub (pv 1) pe_int) (pa_cons (pv 2) pa_nil))) (fun _ _ => rfl)) (nomark _))))) (pss_one (ps_set (i := 1) sc_formed.nd rfl (Or.inr rfl) (pe_op op_sub (pv 1) pe_int))))
      (pss_cons (ps_set (i := 6) sc_formed.nd rfl (Or.inl rfl) (pe_callTy (k_tup (K := K) rfl) (by rfl) T.tuple bt_tuple (pa_cons (pe_lc (own := [("w", 9)]) rfl sc_formed.nd (k_pil (K := K) rfl (pe_callB (k_sorted (K := K) rfl) (by rfl) T.sorted bt_sorted (pa_cons (pe_lock (pe_lc (own := [("w", 9)]) rfl sc_formed.nd (pi_keys (pv 5)) (blkOk_by (own := [("w", 9)]) (N := N_formed) (sc := defScope s_formed) (by decide +kernel)) (fun _ _ _ _ _ => (pg_name (i := 9) sc_formed.nd rfl (Or.inl rfl))) (fun _ _ _ _ _ => pts_nil) (fun _ _ _ _ _ => (pe_callTy call_int1 (by rfl) T.int bt_int (pa_cons (pv 9) pa_nil))))) pa_nil))) (blkOk_by (own := [("w", 9)]) (N := N_formed) (sc := defScope s_formed) (by decide +kernel)) (fun _ _ _ _ _ => (pg_name (i := 9) sc_formed.nd rfl (Or.inl rfl))) (fun _ _ _ _ _ => (pts_one (pt_cmpR op_lt (pv 9) (pv 1) (nomark _)))) (fun _ _ _ _ _ => (pv 9))) pa_nil)))
      (pss_cons (ps_set (i := 7) sc_formed.nd rfl (Or.inl rfl) (pe_callTy (k_tup (K := K) rfl) (by rfl) T.tuple bt_tuple (pa_cons (pe_lc (own := [("divisor", 8)]) rfl sc_formed.nd (k_pil (K := K) rfl (pe_callB (k_sorted (K := K) rfl) (by rfl) T.sorted bt_sorted (pa_cons (pe_lock (pe_lc (own := [("key", 10)]) rfl sc_formed.nd (pi_keys (pv 4)) (blkOk_by (own := [("key", 10)]) (N := N_formed) (sc := defScope s_formed) (by decide +kernel)) (fun _ _ _ _ _ => (pg_name (i := 10) sc_formed.nd rfl (Or.inl rfl))) (fun _ _ _ _ _ => pts_nil) (fun _ _ _ _ _ => (pe_callTy call_int1 (by rfl) T.int bt_int (pa_cons (pv 10) pa_nil))))) pa_nil))) (blkOk_by (own := [("divisor", 8)]) (N := N_formed) (sc := defScope s_formed) (by decide +kernel)) (fun _ _ _ _ _ => (pg_name (i := 8) sc_formed.nd rfl (Or.inl rfl))) (fun _ _ _ _ _ => (pts_one (pt_val (pe_dget (hu_of hr) (pv 4) (pv 8) (fun _ _ => rfl))))) (fun _ _ _ _ _ => (pv 8))) pa_nil)))
      (pss_one (ps_ret (pmk c_make hr (by decide) rfl (pa_cons (pv 6) (pa_cons (pv 1) (pa_cons (pv 2) (pa_cons (pv 7) pa_nil)))))))))))))), ?_⟩
      have v0 : ∀ g, (fun g => decide (g ∈ ds)) g = decide (g ∈ ds) := fun _ => rfl
      refine q_asgDc (ed_NL (el_tF (ea_cons (ev_var rfl) ea_nil) (spl_divisors (M53.mem_D.mpr hL))) (by rw [List.length_map]; have := M53.dv_len L; omega) (fun i => tabV (fun g => decide (g ∈ ds)) ((M53.dv L).take i)) rfl (fun i => by rw [tab_len]; exact List.length_take_le _ _) (fun i => Sum.inl (((M53.dv L).getD i 0 : Nat) : Int)) (fun i => .bl (decide ((M53.dv L).getD i 0 ∈ ds)))
        (fun i hi => ?_) (fun _ => rfl) (fun i x H1 e hi => ?_) (fun i x H1 e hi => ?_)) fun vp H1 hvp e1 h1 => ?_
      · rw [List.length_map] at hi
        have e : (M53.dv L).take (i + 1) = (M53.dv L).take i ++ [(M53.dv L)[i]] := by rw [List.take_add_one, List.getElem?_eq_getElem hi] <;> rfl
        have e2 : (M53.dv L).getD i 0 = (M53.dv L)[i] := getD_at 0 (List.getElem?_eq_getElem hi)
        rw [e, e2]
        exact (tab_put _ _ _ (M53.nodup_take (M53.dv_nodup L) hi)).symm
      · obtain ⟨ex, _, _⟩ := getD_of hi
        subst ex
        exact ev_var rfl
      · obtain ⟨ex, _, _⟩ := getD_of hi
        subst ex
        exact ev_op (ev_var rfl) (ev_var rfl) (rv_inN (hdp.ext e))
      rw [List.length_map, List.take_length] at h1
      have tab : TabAt H1 vp L fun g => decide (g ∈ ds) := ⟨M53.dv L, M53.dv_nodup L, fun d => M53.mem_dv hL, M53.dv_len L, h1⟩
      refine q_asgG (R := fun x H2 => ∃ t b L1 v1, x = .ref t ∧ SqT K H2 t [nv L1, .ref b] ∧ TabAt H2 b L1 v1 ∧ L1 ∣ L ∧ (∀ d, d ∣ L → decide (d ∈ ds) = v1 (Nat.gcd d L1)) ∧ ∀ p ∈ M53.pf L1, M53.Irr p L1 v1)
        (ep_tF (EvA.pa (R := fun ws _ => ws = [nv L, .ref vp]) (ea_cons (ev_var rfl) (ea_cons (ev_var rfl) ea_nil)) fun _ _ => rfl) fun ws H2 e2 hw Q q => ⟨L, vp, _, hw, hL, tab.ext e2, fun t b L1 v1 H3 e3 ht hb hL1 hv irr => q _ H3 e3 ⟨t, b, L1, v1, rfl, ht, hb, hL1, hv, irr⟩⟩) fun x H2 e2 hx => ?_
      obtain ⟨t, b, L1, v1, rfl, ht, ⟨gs, gn, gm, gl, hb⟩, hL1, hv, irr⟩ := hx
      have hL1c := Nat.dvd_trans hL1 hL
      have l120 := M53.le120 hL1c
      refine ⟨t, _, rfl, ht, rfl, _, _, rfl, _, _, rfl, rfl, ?_⟩
      refine q_when (b := false) (et_is (et_test (ev_op (ev_var rfl) ev_c (rv_gtN (j := 5040)))) (decide_eq_false (by omega))) (fun h => nomatch h) fun _ H3 e3 => ?_
      obtain ⟨mn, mm, ml⟩ := M53.ded_props xs xs.length (Nat.le_refl _)
      rw [List.take_length] at mn mm ml
      have e13 := (e1.trans e2).trans e3
      have step : ∀ i, i < (nvs xs).length → tabV (fun _ => true) (M53.ded (xs.take (i + 1))) = putK (tabV (fun _ => true) (M53.ded (xs.take i))) (Sum.inl ((xs.getD i 0 : Nat) : Int)) (.bl true) := fun i hi => by
        rw [List.length_map] at hi
        have e : xs.take (i + 1) = xs.take i ++ [xs[i]] := by rw [List.take_add_one, List.getElem?_eq_getElem hi] <;> rfl
        have e2 : xs.getD i 0 = xs[i] := getD_at 0 (List.getElem?_eq_getElem hi)
        rw [e, e2, M53.ded_snoc]
        by_cases q : xs[i] ∈ M53.ded (xs.take i)
        · rw [if_pos q]
          exact (tab_put_in (fun _ => true) _ _ q).symm
        · rw [if_neg q]
          exact (tab_put (fun _ => true) _ _ q).symm
      have lens : ∀ i, (tabV (fun _ => true) (M53.ded (xs.take i))).length ≤ i := fun i => by
        rw [tab_len]
        by_cases q : i ≤ xs.length
        · exact (M53.ded_props xs i q).2.2
        · have := (M53.ded_props xs xs.length (Nat.le_refl _)).2.2
          rw [List.take_length] at this
          rw [List.take_of_length_le (by omega)]
          omega
      refine q_asgDc (kvs := tabV (fun _ => true) (M53.ded (xs.take (nvs xs).length))) (by
        first
        | exact ed_L (ev_var rfl) (ex_l e13 hhp) (by rw [List.length_map]; omega) (fun i => tabV (fun _ => true) (M53.ded (xs.take i))) rfl lens (fun i => Sum.inl ((xs.getD i 0 : Nat) : Int)) (fun _ => .bl true) step (fun _ => rfl) (fun i x H1 e hi => by
            obtain ⟨ex, _, _⟩ := getD_of hi
            subst ex
            exact ev_var rfl) (fun i x H1 e hi => ev_c)
        | exact ed_T (ev_var rfl) (ex_t e13 hhp) (by rw [List.length_map]; omega) (fun i => tabV (fun _ => true) (M53.ded (xs.take i))) rfl lens (fun i => Sum.inl ((xs.getD i 0 : Nat) : Int)) (fun _ => .bl true) step (fun _ => rfl) (fun i x H1 e hi => by
            obtain ⟨ex, _, _⟩ := getD_of hi
            subst ex
            exact ev_var rfl) (fun i x H1 e hi => ev_c)) fun mp H4 hmp e4 h4 => ?_
      rw [List.length_map, List.take_length] at h4
      refine q_while (fun m σ H' => ∃ s' : Nat, σ = [some (.ref hp), some (nv s'), some (nv L1), some (.ref dp), some (.ref b), some (.ref mp), none, none, none, none, none] ∧ 1 ≤ s' ∧ s' ≤ s ∧ Ex H4 H' ∧ (∀ w, s' ≤ w → S w = v1 (Nat.gcd w L1)) ∧ m = s') s
        ⟨s, rfl, s1, Nat.le_refl _, Ex.refl _, fun w hw => by rw [hS2 w hw, hv _ (Nat.gcd_dvd_right _ _), M53.gcd_of_gcd hL1], rfl⟩ ?_
      rintro m σ H5 ⟨s', rfl, s1', s2', e5, hS', rfl⟩
      have hb5 := e5 _ _ (e4 _ _ (e3 _ _ hb))
      have h45 := e5 _ _ h4
      have hval : ∀ x, x ∣ L1 → valV (tabV v1 gs) (Sum.inl (x : Int)) = some (.bl (v1 x)) := fun x hx => by rw [valV_tab, if_pos ((gm x).mpr hx)]
      refine ⟨decide (1 < m) && decide (S (m - 1) = v1 (Nat.gcd (m - 1) L1)), ?_, fun hb2 H6 e6 => ?_, fun hb2 H6 e6 => ?_⟩
      · refine et_and (et_test (ev_op (ev_var rfl) ev_c (rv_gtN (j := 1)))) fun h1 => ?_
        have h1 : 1 < m := of_decide_eq_true h1
        have hin : (valV (tabV (fun _ => true) (M53.ded xs)) (Sum.inl ((m - 1 : Nat) : Int))).isSome = S (m - 1) := by
          rw [valV_tab, hS1 (m - 1) (by omega) (by omega)]
          by_cases q : m - 1 ∈ M53.ded xs
          · rw [if_pos q, decide_eq_true ((mm _).mp q)]
            rfl
          · rw [if_neg q, decide_eq_false fun z => q ((mm _).mpr z)]
            rfl
        have e : decide (V.bl (S (m - 1)) = V.bl (v1 (Nat.gcd (m - 1) L1))) = decide (S (m - 1) = v1 (Nat.gcd (m - 1) L1)) := decide_eq_decide.mpr ⟨fun h => V.bl.inj h, fun h => by rw [h]⟩
        rw [← e, ← hin]
        exact et_test (ev_op (ev_din (k := Sum.inl ((m - 1 : Nat) : Int)) (ev_op (ev_var rfl) ev_c (rv_subN (i := m) (j := 1) (by omega))) (ev_var rfl) (.inl h45)) (ev_dget (k := Sum.inl ((Nat.gcd (m - 1) L1 : Nat) : Int)) (ev_var rfl) (ev_tF (ea_cons (ev_op (ev_var rfl) ev_c (rv_subN (i := m) (j := 1) (by omega))) (ea_cons (ev_var rfl) ea_nil)) spv_gcd) (.inl hb5) (hval _ (Nat.gcd_dvd_right _ _))) (rv_eq rfl))
      · rw [Bool.and_eq_true, decide_eq_true_iff, decide_eq_true_iff] at hb2
        refine ⟨_, fun _ _ h => h, ?_⟩
        refine s_asg (ev_op (ev_var rfl) ev_c (rv_subN (i := m) (j := 1) (by omega))) fun H7 e7 => ⟨m - 1, by omega, m - 1, rfl, by omega, by omega, (e5.trans e6).trans e7, fun w hw => ?_, rfl⟩
        by_cases q : w = m - 1
        · rw [q]
          exact hb2.2
        · exact hS' w (by omega)
      · have least : 1 < m → S (m - 1) ≠ v1 (Nat.gcd (m - 1) L1) := fun h1 e => by
          rw [decide_eq_true h1, decide_eq_true e] at hb2
          exact absurd hb2 (by decide)
        have pm : (M53.ded xs).Perm (M53.hd S s) := M53.perm_of mn (M53.sorted_nodup (M53.hd_sorted S s)) fun x => by
          rw [mm, M53.mem_hd]
          constructor
          · intro hx
            obtain ⟨b1, b2⟩ := xb x hx
            refine ⟨b1, b2, ?_⟩
            rw [hS1 x b1 b2, decide_eq_true hx]
          · rintro ⟨b1, b2, b3⟩
            rw [hS1 x b1 b2] at b3
            exact of_decide_eq_true b3
        have pg : gs.Perm (M53.dv L1) := M53.perm_of gn (M53.dv_nodup L1) fun x => by rw [gm, M53.mem_dv hL1c]
        refine q_asgU (eu_tupL (el_keep (fun w => decide (w < m)) (el_sorted (el_intsK (e6 _ _ h45) (fun _ => ev_var rfl) (by omega) (fun _ => rfl) (fun _ => rfl)) pm (M53.hd_sorted S s)) (by have := pm.length_eq; omega) (fun _ => rfl) (fun _ => rfl) fun x H7 e7 hx => et_test (ev_op (ev_var rfl) (ev_var rfl) rv_ltN))) fun kp H7 _ e7 h7 => ?_
        rw [M53.hd_filter S s2'] at h7
        refine q_asgU (eu_tupL (el_keep v1 (el_sorted (el_intsK (e7 _ _ (e6 _ _ hb5)) (fun _ => ev_var rfl) (by omega) (fun _ => rfl) (fun _ => rfl)) pg (M53.dv_sorted L1)) (by have := M53.dv_len L1; omega) (fun _ => rfl) (fun _ => rfl) fun x H8 e8 hx => et_test (ev_dget (k := Sum.inl ((x : Nat) : Int)) (ev_var rfl) (ev_var rfl) (.inl (e8 _ _ (e7 _ _ (e6 _ _ hb5)))) (hval _ ((M53.mem_dv hL1c).mp hx))))) fun tp H8 _ e8 h8 => ?_
        refine s_retP (ep_make (K := K) (h := M53.hd S m) (d := (M53.dv L1).filter v1) (s := m) (L := L1) (EvA.pa (ea_cons (ev_var rfl) (ea_cons (ev_var rfl) (ea_cons (ev_var rfl) (ea_cons (ev_var rfl) ea_nil)))) fun H9 e9 => ⟨kp, tp, rfl, st_of (e9 _ _ (e8 _ _ h7)), st_of (e9 _ _ h8)⟩)) fun v H9 e9 hv9 => ?_
        obtain ⟨a, rfl, W⟩ := hv9
        exact k a H9 ((((((e13.trans e4).trans e5).trans e6).trans e7).trans e8).trans e9) ⟨_, _, _, _, W, M53.form_mk hL1c tl s1' hS' least irr⟩
    · refine ⟨_, (pss_cons (ps_set (i := 4) sc_formed.nd rfl (Or.inr rfl) (pe_dc (own := [("divisor", 8)]) rfl sc_formed.nd (k_pil (K := K) rfl (pc c_divisors_of hr (by decide) rfl (pa_cons (pv 2) pa_nil))) (blkOk_by (own := [("divisor", 8)]) (N := N_formed) (sc := defScope s_formed) (by decide +kernel)) (fun _ _ _ _ _ => (pg_name (i := 8) sc_formed.nd rfl (Or.inl rfl))) (fun _ _ _ _ _ => pts_nil) (fun _ _ _ _ _ => (pv 8)) (fun _ _ _ _ _ => (pe_cmpR (k_in (K := K) rfl) (pv 8) (pv 3) (by rfl)))))
      (pss_cons (ps_asg (pc c_least_table hr (by decide) rfl (pa_cons (pv 2) (pa_cons (pv 4) pa_nil))) (k_pgt (K := K) (n := 2) rfl rfl (pgs_cons (pg_name (i := 2) sc_formed.nd rfl (Or.inl rfl)) (pgs_cons (pg_name (i := 4) sc_formed.nd rfl (Or.inr rfl)) pgs_nil))))
      (pss_cons (ps_if (pt_cmpR op_gt (pv 2) (pkc rfl T.MOST_LENGTH) (nomark _)) pss_never pss_nil)
      (pss_cons (ps_setDc (i := 5) (own := [("w", 9)]) rfl sc_formed.nd rfl rfl (swd_true rfl rfl rfl (by decide +kernel)) (k_pit (K := K) rfl (pv 0)) (blkOk_by (own := [("w", 9)]) (N := N_formed) (sc := defScope s_formed) (by decide +kernel)) (fun _ _ _ _ _ => (pg_name (i := 9) sc_formed.nd rfl (Or.inl rfl))) (fun _ _ _ _ _ => pts_nil) (fun _ _ _ _ _ => (pv 9)) (fun _ _ _ _ _ => pe_bl))
      (pss_cons (ps_while PassesOwn.never (PW.pt (pw_and (pt_cmpR op_gt (pv 1) pe_int (nomark _)) (pw_and1 (pt_cmpR op_eq (pe_cmp (pc_din (hu_of hr) (pe_op op_sub (pv 1) pe_int) (pv 5))) (pe_dget (hu_of hr) (pv 4) (pc c_gcd hr (by decide) rfl (pa_cons (pe_op op_sub (pv 1) pe_int) (pa_cons (pv 2) pa_nil))) (fun _ _ => rfl)) (nomark _))))) (pss_one (ps_set (i := 1) sc_formed.nd rfl (Or.inr rfl) (pe_op op_sub (pv 1) pe_int))))
      (pss_cons (ps_set (i := 6) sc_formed.nd rfl (Or.inl rfl) (pe_callTy (k_tup (K := K) rfl) (by rfl) T.tuple bt_tuple (pa_cons (pe_lc (own := [("w", 9)]) rfl sc_formed.nd (k_pil (K := K) rfl (pe_callB (k_sorted (K := K) rfl) (by rfl) T.sorted bt_sorted (pa_cons (pe_lock (pe_lc (own := [("w", 9)]) rfl sc_formed.nd (pi_keys (pv 5)) (blkOk_by (own := [("w", 9)]) (N := N_formed) (sc := defScope s_formed) (by decide +kernel)) (fun _ _ _ _ _ => (pg_name (i := 9) sc_formed.nd rfl (Or.inl rfl))) (fun _ _ _ _ _ => pts_nil) (fun _ _ _ _ _ => (pe_callTy call_int1 (by rfl) T.int bt_int (pa_cons (pv 9) pa_nil))))) pa_nil))) (blkOk_by (own := [("w", 9)]) (N := N_formed) (sc := defScope s_formed) (by decide +kernel)) (fun _ _ _ _ _ => (pg_name (i := 9) sc_formed.nd rfl (Or.inl rfl))) (fun _ _ _ _ _ => (pts_one (pt_cmpR op_lt (pv 9) (pv 1) (nomark _)))) (fun _ _ _ _ _ => (pv 9))) pa_nil)))
      (pss_cons (ps_set (i := 7) sc_formed.nd rfl (Or.inl rfl) (pe_callTy (k_tup (K := K) rfl) (by rfl) T.tuple bt_tuple (pa_cons (pe_lc (own := [("divisor", 8)]) rfl sc_formed.nd (k_pil (K := K) rfl (pe_callB (k_sorted (K := K) rfl) (by rfl) T.sorted bt_sorted (pa_cons (pe_lock (pe_lc (own := [("key", 10)]) rfl sc_formed.nd (pi_keys (pv 4)) (blkOk_by (own := [("key", 10)]) (N := N_formed) (sc := defScope s_formed) (by decide +kernel)) (fun _ _ _ _ _ => (pg_name (i := 10) sc_formed.nd rfl (Or.inl rfl))) (fun _ _ _ _ _ => pts_nil) (fun _ _ _ _ _ => (pe_callTy call_int1 (by rfl) T.int bt_int (pa_cons (pv 10) pa_nil))))) pa_nil))) (blkOk_by (own := [("divisor", 8)]) (N := N_formed) (sc := defScope s_formed) (by decide +kernel)) (fun _ _ _ _ _ => (pg_name (i := 8) sc_formed.nd rfl (Or.inl rfl))) (fun _ _ _ _ _ => (pts_one (pt_val (pe_dget (hu_of hr) (pv 4) (pv 8) (fun _ _ => rfl))))) (fun _ _ _ _ _ => (pv 8))) pa_nil)))
      (pss_one (ps_ret (pmk c_make hr (by decide) rfl (pa_cons (pv 6) (pa_cons (pv 1) (pa_cons (pv 2) (pa_cons (pv 7) pa_nil)))))))))))))), ?_⟩
      have v0 : ∀ g, (fun g => decide (g ∈ ds)) g = decide (g ∈ ds) := fun _ => rfl
      refine q_asgDc (ed_NL (el_tF (ea_cons (ev_var rfl) ea_nil) (spl_divisors (M53.mem_D.mpr hL))) (by rw [List.length_map]; have := M53.dv_len L; omega) (fun i => tabV (fun g => decide (g ∈ ds)) ((M53.dv L).take i)) rfl (fun i => by rw [tab_len]; exact List.length_take_le _ _) (fun i => Sum.inl (((M53.dv L).getD i 0 : Nat) : Int)) (fun i => .bl (decide ((M53.dv L).getD i 0 ∈ ds)))
        (fun i hi => ?_) (fun _ => rfl) (fun i x H1 e hi => ?_) (fun i x H1 e hi => ?_)) fun vp H1 hvp e1 h1 => ?_
      · rw [List.length_map] at hi
        have e : (M53.dv L).take (i + 1) = (M53.dv L).take i ++ [(M53.dv L)[i]] := by rw [List.take_add_one, List.getElem?_eq_getElem hi] <;> rfl
        have e2 : (M53.dv L).getD i 0 = (M53.dv L)[i] := getD_at 0 (List.getElem?_eq_getElem hi)
        rw [e, e2]
        exact (tab_put _ _ _ (M53.nodup_take (M53.dv_nodup L) hi)).symm
      · obtain ⟨ex, _, _⟩ := getD_of hi
        subst ex
        exact ev_var rfl
      · obtain ⟨ex, _, _⟩ := getD_of hi
        subst ex
        exact ev_op (ev_var rfl) (ev_var rfl) (rv_inN (hdp.ext e))
      rw [List.length_map, List.take_length] at h1
      have tab : TabAt H1 vp L fun g => decide (g ∈ ds) := ⟨M53.dv L, M53.dv_nodup L, fun d => M53.mem_dv hL, M53.dv_len L, h1⟩
      refine q_asgG (R := fun x H2 => ∃ t b L1 v1, x = .ref t ∧ SqT K H2 t [nv L1, .ref b] ∧ TabAt H2 b L1 v1 ∧ L1 ∣ L ∧ (∀ d, d ∣ L → decide (d ∈ ds) = v1 (Nat.gcd d L1)) ∧ ∀ p ∈ M53.pf L1, M53.Irr p L1 v1)
        (ep_tF (EvA.pa (R := fun ws _ => ws = [nv L, .ref vp]) (ea_cons (ev_var rfl) (ea_cons (ev_var rfl) ea_nil)) fun _ _ => rfl) fun ws H2 e2 hw Q q => ⟨L, vp, _, hw, hL, tab.ext e2, fun t b L1 v1 H3 e3 ht hb hL1 hv irr => q _ H3 e3 ⟨t, b, L1, v1, rfl, ht, hb, hL1, hv, irr⟩⟩) fun x H2 e2 hx => ?_
      obtain ⟨t, b, L1, v1, rfl, ht, ⟨gs, gn, gm, gl, hb⟩, hL1, hv, irr⟩ := hx
      have hL1c := Nat.dvd_trans hL1 hL
      have l120 := M53.le120 hL1c
      refine ⟨t, _, rfl, ht, rfl, _, _, rfl, _, _, rfl, rfl, ?_⟩
      refine q_when (b := false) (et_is (et_test (ev_op (ev_var rfl) ev_c (rv_gtN (j := 5040)))) (decide_eq_false (by omega))) (fun h => nomatch h) fun _ H3 e3 => ?_
      obtain ⟨mn, mm, ml⟩ := M53.ded_props xs xs.length (Nat.le_refl _)
      rw [List.take_length] at mn mm ml
      have e13 := (e1.trans e2).trans e3
      have step : ∀ i, i < (nvs xs).length → tabV (fun _ => true) (M53.ded (xs.take (i + 1))) = putK (tabV (fun _ => true) (M53.ded (xs.take i))) (Sum.inl ((xs.getD i 0 : Nat) : Int)) (.bl true) := fun i hi => by
        rw [List.length_map] at hi
        have e : xs.take (i + 1) = xs.take i ++ [xs[i]] := by rw [List.take_add_one, List.getElem?_eq_getElem hi] <;> rfl
        have e2 : xs.getD i 0 = xs[i] := getD_at 0 (List.getElem?_eq_getElem hi)
        rw [e, e2, M53.ded_snoc]
        by_cases q : xs[i] ∈ M53.ded (xs.take i)
        · rw [if_pos q]
          exact (tab_put_in (fun _ => true) _ _ q).symm
        · rw [if_neg q]
          exact (tab_put (fun _ => true) _ _ q).symm
      have lens : ∀ i, (tabV (fun _ => true) (M53.ded (xs.take i))).length ≤ i := fun i => by
        rw [tab_len]
        by_cases q : i ≤ xs.length
        · exact (M53.ded_props xs i q).2.2
        · have := (M53.ded_props xs xs.length (Nat.le_refl _)).2.2
          rw [List.take_length] at this
          rw [List.take_of_length_le (by omega)]
          omega
      refine q_asgDc (kvs := tabV (fun _ => true) (M53.ded (xs.take (nvs xs).length))) (by
        first
        | exact ed_L (ev_var rfl) (ex_l e13 hhp) (by rw [List.length_map]; omega) (fun i => tabV (fun _ => true) (M53.ded (xs.take i))) rfl lens (fun i => Sum.inl ((xs.getD i 0 : Nat) : Int)) (fun _ => .bl true) step (fun _ => rfl) (fun i x H1 e hi => by
            obtain ⟨ex, _, _⟩ := getD_of hi
            subst ex
            exact ev_var rfl) (fun i x H1 e hi => ev_c)
        | exact ed_T (ev_var rfl) (ex_t e13 hhp) (by rw [List.length_map]; omega) (fun i => tabV (fun _ => true) (M53.ded (xs.take i))) rfl lens (fun i => Sum.inl ((xs.getD i 0 : Nat) : Int)) (fun _ => .bl true) step (fun _ => rfl) (fun i x H1 e hi => by
            obtain ⟨ex, _, _⟩ := getD_of hi
            subst ex
            exact ev_var rfl) (fun i x H1 e hi => ev_c)) fun mp H4 hmp e4 h4 => ?_
      rw [List.length_map, List.take_length] at h4
      refine q_while (fun m σ H' => ∃ s' : Nat, σ = [some (.ref hp), some (nv s'), some (nv L1), some (.ref dp), some (.ref b), some (.ref mp), none, none, none, none, none] ∧ 1 ≤ s' ∧ s' ≤ s ∧ Ex H4 H' ∧ (∀ w, s' ≤ w → S w = v1 (Nat.gcd w L1)) ∧ m = s') s
        ⟨s, rfl, s1, Nat.le_refl _, Ex.refl _, fun w hw => by rw [hS2 w hw, hv _ (Nat.gcd_dvd_right _ _), M53.gcd_of_gcd hL1], rfl⟩ ?_
      rintro m σ H5 ⟨s', rfl, s1', s2', e5, hS', rfl⟩
      have hb5 := e5 _ _ (e4 _ _ (e3 _ _ hb))
      have h45 := e5 _ _ h4
      have hval : ∀ x, x ∣ L1 → valV (tabV v1 gs) (Sum.inl (x : Int)) = some (.bl (v1 x)) := fun x hx => by rw [valV_tab, if_pos ((gm x).mpr hx)]
      refine ⟨decide (1 < m) && decide (S (m - 1) = v1 (Nat.gcd (m - 1) L1)), ?_, fun hb2 H6 e6 => ?_, fun hb2 H6 e6 => ?_⟩
      · refine et_and (et_test (ev_op (ev_var rfl) ev_c (rv_gtN (j := 1)))) fun h1 => ?_
        have h1 : 1 < m := of_decide_eq_true h1
        have hin : (valV (tabV (fun _ => true) (M53.ded xs)) (Sum.inl ((m - 1 : Nat) : Int))).isSome = S (m - 1) := by
          rw [valV_tab, hS1 (m - 1) (by omega) (by omega)]
          by_cases q : m - 1 ∈ M53.ded xs
          · rw [if_pos q, decide_eq_true ((mm _).mp q)]
            rfl
          · rw [if_neg q, decide_eq_false fun z => q ((mm _).mpr z)]
            rfl
        have e : decide (V.bl (S (m - 1)) = V.bl (v1 (Nat.gcd (m - 1) L1))) = decide (S (m - 1) = v1 (Nat.gcd (m - 1) L1)) := decide_eq_decide.mpr ⟨fun h => V.bl.inj h, fun h => by rw [h]⟩
        rw [← e, ← hin]
        exact et_test (ev_op (ev_din (k := Sum.inl ((m - 1 : Nat) : Int)) (ev_op (ev_var rfl) ev_c (rv_subN (i := m) (j := 1) (by omega))) (ev_var rfl) (.inl h45)) (ev_dget (k := Sum.inl ((Nat.gcd (m - 1) L1 : Nat) : Int)) (ev_var rfl) (ev_tF (ea_cons (ev_op (ev_var rfl) ev_c (rv_subN (i := m) (j := 1) (by omega))) (ea_cons (ev_var rfl) ea_nil)) spv_gcd) (.inl hb5) (hval _ (Nat.gcd_dvd_right _ _))) (rv_eq rfl))
      · rw [Bool.and_eq_true, decide_eq_true_iff, decide_eq_true_iff] at hb2
        refine ⟨_, fun _ _ h => h, ?_⟩
        refine s_asg (ev_op (ev_var rfl) ev_c (rv_subN (i := m) (j := 1) (by omega))) fun H7 e7 => ⟨m - 1, by omega, m - 1, rfl, by omega, by omega, (e5.trans e6).trans e7, fun w hw => ?_, rfl⟩
        by_cases q : w = m - 1
        · rw [q]
          exact hb2.2
        · exact hS' w (by omega)
      · have least : 1 < m → S (m - 1) ≠ v1 (Nat.gcd (m - 1) L1) := fun h1 e => by
          rw [decide_eq_true h1, decide_eq_true e] at hb2
          exact absurd hb2 (by decide)
        have pm : (M53.ded xs).Perm (M53.hd S s) := M53.perm_of mn (M53.sorted_nodup (M53.hd_sorted S s)) fun x => by
          rw [mm, M53.mem_hd]
          constructor
          · intro hx
            obtain ⟨b1, b2⟩ := xb x hx
            refine ⟨b1, b2, ?_⟩
            rw [hS1 x b1 b2, decide_eq_true hx]
          · rintro ⟨b1, b2, b3⟩
            rw [hS1 x b1 b2] at b3
            exact of_decide_eq_true b3
        have pg : gs.Perm (M53.dv L1) := M53.perm_of gn (M53.dv_nodup L1) fun x => by rw [gm, M53.mem_dv hL1c]
        refine q_asgU (eu_tupL (el_keep (fun w => decide (w < m)) (el_sorted (el_intsK (e6 _ _ h45) (fun _ => ev_var rfl) (by omega) (fun _ => rfl) (fun _ => rfl)) pm (M53.hd_sorted S s)) (by have := pm.length_eq; omega) (fun _ => rfl) (fun _ => rfl) fun x H7 e7 hx => et_test (ev_op (ev_var rfl) (ev_var rfl) rv_ltN))) fun kp H7 _ e7 h7 => ?_
        rw [M53.hd_filter S s2'] at h7
        refine q_asgU (eu_tupL (el_keep v1 (el_sorted (el_intsK (e7 _ _ (e6 _ _ hb5)) (fun _ => ev_var rfl) (by omega) (fun _ => rfl) (fun _ => rfl)) pg (M53.dv_sorted L1)) (by have := M53.dv_len L1; omega) (fun _ => rfl) (fun _ => rfl) fun x H8 e8 hx => et_test (ev_dget (k := Sum.inl ((x : Nat) : Int)) (ev_var rfl) (ev_var rfl) (.inl (e8 _ _ (e7 _ _ (e6 _ _ hb5)))) (hval _ ((M53.mem_dv hL1c).mp hx))))) fun tp H8 _ e8 h8 => ?_
        refine s_retP (ep_make (K := K) (h := M53.hd S m) (d := (M53.dv L1).filter v1) (s := m) (L := L1) (EvA.pa (ea_cons (ev_var rfl) (ea_cons (ev_var rfl) (ea_cons (ev_var rfl) (ea_cons (ev_var rfl) ea_nil)))) fun H9 e9 => ⟨kp, tp, rfl, st_of (e9 _ _ (e8 _ _ h7)), st_of (e9 _ _ h8)⟩)) fun v H9 e9 hv9 => ?_
        obtain ⟨a, rfl, W⟩ := hv9
        exact k a H9 ((((((e13.trans e4).trans e5).trans e6).trans e7).trans e8).trans e9) ⟨_, _, _, _, W, M53.form_mk hL1c tl s1' hS' least irr⟩
end
end K53
namespace M53
theorem filter_snoc {xs : List Nat} {i x : Nat} (f : Nat → Bool) (h : xs[i]? = some x) : (xs.take (i + 1)).filter f = (xs.take i).filter f ++ (if f x then [x] else []) := by
  rw [List.take_add_one, h, List.filter_append]
  congr 1
  show [x].filter f = _
  rw [List.filter_cons]
  split <;> rfl
end M53
namespace K53
open PySem PySem.Spec PyProof.Rows L2 Evl
section
variable {K : PySem.W.Frag} {σ : L2.St} {H H' : Hp} {ta tb tc td te tl tl1 ty tv : TE} {t : TA} {tt : TT} {x y z v : V} {g : TG} {vs : List Nat} {tu tw tz : TS} {D : Ends} {a : Addr} {C : Addr}
theorem ed_tup2 {Dl : Addr} {R : V → Hp → Prop} {ys : List V} (ha : Ev ta σ H x) (hb : EvL tb σ H ys) (r : ∀ t l H2, H2 t = some (.tup [x, .ref l]) → H2 l = some (.lst ys) → R (.ref t) H2) : EvD Dl (tTup (tCons ta (tCons tb tNil))) σ H R := fun H1 e hD Q q =>
  ha H1 e _ fun H2 e2 => hb H2 (e.trans e2) _ fun l H3 hl e3 h3 => ⟨sz_of (by simp), fun t ht => q (.ref t) _ ((e2.trans e3).trans (Ex.new ht)) (by
    have n1 : t ≠ Dl := fun z => hD (fresh_back (e2.trans e3) (by rw [← z]; exact ht))
    have n2 : l ≠ Dl := fun z => hD (fresh_back e2 (by rw [← z]; exact hl))
    have n3 : l ≠ t := fun z => by rw [z, ht] at h3; cases h3
    refine r t l _ ?_ ?_
    · rw [del_at n1, upd_same]
    · rw [del_at n2, upd_ne n3]
      exact h3)⟩
theorem s_retLcP {n : Nat} {R : Nat → V → Hp → Prop} (h : LcP te σ H n R) (k : ∀ p ys H1, H p = none → Ex H H1 → H1 p = some (.lst ys) → ys.length = n → (∀ j y, ys[j]? = some y → R j y H1) → D.rt (.ref p) H1) : tRet te D σ H := h H (Ex.refl H) _ k
theorem spv_cop {N q : Nat} {p : Addr} (hq : q ∈ M53.D) (hp : SqL K H p (nvs (M53.pf q))) : SpV (spCop K) [nv N, .ref p] H (.int (M53.copI N (M53.sg (M53.pf q)))) := fun H1 e Q q' E => ⟨N, q, p, rfl, hq, ex_l e hp, q'⟩
/-- [x for x in a tuple if f(x)] -/
theorem el_keepT {xs : List Nat} {j : Nat} (f : Nat → Bool) (h : Ev tl σ H (.ref a)) (hx : SqT K H a (nvs xs)) (hz : xs.length ≤ 40000) (hw : ∀ x, wipe ((wipe σ vs).set j (some x)) vs = wipe σ vs) (hv : ∀ x, ((wipe σ vs).set j (some x))[j]? = some (some x))
    (ht : ∀ (x : Nat) H1, Ex H H1 → x ∈ xs → EvT tt ((wipe σ vs).set j (some (nv x))) H1 (f x)) : EvL (tLc (iTup K tl) (gName j) tt (tVar j) vs) σ H (nvs (xs.filter f)) := by
  have l : (nvs xs).length = xs.length := List.length_map _
  rw [← given_nvs xs f, ← l]
  refine el_lcT _ _ h hx (by rw [l]; exact hz) hw (fun i x H1 e hi => ?_) fun i x H1 e hi _ => ?_
  · obtain ⟨ex, _, hm⟩ := getD_of hi
    subst ex
    exact ht _ H1 e hm
  · obtain ⟨ex, _, hm⟩ := getD_of hi
    subst ex
    exact ev_var (hv _)
end
section
variable {P : Program} {w : World} {K : PySem.W.Frag} {mg : Str → Option Value} {base : Heap} {C : Addr}
theorem k_classes_of (c_primes_of : Cl P w K mg base 1 "primes_of" spPrimes) (F : Fn K mg "classes_of" s_classes_of ["length", "divisors"]) : Cl P w K mg base 2 "classes_of" (spClasses K) := by
  refine F.cl sc_classes_of (fun vs H Q E h => ?_) (fun f cdv A outer s H vs Q E hr h => ?_)
  · obtain ⟨L, dp, d, rfl, _⟩ := h
    rfl
  · obtain ⟨L, dp, d, rfl, hL, hd, dL, dl, k⟩ := h
    refine ⟨_, (pss_one (ps_ret (pe_lc (own := [("divisor", 2)]) rfl sc_classes_of.nd (k_pit (K := K) rfl (pv 1)) (blkOk_by (own := [("divisor", 2)]) (N := N_classes_of) (sc := defScope s_classes_of) (by decide +kernel)) (fun _ _ _ _ _ => (pg_name (i := 2) sc_classes_of.nd rfl (Or.inl rfl))) (fun _ _ _ _ _ => pts_nil) (fun _ _ _ _ _ => (pe_tup (pa_cons (pv 2) (pa_cons (pc c_primes_of hr (by decide) rfl (pa_cons (pe_op op_fdiv (pv 0) (pv 2)) pa_nil)) pa_nil))))))), ?_⟩
    have E : LcP _ _ H (nvs d).length (fun i v H2 => ∀ g, d[i]? = some g → ClassAt K H2 L v g) := lcT (K := K) (tl := tVar 1) (g := gName 2) (te := tTup (tCons (tVar 2) (tCons (tF spPrimes (tCons (tOp (rI CDiv fun i j => V.int (i / j)) (tVar 0) (tVar 2)) tNil)) tNil))) (vs := [2]) (σ := [some (nv L), some (.ref dp), none]) _
      (fun i v H1 H2 e h g hg => let ⟨t, l, a, b, c⟩ := h g hg; ⟨t, l, a, ex_t e b, ex_l e c⟩) (ev_var rfl) hd (by rw [List.length_map]; omega) fun i x H1 e hi Z hz => by
        obtain ⟨ex, hil, hm⟩ := getD_of hi
        have hg0 : d[i]? = some (d.getD i 0) := by rw [List.getD_eq_getElem?_getD, List.getElem?_eq_getElem hil] <;> rfl
        generalize d.getD i 0 = g at ex hg0 hm
        subst ex
        have gL := dL g hm
        have g0 := Nat.pos_of_dvd_of_pos gL (M53.pos120 hL)
        have g120 := M53.le120 (Nat.dvd_trans gL hL)
        refine hz _ rfl fun Dl => ?_
        refine ed_tup2 (ev_var rfl) (el_tF (ea_cons (ev_op (ev_var rfl) (ev_var rfl) (rv_divN g0 (by omega))) ea_nil) (spl_primes (M53.mem_D.mpr (Nat.dvd_trans (M53.div_dvd_of gL) hL)))) fun t l H2 ht hl g' hg' => ?_
        rw [hg0] at hg'
        cases hg'
        exact ⟨t, l, rfl, st_of ht, sq_of hl⟩
    exact s_retLcP E fun p ys H1 _ e1 hp hl hr => k p H1 e1 ⟨ys, sq_of hp, by rw [hl, List.length_map], fun i x g hx hg => hr i x hx g hg⟩
theorem k_members_up_to (T : Txt K mg C) (c_coprimes_up_to : Cl P w K mg base 1 "coprimes_up_to" (spCop K)) (F : Fn K mg "members_up_to" s_members_up_to ["head", "start", "classes", "n"]) : Cl P w K mg base 2 "members_up_to" (spUpTo' K) := by
  refine F.cl sc_members_up_to (fun vs H Q E h => ?_) (fun f cdv A outer s H vs Q E hr h => ?_)
  · obtain ⟨hp, p, h, s, L, d, n, S, rfl, _⟩ := h
    rfl
  · obtain ⟨hp, p, h, s, L, d, n, S, rfl, hhp, ⟨xs, hxs, hxl, hcl⟩, Fo, k⟩ := h
    refine ⟨_, (pss_cons (ps_set (i := 4) sc_members_up_to.nd rfl (Or.inl rfl) (pe_callB (k_len (K := K) rfl) (by rfl) T.len bt_len (pa_cons (pe_lc (own := [("w", 7)]) rfl sc_members_up_to.nd (k_pit (K := K) rfl (pv 0)) (blkOk_by (own := [("w", 7)]) (N := N_members_up_to) (sc := defScope s_members_up_to) (by decide +kernel)) (fun _ _ _ _ _ => (pg_name (i := 7) sc_members_up_to.nd rfl (Or.inl rfl))) (fun _ _ _ _ _ => (pts_one (pt_cmpR op_le (pv 7) (pv 3) (nomark _)))) (fun _ _ _ _ _ => (pv 7))) pa_nil)))
      (pss_cons (ps_if (pt_cmpR op_ge (pv 3) (pv 1) (nomark _)) (pss_one (ps_for PassesOwn.never rfl (k_pil (K := K) rfl (pv 2)) (k_pgt (K := K) (n := 2) rfl rfl (pgs_cons (pg_name (i := 5) sc_members_up_to.nd rfl (Or.inl rfl)) (pgs_cons (pg_name (i := 6) sc_members_up_to.nd rfl (Or.inl rfl)) pgs_nil)))
        (pss_one (ps_aug (i := 4) sc_members_up_to.nd rfl (Or.inl rfl) (pe_op op_sub (pc c_coprimes_up_to hr (by decide) rfl (pa_cons (pe_op op_fdiv (pv 3) (pv 5)) (pa_cons (pv 6) pa_nil))) (pc c_coprimes_up_to hr (by decide) rfl (pa_cons (pe_op op_fdiv (pe_op op_sub (pv 1) pe_int) (pv 5)) (pa_cons (pv 6) pa_nil)))) ip_add)))) pss_nil)
      (pss_one (ps_ret (pv 4))))), ?_⟩
    have hlen : h.length ≤ 601 := by
      rw [Fo.head]
      exact Nat.le_trans (List.length_filter_le _ _) (by rw [List.length_range]; exact Fo.s2)
    have hL := Fo.len
    have dL : ∀ g ∈ d, g ∣ L := fun g hg => by
      rw [Fo.divs] at hg
      exact (M53.mem_dv hL).mp (List.mem_filter.mp hg).1
    have s1 := Fo.s1
    have up := M53.upI_cnt Fo n
    unfold M53.upI at up
    refine q_asg (ev_lenN (el_keepT (K := K) (fun w => decide (w ≤ n)) (ev_var rfl) hhp (by omega) (fun _ => rfl) (fun _ => rfl) fun x H1 e hx => et_test (ev_op (ev_var rfl) (ev_var rfl) rv_leN))) fun H1 e1 => ?_
    have hc : (nvs (h.filter fun w => decide (w ≤ n))).length = (h.filter fun w => decide (w ≤ n)).length := List.length_map _
    refine q_when (b := decide (s ≤ n)) (et_test (ev_op (ev_var rfl) (ev_var rfl) rv_geN)) (fun hb H2 e2 => ?_) (fun hb H2 e2 => ?_)
    · rw [if_pos (of_decide_eq_true hb)] at up
      refine s_forL (ev_var rfl) (ex_l (e1.trans e2) hxs) (fun i σ H' => ∃ (m : Int) (o1 o2 o3 : Option V), σ = [some (.ref hp), some (nv s), some (.ref p), some (nv n), some (.int m), o1, o2, o3] ∧ m = ((h.filter fun w => decide (w ≤ n)).length : Int) + (((d.take i).map fun g => M53.copI (n / g) (M53.sg (M53.pf (L / g))) - M53.copI ((s - 1) / g) (M53.sg (M53.pf (L / g)))).sum) ∧ Ex H H')
        (fun H3 e3 => ⟨_, _, _, _, rfl, ?_, (e1.trans e2).trans e3⟩) (fun i σ' H' hi q => let ⟨_, _, _, _, _, _, e⟩ := q; ex_l e hxs) (fun i x σ' H' hi q => ?_) (fun σ' H' q => ?_)
      · rw [← hc, List.take_zero]
        show _ = _ + (0 : Int)
        rw [Int.add_zero]
      · obtain ⟨m, o1, o2, o3, rfl, hm0, e3⟩ := q
        have hil : i < d.length := by rw [← hxl]; exact (List.getElem?_eq_some_iff.mp hi).1
        have hg0 : d[i]? = some d[i] := List.getElem?_eq_getElem hil
        obtain ⟨t, l, rfl, ht, hl⟩ := hcl i x _ hi hg0
        have et : d.take (i + 1) = d.take i ++ [d[i]] := by rw [List.take_add_one, hg0] <;> rfl
        have hm := List.getElem_mem hil
        generalize d[i] = g at hg0 ht hl et hm
        have gL := dL g hm
        have g0 := Nat.pos_of_dvd_of_pos gL (M53.pos120 hL)
        have g120 := M53.le120 (Nat.dvd_trans gL hL)
        have hq : L / g ∈ M53.D := M53.mem_D.mpr (Nat.dvd_trans (M53.div_dvd_of gL) hL)
        refine ⟨t, _, rfl, ex_t e3 ht, rfl, _, _, rfl, _, _, rfl, rfl, ?_⟩
        refine s_aug (f := fun i j => i + j) rfl (ev_op (ev_tF (ea_cons (ev_op (ev_var rfl) (ev_var rfl) (rv_divN g0 (by omega))) (ea_cons (ev_var rfl) ea_nil)) (spv_cop hq (ex_l e3 hl))) (ev_tF (ea_cons (ev_op (ev_op (ev_var rfl) ev_c (rv_subN (j := 1) s1)) (ev_var rfl) (rv_divN g0 (by omega))) (ea_cons (ev_var rfl) ea_nil)) (spv_cop hq (ex_l e3 hl))) rv_I0) fun H4 e4 => ⟨_, _, _, _, rfl, ?_, e3.trans e4⟩
        rw [et, List.map_append, List.sum_append, ← Int.add_assoc, ← hm0]
        show _ = m + (_ + (0 : Int))
        rw [Int.add_zero]
      · obtain ⟨m, o1, o2, o3, rfl, hm0, e3⟩ := q
        rw [hxl, List.take_length, up] at hm0
        subst hm0
        exact s_ret (ev_var rfl) fun H4 e4 => k _ (e3.trans e4)
    · rw [if_neg (of_decide_eq_false hb), Int.add_zero] at up
      rw [hc, up]
      exact s_ret (ev_var rfl) fun H3 e3 => k _ ((e1.trans e2).trans e3)
theorem k_joined_parts (T : Txt K mg C) (c_greater : Cl P w K mg base 1 "greater" spGreater) (c_lcm : Cl P w K mg base 2 "lcm" spLcm) (c_is_chosen : Cl P w K mg base 1 "is_chosen" spChosen) (c_is_member : Cl P w K mg base 2 "is_member" (spMember K)) (c_divisors_of : Cl P w K mg base 2 "divisors_of" spDivisors) (c_gcd : Cl P w K mg base 1 "gcd" spGcd)
    (F : Fn K mg "joined_parts" s_joined_parts ["one", "other", "rule"]) : Cl P w K mg base 3 "joined_parts" (spJParts K) := by
  refine F.cl sc_joined_parts (fun vs H Q E h => ?_) (fun f cdv A outer s H vs Q E hr h => ?_)
  · obtain ⟨p, q, r, h, s, L, d, S, h', s', L', d', S', rfl, _⟩ := h
    rfl
  · obtain ⟨p, q, r, h, s, L, d, S, h', s', L', d', S', rfl, hp, Fo, hq, Fo', k⟩ := h
    refine ⟨_, (pss_cons (ps_set (i := 3) sc_joined_parts.nd rfl (Or.inl rfl) (pc c_greater hr (by decide) rfl (pa_cons (pe_ix (k_ixT (K := K) rfl) (pv 0) pe_int (fun _ _ => rfl)) (pa_cons (pe_ix (k_ixT (K := K) rfl) (pv 1) pe_int (fun _ _ => rfl)) pa_nil))))
      (pss_cons (ps_set (i := 4) sc_joined_parts.nd rfl (Or.inl rfl) (pc c_lcm hr (by decide) rfl (pa_cons (pe_ix (k_ixT (K := K) rfl) (pv 0) pe_int (fun _ _ => rfl)) (pa_cons (pe_ix (k_ixT (K := K) rfl) (pv 1) pe_int (fun _ _ => rfl)) pa_nil))))
      (pss_cons (ps_setLc (i := 5) (own := [("w", 8)]) rfl sc_joined_parts.nd rfl rfl (sw_true rfl rfl rfl (by decide +kernel)) (pi_range2 (by rfl) T.range (pa_cons pe_int (pa_cons (pv 3) pa_nil))) (blkOk_by (own := [("w", 8)]) (N := N_joined_parts) (sc := defScope s_joined_parts) (by decide +kernel)) (fun _ _ _ _ _ => (pg_name (i := 8) sc_joined_parts.nd rfl (Or.inl rfl))) (fun _ _ _ _ _ => (pts_one (pt_val (pc c_is_chosen hr (by decide) rfl (pa_cons (pv 2) (pa_cons (pc c_is_member hr (by decide) rfl (pa_cons (pv 0) (pa_cons (pv 8) pa_nil))) (pa_cons (pc c_is_member hr (by decide) rfl (pa_cons (pv 1) (pa_cons (pv 8) pa_nil))) pa_nil))))))) (fun _ _ _ _ _ => (pv 8)))
      (pss_cons (ps_set (i := 6) sc_joined_parts.nd rfl (Or.inl rfl) (pe_lst pa_nil))
      (pss_cons (ps_for PassesOwn.never rfl (k_pil (K := K) rfl (pc c_divisors_of hr (by decide) rfl (pa_cons (pv 4) pa_nil))) (pg_name (i := 7) sc_joined_parts.nd rfl (Or.inl rfl))
        (pss_one (ps_if (pt_val (pc c_is_chosen hr (by decide) rfl (pa_cons (pv 2) (pa_cons (pe_cmpR (k_in (K := K) rfl) (pc c_gcd hr (by decide) rfl (pa_cons (pv 7) (pa_cons (pe_ix (k_ixT (K := K) rfl) (pv 0) pe_int (fun _ _ => rfl)) pa_nil))) (pe_ix (k_ixT (K := K) rfl) (pv 0) pe_int (fun _ _ => rfl)) (by rfl)) (pa_cons (pe_cmpR (k_in (K := K) rfl) (pc c_gcd hr (by decide) rfl (pa_cons (pv 7) (pa_cons (pe_ix (k_ixT (K := K) rfl) (pv 1) pe_int (fun _ _ => rfl)) pa_nil))) (pe_ix (k_ixT (K := K) rfl) (pv 1) pe_int (fun _ _ => rfl)) (by rfl)) pa_nil))))) (pss_one (ps_expr (k_app (K := K) rfl (pv 6) (pv 7)))) pss_nil)))
      (pss_one (ps_ret (pe_tup (pa_cons (pv 5) (pa_cons (pv 3) (pa_cons (pv 4) (pa_cons (pv 6) pa_nil)))))))))))), ?_⟩
    obtain ⟨ph, pd, p1, p2, p3⟩ := id hp
    obtain ⟨qh, qd, q1, q2, q3⟩ := id hq
    have hL := M53.mem_D.mpr Fo.len
    have hL' := M53.mem_D.mpr Fo'.len
    obtain ⟨hM, dLM, dLM'⟩ := M53.lcm_D L hL L' hL'
    obtain ⟨st, hst⟩ : ∃ st, (if s' < s then s else s') = st := ⟨_, rfl⟩
    have st1 : 1 ≤ st := by have := Fo.s1; have := Fo'.s1; split at hst <;> omega
    have st2 : st ≤ 601 := by have := Fo.s2; have := Fo'.s2; split at hst <;> omega
    have sts : s ≤ st ∧ s' ≤ st := by split at hst <;> omega
    have est : V.int (if (s' : Int) < (s : Int) then (s : Int) else (s' : Int)) = nv st := by
      rw [← hst]
      by_cases z : s' < s
      · rw [if_pos z, if_pos (by omega)]
        rfl
      · rw [if_neg z, if_neg (by omega)]
        rfl
    refine q_asg (ev_is (ev_tF (ea_cons (ev_op (ev_var rfl) ev_c (rv_ixT p1 rfl)) (ea_cons (ev_op (ev_var rfl) ev_c (rv_ixT q1 rfl)) ea_nil)) spv_greater) est) fun H1 e1 => ?_
    refine q_asg (ev_tF (ea_cons (ev_op (ev_var rfl) ev_c (rv_ixT (ex_t e1 p1) rfl)) (ea_cons (ev_op (ev_var rfl) ev_c (rv_ixT (ex_t e1 q1) rfl)) ea_nil)) (spv_lcm hL hL')) fun H2 e2 => ?_
    have e12 := e1.trans e2
    have eT : given ((st : Int) - 1).toNat (fun i => ruleF r (S (i + 1)) (S' (i + 1))) (fun i => nv (i + 1)) = nvs (M53.hd (fun w => ruleF r (S w) (S' w)) st) := by
      obtain ⟨z, rfl⟩ : ∃ z, st = z + 1 := ⟨st - 1, by omega⟩
      rw [show ((z + 1 : Nat) : Int) - 1 = (z : Int) by omega, Int.toNat_natCast]
      exact given_hd (fun w => ruleF r (S w) (S' w)) z
    have E := el_lcR2 (ta := tCons (tC (.int 1)) (tCons (tVar 3) tNil)) (j := 7) (vs := [7]) (te := tVar 7) (tt := tTest (tF spChosen (tCons (tVar 2) (tCons (tF (spMember K) (tCons (tVar 0) (tCons (tVar 7) tNil))) (tCons (tF (spMember K) (tCons (tVar 1) (tCons (tVar 7) tNil))) tNil)))))
      (σ := [some (.ref p), some (.ref q), some (.str r), some (nv st), some (nv (M53.lcm L L')), none, none, none, none]) (H := H2) (lo := 1) (n := (st : Int)) (fun i => ruleF r (S (i + 1)) (S' (i + 1))) (fun i => nv (i + 1)) (ea_cons ev_c (ea_cons (ev_var rfl) ea_nil)) ⟨by omega, by omega, by omega, by omega⟩ (fun _ => rfl) (fun i H3 e hi => by
        have ew : (.int (1 + (i : Int)) : V) = nv (i + 1) := congrArg V.int (by omega)
        rw [ew]
        refine et_test ?_
        rw [← Fo.mem (w := i + 1) (by omega), ← Fo'.mem (w := i + 1) (by omega)]
        exact ev_tF (ea_cons (ev_var rfl) (ea_cons (ev_tF (ea_cons (ev_var rfl) (ea_cons (ev_var rfl) ea_nil)) (spv_member ((hp.ext e12).ext e))) (ea_cons (ev_tF (ea_cons (ev_var rfl) (ea_cons (ev_var rfl) ea_nil)) (spv_member ((hq.ext e12).ext e))) ea_nil))) spv_chosen) (fun i H3 e hi _ => by
        have ew : (.int (1 + (i : Int)) : V) = nv (i + 1) := congrArg V.int (by omega)
        rw [ew]
        exact ev_var rfl)
    rw [eT] at E
    refine q_asgL E fun hp2 H3 hhp2 e3 h3 => ?_
    refine q_asgL (el_lst ea_nil (by simp)) fun fp H4 hfp e4 hf4 => ?_
    obtain ⟨f, hf⟩ : ∃ f : Nat → Bool, f = fun g => ruleF r (decide (Nat.gcd g L ∈ d)) (decide (Nat.gcd g L' ∈ d')) := ⟨_, rfl⟩
    refine q_forNLn (el_tF (ea_cons (ev_var rfl) ea_nil) (spl_divisors hM)) (fun pp i σ H' => ∃ o1 o2, σ = [some (.ref p), some (.ref q), some (.str r), some (nv st), some (nv (M53.lcm L L')), some (.ref hp2), some (.ref fp), o1, o2] ∧ Ex H3 H' ∧ H' pp = some (.lst (nvs (M53.dv (M53.lcm L L')))) ∧ pp ≠ fp ∧ H' fp = some (.lst (nvs (((M53.dv (M53.lcm L L')).take i).filter f))))
      (fun pp H5 hpp e5 hp5 => ⟨_, _, rfl, e4.trans e5, hp5, (fun z => by rw [z, hf4] at hpp; cases hpp), e5 _ _ hf4⟩) (fun pp i σ' H' hi z => let ⟨_, _, _, _, h, _⟩ := z; sq_of h) (fun pp i x σ' H' hi z => ?_) (fun pp σ' H' z => ?_)
    · obtain ⟨o1, o2, rfl, e5, hpp, hne, hf5⟩ := z
      obtain ⟨ex, hil, hm⟩ := getD_of hi
      have hg0 : (M53.dv (M53.lcm L L'))[i]? = some ((M53.dv (M53.lcm L L')).getD i 0) := by rw [List.getD_eq_getElem?_getD, List.getElem?_eq_getElem hil] <;> rfl
      generalize (M53.dv (M53.lcm L L')).getD i 0 = g at ex hg0 hm
      subst ex
      have e15 := (e12.trans e3).trans e5
      have ef := M53.filter_snoc f hg0
      have hlen : (((M53.dv (M53.lcm L L')).take i).filter f).length ≤ 16 := Nat.le_trans (List.length_filter_le _ _) (Nat.le_trans (List.length_take_le' _ _) (M53.dv_len _))
      rw [ef]
      refine s_when (b := f g) (et_test ?_) (fun hb H6 e6 => ?_) (fun hb H6 e6 => ?_)
      · rw [hf]
        exact ev_tF (ea_cons (ev_var rfl) (ea_cons (ev_op (ev_tF (ea_cons (ev_var rfl) (ea_cons (ev_op (ev_var rfl) ev_c (rv_ixT (ex_t e15 p1) rfl)) ea_nil)) spv_gcd) (ev_op (ev_var rfl) ev_c (rv_ixT (ex_t e15 p1) rfl)) (rv_inN (.inr (ex_t e15 p3)))) (ea_cons (ev_op (ev_tF (ea_cons (ev_var rfl) (ea_cons (ev_op (ev_var rfl) ev_c (rv_ixT (ex_t e15 q1) rfl)) ea_nil)) spv_gcd) (ev_op (ev_var rfl) ev_c (rv_ixT (ex_t e15 q1) rfl)) (rv_inN (.inr (ex_t e15 q3)))) ea_nil))) spv_chosen
      · refine s_app (e6 _ _ hf5) (ev_var rfl) (ev_var rfl) (by rw [List.length_map]; omega) fun H7 e7 => ⟨_, _, rfl, Ex.mut ((e5.trans e6).trans e7) hfp, ?_, hne, ?_⟩
        · rw [upd_ne hne]
          exact e7 _ _ (e6 _ _ hpp)
        · rw [upd_same, if_pos hb, nvs_snoc]
      · refine ⟨_, _, rfl, e5.trans e6, e6 _ _ hpp, hne, ?_⟩
        rw [if_neg (by rw [hb]; decide), List.append_nil]
        exact e6 _ _ hf5
    · obtain ⟨o1, o2, rfl, e5, hpp, hne, hf5⟩ := z
      rw [List.length_map, List.take_length] at hf5
      have e15 := (e12.trans e3).trans e5
      refine s_retU (eu_tup (ea_cons (ev_var rfl) (ea_cons (ev_var rfl) (ea_cons (ev_var rfl) (ea_cons (ev_var rfl) ea_nil)))) (by simp)) fun t H6 _ e6 h6 => k t hp2 st (M53.lcm L L') fp H6 (e15.trans e6) (st_of h6)
        ⟨_, _, sq_of (e6 _ _ (e5 _ _ h3)), sq_of (e6 _ _ hf5), M53.mem_D.mp hM, st1, st2, ?_, Nat.le_trans (List.length_filter_le _ _) (M53.dv_len _), fun x => M53.mem_hd, fun g hg => (M53.mem_dv (M53.mem_D.mp hM)).mp (List.mem_filter.mp hg).1, fun w hw => ?_⟩
      · exact Nat.le_trans (List.length_filter_le _ _) (by rw [List.length_range]; exact st2)
      · rw [M53.mem_dvf (M53.mem_D.mp hM) (Nat.gcd_dvd_right _ _), hf]
        show ruleF r (S w) (S' w) = ruleF r (decide (Nat.gcd (Nat.gcd w (M53.lcm L L')) L ∈ d)) (decide (Nat.gcd (Nat.gcd w (M53.lcm L L')) L' ∈ d'))
        rw [M53.gcd_of_gcd dLM, M53.gcd_of_gcd dLM', Fo.tail w (by omega), Fo'.tail w (by omega)]
/-- what joined_parts hands back -/
def JAt (K : PySem.W.Frag) (H : Hp) (T : Nat → Bool) (x : V) : Prop := ∃ t hp s L dp, x = .ref t ∧ SqT K H t [.ref hp, nv s, nv L, .ref dp] ∧ JoinAt K H hp s L dp T
theorem ep_jparts {σ : L2.St} {H : Hp} {t : TA} {p q : Addr} {r : Str} {h d h' d' : List Nat} {s L s' L' : Nat} {S S' : Nat → Bool} (ht : EvA t σ H [.ref p, .ref q, .str r]) (hp : PartsAt K H p h s L d) (Fo : M53.Form S h s L d) (hq : PartsAt K H q h' s' L' d') (Fo' : M53.Form S' h' s' L' d') :
    EvP (tF (spJParts K) t) σ H fun x H2 => JAt K H2 (fun w => ruleF r (S w) (S' w)) x := fun H1 e Q k => ht H1 e _ fun H2 e2 =>
  ⟨p, q, r, h, s, L, d, S, h', s', L', d', S', rfl, hp.ext (e.trans e2), Fo, hq.ext (e.trans e2), Fo', fun t hp s2 L2 dp H3 e3 h3 hj => k _ H3 (e2.trans e3) ⟨t, hp, s2, L2, dp, rfl, h3, hj⟩⟩
theorem ruleF_tail {S S' : Nat → Bool} (T : M53.Tail S) (T' : M53.Tail S') (r : Str) : M53.Tail fun w => ruleF r (S w) (S' w) := T.op T' (ruleF r)
theorem k_joined_sets (c_joined_parts : Cl P w K mg base 3 "joined_parts" (spJParts K)) (c_formed : Cl P w K mg base 4 "formed" (spFormed K C)) (F : Fn K mg "joined_sets" s_joined_sets ["one", "other", "rule"]) : Cl P w K mg base 5 "joined_sets" (spJSets K C) := by
  refine F.cl sc_joined_sets (fun vs H Q E h => ?_) (fun f cdv A outer s H vs Q E hr h => ?_)
  · obtain ⟨p, q, r, h, s, L, d, S, h', s', L', d', S', rfl, _⟩ := h
    rfl
  · obtain ⟨p, q, r, h, s, L, d, S, h', s', L', d', S', rfl, hp, Fo, hq, Fo', k⟩ := h
    refine ⟨_, (pss_cons (ps_asg (pc c_joined_parts hr (by decide) rfl (pa_cons (pv 0) (pa_cons (pv 1) (pa_cons (pv 2) pa_nil)))) (k_pgt (K := K) (n := 4) rfl rfl (pgs_cons (pg_name (i := 3) sc_joined_sets.nd rfl (Or.inl rfl)) (pgs_cons (pg_name (i := 4) sc_joined_sets.nd rfl (Or.inl rfl)) (pgs_cons (pg_name (i := 5) sc_joined_sets.nd rfl (Or.inl rfl)) (pgs_cons (pg_name (i := 6) sc_joined_sets.nd rfl (Or.inl rfl)) pgs_nil))))))
      (pss_one (ps_ret (pc c_formed hr (by decide) rfl (pa_cons (pv 3) (pa_cons (pv 4) (pa_cons (pv 5) (pa_cons (pv 6) pa_nil)))))))), ?_⟩
    refine q_asgG (ep_jparts (ea_cons (ev_var rfl) (ea_cons (ev_var rfl) (ea_cons (ev_var rfl) ea_nil))) hp Fo hq Fo') fun x H1 e1 hx => ?_
    obtain ⟨t, hp2, s2, L2, dp, rfl, ht, xs, ds, j1, j2, j3, j4, j5, j6, j7, j8, j9, j10⟩ := hx
    refine ⟨t, _, rfl, ht, rfl, _, _, rfl, _, _, rfl, _, _, rfl, _, _, rfl, rfl, ?_⟩
    refine s_retP (R := fun v H2 => ∃ a, v = .ref a ∧ WAt K C H2 a (fun w => ruleF r (S w) (S' w))) (ep_tF (EvA.pa (R := fun ws _ => ws = [.ref hp2, nv s2, nv L2, .ref dp]) (ea_cons (ev_var rfl) (ea_cons (ev_var rfl) (ea_cons (ev_var rfl) (ea_cons (ev_var rfl) ea_nil)))) fun _ _ => rfl) fun ws H2 e2 hw Q' q' => ?_) fun v H2 e2 hv => ?_
    · subst hw
      refine ⟨hp2, dp, xs, ds, s2, L2, fun w => ruleF r (S w) (S' w), rfl, .inl (ex_l e2 j1), .inl (ex_l e2 j2), j3, j4, by omega, by omega, fun x hx => let z := (j8 x).mp hx; ⟨z.1, z.2.1⟩, fun w h1 h2 => ?_, j10, ruleF_tail Fo.toTail Fo'.toTail r, fun a H3 e3 hW => q' _ H3 e3 ⟨a, rfl, hW⟩⟩
      rw [Bool.eq_iff_iff, decide_eq_true_iff, j8]
      exact ⟨fun z => ⟨h1, h2, z⟩, fun z => z.2.2⟩
    · obtain ⟨a, rfl, hW⟩ := hv
      exact k a H2 (e1.trans e2) hW
theorem k_is_nothing (T : Txt K mg C) (c_joined_parts : Cl P w K mg base 3 "joined_parts" (spJParts K)) (F : Fn K mg "is_nothing" s_is_nothing ["one", "other", "rule"]) : Cl P w K mg base 4 "is_nothing" (spNothing K) := by
  refine F.cl sc_is_nothing (fun vs H Q E h => ?_) (fun f cdv A outer s H vs Q E hr h => ?_)
  · obtain ⟨p, q, r, h, s, L, d, S, h', s', L', d', S', rfl, _⟩ := h
    rfl
  · obtain ⟨p, q, r, h, s, L, d, S, h', s', L', d', S', rfl, hp, Fo, hq, Fo', k⟩ := h
    refine ⟨_, (pss_cons (ps_asg (pc c_joined_parts hr (by decide) rfl (pa_cons (pv 0) (pa_cons (pv 1) (pa_cons (pv 2) pa_nil)))) (k_pgt (K := K) (n := 4) rfl rfl (pgs_cons (pg_name (i := 3) sc_is_nothing.nd rfl (Or.inl rfl)) (pgs_cons (pg_name (i := 4) sc_is_nothing.nd rfl (Or.inl rfl)) (pgs_cons (pg_name (i := 5) sc_is_nothing.nd rfl (Or.inl rfl)) (pgs_cons (pg_name (i := 6) sc_is_nothing.nd rfl (Or.inl rfl)) pgs_nil))))))
      (pss_one (ps_ret (pe_and (pe_cmpR op_eq (pe_callB (k_len (K := K) rfl) (by rfl) T.len bt_len (pa_cons (pv 3) pa_nil)) pe_int (nomark _)) (pe_one (pe_cmpR op_eq (pe_callB (k_len (K := K) rfl) (by rfl) T.len bt_len (pa_cons (pv 6) pa_nil)) pe_int (nomark _))))))), ?_⟩
    refine q_asgG (ep_jparts (ea_cons (ev_var rfl) (ea_cons (ev_var rfl) (ea_cons (ev_var rfl) ea_nil))) hp Fo hq Fo') fun x H1 e1 hx => ?_
    obtain ⟨t, hp2, s2, L2, dp, rfl, ht, xs, ds, j1, j2, j3, j4, j5, j6, j7, j8, j9, j10⟩ := hx
    refine ⟨t, _, rfl, ht, rfl, _, _, rfl, _, _, rfl, _, _, rfl, _, _, rfl, rfl, ?_⟩
    have j10 : ∀ w, s2 ≤ w → ruleF r (S w) (S' w) = decide (Nat.gcd w L2 ∈ ds) := j10
    have j8 : ∀ x, x ∈ xs ↔ 1 ≤ x ∧ x < s2 ∧ ruleF r (S x) (S' x) = true := j8
    have k := k (decide (xs.length = 0) && decide (ds.length = 0)) (by
      rw [Bool.and_eq_true, decide_eq_true_iff, decide_eq_true_iff, List.length_eq_zero_iff, List.length_eq_zero_iff]
      constructor
      · rintro ⟨rfl, rfl⟩ w w1 _
        by_cases q : w < s2
        · cases hb : ruleF r (S w) (S' w) with
          | false => rfl
          | true => exact absurd ((j8 w).mpr ⟨w1, q, hb⟩) List.not_mem_nil
        · rw [j10 w (by omega)]
          exact decide_eq_false List.not_mem_nil
      · intro z
        refine ⟨List.eq_nil_iff_forall_not_mem.mpr fun x hx => ?_, List.eq_nil_iff_forall_not_mem.mpr fun g hg => ?_⟩
        · obtain ⟨a, b, c⟩ := (j8 x).mp hx
          have := z x a (by omega)
          rw [c] at this
          cases this
        · have gL := j9 g hg
          have g0 := Nat.pos_of_dvd_of_pos gL (M53.pos120 j3)
          have g120 := M53.le120 (Nat.dvd_trans gL j3)
          have e := j10 (g + 120 * 5) (by omega)
          rw [M53.gcd_add_mul 5 j3, Nat.gcd_eq_left gL, decide_eq_true hg] at e
          have := z (g + 120 * 5) (by omega) (by omega)
          rw [e] at this
          cases this)
    refine s_ret (ev_andV (ev_op (ev_is (ev_len (ev_var rfl) j1) ?_) ev_c (rv_eqN (j := 0))) fun _ => ev_op (ev_is (ev_len (ev_var rfl) j2) ?_) ev_c (rv_eqN (j := 0))) fun H2 e2 => k _ (e1.trans e2)
    · rw [List.length_map] <;> rfl
    · rw [List.length_map] <;> rfl
end
end K53
namespace K53
open PySem PySem.Spec PyProof.Rows L2 Evl
/-! ### data -/
def dI (xs : List Nat) : List PyData := xs.map fun n : Nat => .int (n : Int)
theorem dI_lay : ∀ xs : List Nat, PyData.canLayAll0 (dI xs) = true
  | [] => by simp [dI, PyData.canLayAll0]
  | x :: xs => by
    have := dI_lay xs
    show PyData.canLayAll0 (PyData.int x :: dI xs) = true
    simp [PyData.canLayAll0, PyData.canLay0, this]
theorem dI_depth : ∀ xs : List Nat, PyData.depthAll (dI xs) ≤ 1
  | [] => by simp [dI, PyData.depthAll]
  | x :: xs => by
    have := dI_depth xs
    show PyData.depthAll (PyData.int x :: dI xs) ≤ 1
    simp [PyData.depthAll, PyData.depth, this]
theorem dI_dp {K : PySem.W.Frag} {H : Hp} : ∀ xs : List Nat, DpAll K H (nvs xs) (dI xs)
  | [] => .nil
  | x :: xs => .cons (.int _) (dI_dp xs)
def dP (h : List Nat) (s L : Nat) (d : List Nat) : PyData := .tuple [.tuple (dI h), .int s, .int L, .tuple (dI d)]
theorem dP_shaped (h : List Nat) (s L : Nat) (d : List Nat) : SeqAt.shaped (dP h s L d) = true := by
  have a := dI_depth h
  have b := dI_depth d
  unfold SeqAt.shaped dP
  simp only [PyData.canLay0, PyData.canLayAll0, dI_lay, PyData.depth, PyData.depthAll, Bool.true_and, Bool.and_true, decide_eq_true_iff]
  refine decide_eq_true ?_
  omega
theorem dP_at {K : PySem.W.Frag} {H : Hp} {p : Addr} {h : List Nat} {s L : Nat} {d : List Nat} (w : PartsAt K H p h s L d) : Dp K H (.ref p) (dP h s L d) := by
  obtain ⟨hp, dp, a, b, c⟩ := w
  exact .tup a (.cons (.tup b (dI_dp h)) (.cons (.int _) (.cons (.int _) (.cons (.tup c (dI_dp d)) .nil))))
theorem rv_eqP {K : PySem.W.Frag} {H : Hp} {p q : Addr} {h : List Nat} {s L : Nat} {d : List Nat} (w : PartsAt K H p h s L d) (w' : PartsAt K H q h s L d) : RV (rEqD K) (.ref p) (.ref q) H (.bl true) := fun H1 e Q k => by
  refine ⟨_, _, dP_at (w.ext e), dP_at (w'.ext e), dP_shaped h s L d, dP_shaped h s L d, ?_⟩
  rw [PySem.SeqAt.eqv_refl _ (SeqAt.canLay_of_shaped (dP_shaped h s L d))]
  exact k H1 (Ex.refl H1)
section
variable {K : PySem.W.Frag} {σ : L2.St} {H H' : Hp} {ta tb tc td te tl tl1 ty tv : TE} {t : TA} {tt : TT} {x y z v : V} {g : TG} {vs : List Nat} {tu tw tz : TS} {D : Ends} {a b : Addr} {C : Addr} {h d : List Nat} {s L : Nat}
theorem EvP.ev (h : EvP te σ H fun v _ => v = x) : Ev te σ H x := fun H1 e Q q => h H1 e Q fun v H2 e2 hv => by subst hv; exact q H2 e2
theorem ep_descr (ht : Ev ta σ H (.ref a)) (W : WFm K C H a h s L d) : EvP (tM C "described" (spDescr K C) ta tNil) σ H fun v H2 => ∃ p, v = .ref p ∧ PartsAt K H2 p h s L d := fun H1 e Q q => ht H1 e _ fun H2 e2 => by
  have W2 := W.ext (e.trans e2)
  obtain ⟨dx, hp, dp, h1, h2, h3⟩ := W2.ex
  exact ⟨a, dx, _, rfl, h1, wf_no hp s L dp (by decide) (by decide) (by decide) (by decide), a, h, s, L, d, rfl, W2, fun p H3 e3 hP => q _ H3 (e2.trans e3) ⟨p, rfl, hP⟩⟩
theorem ev_isC (h : EvA t σ H [.ref a, .ref C]) (W : WFm K C H a hd' s L d) : Ev (tCB (fun xs H Q => ∃ a dx fs, xs = [.ref a, .ref C] ∧ H a = some (.ins C dx fs) ∧ Q (.bl true) H) t) σ H (.bl true) := fun H1 e Q q => h H1 e _ fun H2 e2 => by
  obtain ⟨dx, hp, dp, h1, h2, h3⟩ := W.ex
  exact ⟨a, dx, _, rfl, e2 _ _ (e _ _ h1), q H2 e2⟩
theorem q_dropP {R : V → Hp → Prop} (h : EvP te σ H R) (k : ∀ v H1, Ex H H1 → R v H1 → tz D σ H1) : tSeq (tDrop te) tz D σ H := h H (Ex.refl H) _ k
theorem epa_mono {R : List V → Hp → Prop} (e : Ex H H') (h : EvPA t σ H R) : EvPA t σ H' R := fun H1 a Q q => h H1 (e.trans a) Q q
/-- a new tuple of values -/
theorem ep_tupV {ws : List V} (h : EvA t σ H ws) (hl : ws.length ≤ 100000) : EvP (tTup t) σ H fun v H2 => ∃ p, v = .ref p ∧ H2 p = some (.tup ws) := fun H1 e Q q => eu_tup h hl H1 e Q fun p H2 _ e2 h2 => q _ H2 e2 ⟨p, rfl, h2⟩
theorem EvU.p {xs : List V} (h : EvU te σ H xs) : EvP te σ H (fun v H2 => ∃ p, v = .ref p ∧ H2 p = some (.tup xs)) := fun H1 e Q q => h H1 e Q fun p H2 hp e2 h2 => q _ H2 e2 ⟨p, rfl, h2⟩
theorem RetW.of {S : Nat → Bool} {R : V → Hp → Prop} {D : Ends} (h : EvP te σ H R) (r : ∀ v H2, Ex H H2 → R v H2 → ∃ a, v = .ref a ∧ WAt K C H2 a S) (k : ∀ a H2, Ex H H2 → WAt K C H2 a S → D.rt (.ref a) H2) : tRet te D σ H := s_retP h fun v H1 e hr => by
  obtain ⟨a, rfl, w⟩ := r v H1 e hr
  exact k a H1 e w
/-- Widths((..), s, L, (..)) with the tuples made on the way -/
theorem epa_make {t1 t4 : TA} {t2 t3 : TE} (h1 : EvA t1 σ H (nvs h)) (h2 : Ev t2 σ H (nv s)) (h3 : Ev t3 σ H (nv L)) (h4 : EvA t4 σ H (nvs d)) (l1 : h.length ≤ 100) (l4 : d.length ≤ 100) :
    EvPA (tCons (tTup t1) (tCons t2 (tCons t3 (tCons (tTup t4) tNil)))) σ H fun ws H2 => ∃ hp dp, ws = [.ref hp, nv s, nv L, .ref dp] ∧ SqT K H2 hp (nvs h) ∧ SqT K H2 dp (nvs d) := fun H1 e Q q =>
  eu_tup h1 (by rw [List.length_map]; omega) H1 e _ fun hp H2 _ e2 hh => h2 H2 (e.trans e2) _ fun H3 e3 => h3 H3 ((e.trans e2).trans e3) _ fun H4 e4 => eu_tup h4 (by rw [List.length_map]; omega) H4 (((e.trans e2).trans e3).trans e4) _ fun dp H5 _ e5 hd =>
    q _ H5 (((e2.trans e3).trans e4).trans e5) ⟨hp, dp, rfl, st_of (e5 _ _ (e4 _ _ (e3 _ _ hh))), st_of hd⟩
theorem ep_first {p : Addr} {xs : List Nat} {lo hi : Int} (h : EvPA t σ H fun ws H2 => ∃ p, ws = [.ref p, .int lo, .int hi] ∧ SqA K H2 p (nvs xs)) (hx : ∀ x ∈ xs, lo ≤ (x : Int) ∧ (x : Int) ≤ hi) : EvP (tF (spFirst K) t) σ H fun _ _ => True := fun H1 e Q q => h H1 e _ fun ws H2 e2 hw => by
  obtain ⟨p, rfl, hp⟩ := hw
  exact ⟨p, xs, lo, hi, rfl, hp, hx, fun H3 e3 => q _ H3 (e2.trans e3) True.intro⟩
theorem epa_L {t2 : TA} {xs ws : List V} (h : EvL te σ H xs) (h2 : EvA t2 σ H ws) : EvPA (tCons te t2) σ H fun vs H2 => ∃ p, vs = .ref p :: ws ∧ H2 p = some (.lst xs) := fun H1 e Q q => h H1 e _ fun p H2 _ e2 hp => h2 H2 (e.trans e2) _ fun H3 e3 => q _ H3 (e2.trans e3) ⟨p, rfl, e3 _ _ hp⟩
end
/-! ### the promises -/
def spOf (K : PySem.W.Frag) (C : Addr) : Sp := fun vs H Q _ => ∃ a b c : Nat, vs = [nv a, nv b, nv c] ∧ M53.Tr.Ok (.of a b c) ∧ RetW K C (M53.Tr.mem (.of a b c)) H Q
def spFrm (K : PySem.W.Frag) (C : Addr) : Sp := fun vs H Q _ => ∃ n : Nat, vs = [nv n] ∧ M53.Tr.Ok (.frm n) ∧ RetW K C (M53.Tr.mem (.frm n)) H Q
def spMul (K : PySem.W.Frag) (C : Addr) : Sp := fun vs H Q _ => ∃ k : Nat, vs = [nv k] ∧ M53.Tr.Ok (.mul k) ∧ RetW K C (M53.Tr.mem (.mul k)) H Q
def spDvd (K : PySem.W.Frag) (C : Addr) : Sp := fun vs H Q _ => ∃ q : Nat, vs = [nv q] ∧ M53.Tr.Ok (.dvd q) ∧ RetW K C (M53.Tr.mem (.dvd q)) H Q
def spTold (K : PySem.W.Frag) (C : Addr) : Sp := fun vs H Q _ => ∃ (hp dp : Addr) (xs ds : List Nat) (s L : Nat) (S : Nat → Bool), vs = [.ref hp, nv s, nv L, .ref dp] ∧ SqL K H hp (nvs xs) ∧ SqL K H dp (nvs ds) ∧ L ∣ 120 ∧ 1 ≤ s ∧ s ≤ 1000 ∧ xs.length ≤ 2000 ∧
  (∀ x ∈ xs, 1 ≤ x ∧ x < s) ∧ (∀ g ∈ ds, g ∣ L) ∧ (∀ w, 1 ≤ w → w < s → S w = decide (w ∈ xs)) ∧ (∀ w, s ≤ w → S w = decide (Nat.gcd w L ∈ ds)) ∧ M53.Tail S ∧ RetW K C S H Q
def spCont (K : PySem.W.Frag) (C : Addr) : Sp := fun vs H Q _ => ∃ (a : Addr) (w : Nat) (S : Nat → Bool), vs = [.ref a, nv w] ∧ 1 ≤ w ∧ WAt K C H a S ∧ RetV (.bl (S w)) H Q
def spBin (K : PySem.W.Frag) (C : Addr) (r : Str) : Sp := fun vs H Q _ => ∃ (a b : Addr) (S S' : Nat → Bool), vs = [.ref a, .ref b] ∧ WAt K C H a S ∧ WAt K C H b S' ∧ RetW K C (fun w => ruleF r (S w) (S' w)) H Q
def spInv (K : PySem.W.Frag) (C : Addr) : Sp := fun vs H Q _ => ∃ (a : Addr) (S : Nat → Bool), vs = [.ref a] ∧ WAt K C H a S ∧ RetW K C (fun w => !S w) H Q
def spLe (K : PySem.W.Frag) (C : Addr) : Sp := fun vs H Q _ => ∃ (a b : Addr) (S S' : Nat → Bool), vs = [.ref a, .ref b] ∧ WAt K C H a S ∧ WAt K C H b S' ∧ ∀ b' : Bool, (b' = true ↔ ∀ w, 1 ≤ w → w ≤ 840 → (S w && !S' w) = false) → RetV (.bl b') H Q
def spEq (K : PySem.W.Frag) (C : Addr) : Sp := fun vs H Q _ => ∃ (a b : Addr) (S S' : Nat → Bool), vs = [.ref a, .ref b] ∧ WAt K C H a S ∧ WAt K C H b S' ∧ (∀ w, 1 ≤ w → S w = S' w) ∧ RetV (.bl true) H Q
def spUp (K : PySem.W.Frag) (C : Addr) : Sp := fun vs H Q _ => ∃ (a : Addr) (n : Nat) (S : Nat → Bool), vs = [.ref a, nv n] ∧ WAt K C H a S ∧ RetV (nv (M53.cnt S n)) H Q
theorem ruleF_both (a b : Bool) : ruleF "both" a b = (a && b) := by unfold ruleF; rw [if_pos rfl]
theorem ruleF_either (a b : Bool) : ruleF "either" a b = (a || b) := by unfold ruleF; rw [if_neg (by decide), if_pos rfl]
theorem ruleF_first (a b : Bool) : ruleF "first" a b = (a && !b) := by unfold ruleF; rw [if_neg (by decide), if_neg (by decide), if_pos rfl]
theorem ruleF_one (a b : Bool) : ruleF "one" a b = (a != b) := by unfold ruleF; rw [if_neg (by decide), if_neg (by decide), if_neg (by decide)]
/-- a def with *args -/
structure Fss (K : PySem.W.Frag) (C : Addr) (m qual : Str) (st : Stmt) (pv : Str) : Prop where
  ex : ∃ (mc : Value) (f p : Addr) (fd : FuncData) (rest : List Value), Fun K m qual st f fd ∧ ClX.CRead K C mc ∧ PySem.W.findCls K (.ref C) mc m = some (.get (.builtin "staticmethod.__get__") (.ref p) .none (.ref C)) ∧
    PySem.W.recIn K p "staticmethod" = some (.ref f :: rest)
  hb : ∀ (kV doc pm : Value) (an : Option Addr) (cdv ct : Value) (rest : List Value), bindArgs (PySem.W.fnOf m qual (defArgs st) (defBody st) (defScope st) .none kV doc pm an cdv ct) ⟨rest, []⟩ = (newTuple rest >>= fun t => pure [(pv, t)])
section
variable {P : Program} {w : World} {K : PySem.W.Frag} {mg : Str → Option Value} {base : Heap} {k : Nat} {x m qual : Str} {C : Addr} {st : Stmt} {N ps : List Str} {sp sp' : Sp} {pv : Str}
theorem Fss.sm (F : Fss K C m qual st pv) (S : FnScope N [pv] (defScope st)) (B : Body P w K mg base k qual st N sp) (h : ∀ vs H Q E, sp' vs H Q E → vs.length ≤ sizeLine ∧ ∀ p, H p = none → sp [.ref p] (upd H p (.tup vs)) Q E) : Sm P w K mg base (k + 1) C m sp' := by
  obtain ⟨mc, f, p, fd, rest, F0, r, a, b⟩ := F.ex
  obtain ⟨oc, od, kV, doc, pm, an, cdv, ct, osl, rfl, lk, hcd⟩ := F0.ex
  have R := StX.fn_star (P := P) (w := w) (mg := mg) (base := base) (CX := CX0) (k := k) (sp := sp) (ps := []) (pv := pv) (N := N) lk hcd S StX.cxUp_none (fun us rest' hl => by
    have : us = [] := List.eq_nil_of_length_eq_zero hl
    subst this
    exact F.hb kV doc pm an cdv ct rest') fun A outer s H vs Q E hr hsp => by
      obtain ⟨t, ht, q⟩ := B f cdv A outer s H vs Q E hr hsp
      exact ⟨t, ht.nox, q⟩
  exact ⟨mc, f, p, rest, R.imp fun vs H Q E hq => ⟨[], vs, rfl, rfl, (h vs H Q E hq).1, (h vs H Q E hq).2⟩, r, a, b, F0.kp⟩
end
section
variable {P : Program} {w : World} {K : PySem.W.Frag} {mg : Str → Option Value} {base : Heap} {C : Addr}
def spOfB (K : PySem.W.Frag) (C : Addr) : Sp := fun vs H Q _ => ∃ (p : Addr) (a b c : Nat), vs = [.ref p] ∧ H p = some (.tup [nv a, nv b, nv c]) ∧ M53.Tr.Ok (.of a b c) ∧ RetW K C (M53.Tr.mem (.of a b c)) H Q
theorem k_of (T : Txt K mg C) (c_first_out_of : Cl P w K mg base 3 "first_out_of" (spFirst K)) (c_greater : Cl P w K mg base 1 "greater" spGreater) (c_formed : Cl P w K mg base 4 "formed" (spFormed K C)) (F : Fss K C "of" "Widths.of" s_w_of "widths") : Sm P w K mg base 5 C "of" (spOf K C) := by
  refine F.sm (sp := spOfB K C) sc_w_of (fun f cdv A outer s H vs Q E hr h => ?_) fun vs H Q E h => ?_
  · obtain ⟨p, a, b, c, rfl, hp, ok, k⟩ := h
    obtain ⟨⟨a1, a2⟩, ⟨b1, b2⟩, c1, c2⟩ := id ok
    refine ⟨_, (pss_cons (ps_expr (pc c_first_out_of hr (by decide) rfl (pa_cons (pv 0) (pa_cons pe_int (pa_cons (pkc rfl T.MOST_WIDTH) pa_nil)))))
      (pss_cons (ps_set (i := 1) sc_w_of.nd rfl (Or.inl rfl) pe_int)
      (pss_cons (ps_for PassesOwn.never rfl (k_pit (K := K) rfl (pv 0)) (pg_name (i := 2) sc_w_of.nd rfl (Or.inl rfl))
        (pss_one (ps_set (i := 1) sc_w_of.nd rfl (Or.inl rfl) (pc c_greater hr (by decide) rfl (pa_cons (pv 2) (pa_cons (pv 1) pa_nil))))))
      (pss_one (ps_ret (pc c_formed hr (by decide) rfl (pa_cons (pv 0) (pa_cons (pe_op op_add (pv 1) pe_int) (pa_cons pe_int (pa_cons (pe_tup pa_nil) pa_nil)))))))))), ?_⟩
    have hpT : SqT K H p (nvs [a, b, c]) := st_of hp
    refine q_dropP (ep_first (K := K) (p := p) (xs := [a, b, c]) (lo := 1) (hi := 1000) (EvA.pa (ea_cons (ev_var rfl) (ea_cons ev_c (ea_cons ev_c ea_nil))) fun H2 e => ⟨p, rfl, .inr (ex_t e hpT)⟩) fun x hx => by
      simp only [List.mem_cons, List.not_mem_nil, or_false] at hx
      omega) fun _ H1 e1 _ => ?_
    refine q_asg ev_c fun H2 e2 => ?_
    refine q_forT (ev_var rfl) (ex_t (e1.trans e2) hpT) (fun i σ H' => ∃ (m : Nat) (o : Option V), σ = [some (.ref p), some (nv m), o] ∧ Ex H H' ∧ m ≤ 600 ∧ (∀ x ∈ [a, b, c].take i, x ≤ m) ∧ (m = 0 ∨ m ∈ [a, b, c]))
      (fun H3 e3 => ⟨0, _, rfl, (e1.trans e2).trans e3, by omega, fun x hx => by simp at hx, .inl rfl⟩) (fun i σ' H' hi q => let ⟨_, _, _, e, _⟩ := q; ex_t e hpT) (fun i x σ' H' hi q => ?_) (fun σ' H' q => ?_)
    · obtain ⟨m, o, rfl, e3, m600, hm, _⟩ := q
      obtain ⟨ex, hil, hmem⟩ := getD_of hi
      have hx0 : ([a, b, c] : List Nat)[i]? = some (([a, b, c] : List Nat).getD i 0) := by rw [List.getD_eq_getElem?_getD, List.getElem?_eq_getElem hil] <;> rfl
      generalize ([a, b, c] : List Nat).getD i 0 = x0 at ex hx0 hmem
      subst ex
      have x600 : x0 ≤ 600 := by
        simp only [List.mem_cons, List.not_mem_nil, or_false] at hmem
        omega
      have et : ([a, b, c] : List Nat).take (i + 1) = ([a, b, c] : List Nat).take i ++ [x0] := by rw [List.take_add_one, hx0] <;> rfl
      refine s_asg (v := nv (if m < x0 then x0 else m)) (ev_is (ev_tF (ea_cons (ev_var rfl) (ea_cons (ev_var rfl) ea_nil)) spv_greater) ?_) fun H4 e4 => ⟨_, _, rfl, e3.trans e4, by split <;> omega, fun x hx => ?_, ?_⟩
      · by_cases z : m < x0
        · rw [if_pos z, if_pos (by omega)]
          rfl
        · rw [if_neg z, if_neg (by omega)]
          rfl
      · rw [et] at hx
        rcases List.mem_append.mp hx with hx | hx
        · have := hm x hx
          split <;> omega
        · have : x = x0 := by simpa using hx
          split <;> omega
      · rename_i hmm
        split
        · exact .inr hmem
        · exact hmm
    · obtain ⟨m, o, rfl, e3, m600, hm, hmm⟩ := q
      have hm3 : ∀ x ∈ [a, b, c], x ≤ m := hm
      refine RetW.of (K := K) (C := C) (S := M53.Tr.mem (.of a b c)) (R := fun v H2 => ∃ a', v = .ref a' ∧ WAt K C H2 a' (M53.Tr.mem (.of a b c))) (ep_tF (R := fun ws H2 => ∃ dp, ws = [.ref p, nv (m + 1), nv 1, .ref dp] ∧ SqT K H2 dp (nvs [])) (fun H1 e Q q => ?_) fun ws H2 e2 hw Q' q' => ?_) (fun v H2 _ h => h) fun a' H2 e2 hw => k a' H2 (e3.trans e2) hw
      · refine ev_var (v := .ref p) rfl H1 e _ fun H2 e2 => ev_op (ev_var rfl) ev_c (rv_addN (i := m) (j := 1)) H2 (e.trans e2) _ fun H3 e3 => ev_c H3 ((e.trans e2).trans e3) _ fun H4 e4 => eu_tup ea_nil (by simp) H4 (((e.trans e2).trans e3).trans e4) _ fun dp H5 _ e5 h5 => ?_
        exact q _ H5 (((e2.trans e3).trans e4).trans e5) ⟨dp, rfl, st_of h5⟩
      · obtain ⟨dp, rfl, hdp⟩ := hw
        refine ⟨p, dp, [a, b, c], [], m + 1, 1, M53.Tr.mem (.of a b c), rfl, .inr (ex_t (e3.trans e2) hpT), .inr hdp, by decide, by omega, by omega, by simp, fun x hx => ?_, fun w _ _ => rfl, fun w hw => ?_, M53.Tr.tail ok, fun a' H3 e3 hW => q' _ H3 e3 ⟨a', rfl, hW⟩⟩
        · have := hm3 x hx
          simp only [List.mem_cons, List.not_mem_nil, or_false] at hx
          omega
        · show decide (w ∈ [a, b, c]) = decide _
          rw [decide_eq_false List.not_mem_nil, decide_eq_false]
          intro hx
          have := hm3 w hx
          omega
  · obtain ⟨a, b, c, rfl, ok, k⟩ := h
    exact ⟨sz_of (by simp), fun p hp => ⟨p, a, b, c, rfl, upd_same, ok, fun a' H2 e hw => k a' H2 ((Ex.new hp).trans e) hw⟩⟩
end
end K53
namespace K53
open PySem PySem.Spec PyProof.Rows L2 Evl
theorem EvPA.imp {t : TA} {σ : L2.St} {H : Hp} {R R' : List V → Hp → Prop} (h : EvPA t σ H R) (r : ∀ v H2, Ex H H2 → R v H2 → R' v H2) : EvPA t σ H R' := fun H1 e Q q => h H1 e Q fun v H2 e2 hr => q v H2 e2 (r v H2 (e.trans e2) hr)
section
variable {K : PySem.W.Frag} {σ : L2.St} {H H' : Hp} {ta tb tc td te tl tl1 ty tv : TE} {t : TA} {C a b : Addr} {S S' : Nat → Bool} {r : Str}
theorem ep_jsets {p q : Addr} {h d h' d' : List Nat} {s L s' L' : Nat} (hw : EvPA t σ H fun ws H2 => ∃ p q, ws = [.ref p, .ref q, .str r] ∧ PartsAt K H2 p h s L d ∧ PartsAt K H2 q h' s' L' d') (Fo : M53.Form S h s L d) (Fo' : M53.Form S' h' s' L' d') :
    EvP (tF (spJSets K C) t) σ H fun v H2 => ∃ a, v = .ref a ∧ WAt K C H2 a fun w => ruleF r (S w) (S' w) := fun H1 e Q k => hw H1 e _ fun ws H2 e2 hr => by
  obtain ⟨p, q, rfl, hp, hq⟩ := hr
  exact ⟨p, q, r, h, s, L, d, S, h', s', L', d', S', rfl, hp, Fo, hq, Fo', fun a H3 e3 hW => k _ H3 (e2.trans e3) ⟨a, rfl, hW⟩⟩
theorem ep_noth {p q : Addr} {h d h' d' : List Nat} {s L s' L' : Nat} (hw : EvPA t σ H fun ws H2 => ∃ p q, ws = [.ref p, .ref q, .str r] ∧ PartsAt K H2 p h s L d ∧ PartsAt K H2 q h' s' L' d') (Fo : M53.Form S h s L d) (Fo' : M53.Form S' h' s' L' d') :
    EvP (tF (spNothing K) t) σ H fun v _ => ∃ b : Bool, v = .bl b ∧ (b = true ↔ ∀ w, 1 ≤ w → w ≤ 840 → ruleF r (S w) (S' w) = false) := fun H1 e Q k => hw H1 e _ fun ws H2 e2 hr => by
  obtain ⟨p, q, rfl, hp, hq⟩ := hr
  exact ⟨p, q, r, h, s, L, d, S, h', s', L', d', S', rfl, hp, Fo, hq, Fo', fun b hb H3 e3 => k _ H3 (e2.trans e3) ⟨b, rfl, hb⟩⟩
/-- self.described(), other.described(), 'rule' -/
theorem epa_two {h d h' d' : List Nat} {s L s' L' : Nat} (ha : Ev ta σ H (.ref a)) (W : WFm K C H a h s L d) (hb : Ev tb σ H (.ref b)) (W' : WFm K C H b h' s' L' d') :
    EvPA (tCons (tM C "described" (spDescr K C) ta tNil) (tCons (tM C "described" (spDescr K C) tb tNil) (tCons (tC (.str r)) tNil))) σ H fun ws H2 => ∃ p q, ws = [.ref p, .ref q, .str r] ∧ PartsAt K H2 p h s L d ∧ PartsAt K H2 q h' s' L' d' := fun H1 e Q k =>
  ep_descr ha W H1 e _ fun v H2 e2 hv => by
    obtain ⟨p, rfl, hp⟩ := hv
    exact ep_descr hb W' H2 (e.trans e2) _ fun v H3 e3 hv' => by
      obtain ⟨q, rfl, hq⟩ := hv'
      exact k _ H3 (e2.trans e3) ⟨p, q, rfl, hp.ext e3, hq⟩
end
theorem ClassesAt.ext {K : PySem.W.Frag} {H H' : Hp} {p : Addr} {L : Nat} {d : List Nat} (c : ClassesAt K H p L d) (e : Ex H H') : ClassesAt K H' p L d :=
  let ⟨xs, a, b, f⟩ := c
  ⟨xs, ex_l e a, b, fun i x g hx hg => let ⟨t, l, h1, h2, h3⟩ := f i x g hx hg; ⟨t, l, h1, ex_t e h2, ex_l e h3⟩⟩
section
variable {K : PySem.W.Frag} {σ : L2.St} {H : Hp} {ta tb : TE} {t : TA} {x c : V}
theorem epa_V {R : List V → Hp → Prop} (h : Ev ta σ H x) (h2 : EvPA t σ H R) : EvPA (tCons ta t) σ H fun ws H2 => ∃ vs, ws = x :: vs ∧ R vs H2 := fun H1 e Q q => h H1 e _ fun H2 e2 => h2 H2 (e.trans e2) _ fun vs H3 e3 hr => q _ H3 (e2.trans e3) ⟨vs, rfl, hr⟩
theorem epa_P1 {R : V → Hp → Prop} {ws : List V} (h : EvP ta σ H R) (h2 : EvA t σ H ws) (mono : ∀ v H1 H2, Ex H1 H2 → R v H1 → R v H2) : EvPA (tCons ta t) σ H fun vs H2 => ∃ x, vs = x :: ws ∧ R x H2 := fun H1 e Q q => h H1 e _ fun v H2 e2 hr => h2 H2 (e.trans e2) _ fun H3 e3 => q _ H3 (e2.trans e3) ⟨v, rfl, mono v H2 H3 e3 hr⟩
theorem epa_2 {R1 R2 : V → Hp → Prop} (h1 : EvP ta σ H R1) (h2 : EvP tb σ H R2) (mono : ∀ v H1 H2, Ex H1 H2 → R1 v H1 → R1 v H2) : EvPA (tCons ta (tCons tb (tCons (tC c) tNil))) σ H fun ws H2 => ∃ x y, ws = [x, y, c] ∧ R1 x H2 ∧ R2 y H2 := fun H1 e Q q =>
  h1 H1 e _ fun v H2 e2 r1 => h2 H2 (e.trans e2) _ fun y H3 e3 r2 => q _ H3 (e2.trans e3) ⟨v, y, rfl, mono v H2 H3 e3 r1, r2⟩
theorem ep_classes {L : Nat} {dp : Addr} {d : List Nat} (h : EvA t σ H [nv L, .ref dp]) (hL : L ∣ 120) (hd : SqT K H dp (nvs d)) (dL : ∀ g ∈ d, g ∣ L) (dl : d.length ≤ 16) : EvP (tF (spClasses K) t) σ H fun v H2 => ∃ p, v = .ref p ∧ ClassesAt K H2 p L d := fun H1 e Q q => h H1 e _ fun H2 e2 =>
  ⟨L, dp, d, rfl, hL, ex_t (e.trans e2) hd, dL, dl, fun p H3 e3 hc => q _ H3 (e2.trans e3) ⟨p, rfl, hc⟩⟩
end
section
variable {P : Program} {w : World} {K : PySem.W.Frag} {mg : Str → Option Value} {base : Heap} {C : Addr}
theorem k_from_width (T : Txt K mg C) (c_first_out_of : Cl P w K mg base 3 "first_out_of" (spFirst K)) (c_make : Mk' P w K mg base 1 "Widths" C (spInit C)) (F : Fs K C "from_width" "Widths.from_width" s_w_from_width ["w"]) : Sm P w K mg base 4 C "from_width" (spFrm K C) := by
  refine F.sm sc_w_from_width (fun vs H Q E h => ?_) (fun f cdv A outer s H vs Q E hr h => ?_)
  · obtain ⟨n, rfl, _⟩ := h
    rfl
  · obtain ⟨n, rfl, ok, k⟩ := h
    have ok' : 1 ≤ n ∧ n ≤ 600 := ok
    refine ⟨_, (pss_cons (ps_expr (pc c_first_out_of hr (by decide) rfl (pa_cons (pe_lst (pa_cons (pv 0) pa_nil)) (pa_cons pe_int (pa_cons (pkc rfl T.MOST_WIDTH) pa_nil)))))
      (pss_one (ps_ret (pmk c_make hr (by decide) rfl (pa_cons (pe_tup pa_nil) (pa_cons (pv 0) (pa_cons pe_int (pa_cons (pe_tup (pa_cons pe_int pa_nil)) pa_nil)))))))), ?_⟩
    refine q_dropP (ep_first (K := K) (p := 0) (xs := [n]) (lo := 1) (hi := 1000) ((epa_L (el_lst (ea_cons (ev_var rfl) ea_nil) (by simp)) (ea_cons ev_c (ea_cons ev_c ea_nil))).imp fun ws H2 _ hw => let ⟨p, a, b⟩ := hw; ⟨p, a, .inl (sq_of b)⟩) fun x hx => by
      have : x = n := by simpa using hx
      omega) fun _ H1 e1 _ => ?_
    refine RetW.of (ep_make (K := K) (h := []) (d := [1]) (s := n) (L := 1) (epa_make ea_nil (ev_var rfl) ev_c (ea_cons ev_c ea_nil) (by simp) (by simp))) (fun v H2 _ hv => let ⟨a, ea, hw⟩ := hv; ⟨a, ea, _, _, _, _, hw, M53.form_frm ok'⟩) fun a H2 e2 hw => k a H2 (e1.trans e2) hw
theorem k_multiples (T : Txt K mg C) (c_is_integer : Cl P w K mg base 1 "is_integer" spInt) (c_make : Mk' P w K mg base 1 "Widths" C (spInit C)) (F : Fs K C "multiples" "Widths.multiples" s_w_multiples ["k"]) : Sm P w K mg base 3 C "multiples" (spMul K C) := by
  refine F.sm sc_w_multiples (fun vs H Q E h => ?_) (fun f cdv A outer s H vs Q E hr h => ?_)
  · obtain ⟨n, rfl, _⟩ := h
    rfl
  · obtain ⟨n, rfl, ok, k⟩ := h
    have hD := M53.menuK_D n ok
    have n0 := M53.pos120 (M53.mem_D.mp hD)
    have n120 := M53.le120 (M53.mem_D.mp hD)
    refine ⟨_, (pss_cons (ps_if (PW.pt (pw_or (pt_not (pt_val (pc c_is_integer hr (by decide) rfl (pa_cons (pv 0) pa_nil)))) (pw_or1 (pt_cmpR op_lt (pv 0) pe_int (nomark _))))) pss_never pss_nil)
      (pss_cons (ps_if (pt_cmpR op_gt (pv 0) (pkc rfl T.MOST_LENGTH) (nomark _)) pss_never pss_nil)
      (pss_one (ps_ret (pmk c_make hr (by decide) rfl (pa_cons (pe_tup pa_nil) (pa_cons pe_int (pa_cons (pv 0) (pa_cons (pe_tup (pa_cons (pv 0) pa_nil)) pa_nil))))))))), ?_⟩
    refine q_when (b := false) (et_is (et_or (et_not (et_test (ev_tF (ea_cons (ev_var rfl) ea_nil) (spv_int (n := (n : Int)))))) fun _ => et_test (ev_op (ev_var rfl) ev_c (rv_ltN (j := 1)))) ?_) (fun h => nomatch h) fun _ H1 e1 => ?_
    · rw [decide_eq_false (by omega)]
      rfl
    refine q_when (b := false) (et_is (et_test (ev_op (ev_var rfl) ev_c (rv_gtN (j := 5040)))) (decide_eq_false (by omega))) (fun h => nomatch h) fun _ H2 e2 => ?_
    refine RetW.of (ep_make (K := K) (h := []) (d := [n]) (s := 1) (L := n) (epa_make ea_nil ev_c (ev_var rfl) (ea_cons (ev_var rfl) ea_nil) (by simp) (by simp))) (fun v H2 _ hv => let ⟨a, ea, hw⟩ := hv; ⟨a, ea, _, _, _, _, hw, M53.form_mul ok⟩) fun a H3 e3 hw => k a H3 ((e1.trans e2).trans e3) hw
theorem spv_order {H : Hp} {q : Nat} (h : q ∈ M53.menuQ) : SpV spOrder [nv q, .int 5040] H (nv (M53.ord q)) := fun H1 _ Q k E => ⟨q, rfl, h, k⟩
theorem k_dividing (T : Txt K mg C) (c_is_integer : Cl P w K mg base 1 "is_integer" spInt) (c_order_up_to : Cl P w K mg base 1 "order_up_to" spOrder) (c_make : Mk' P w K mg base 1 "Widths" C (spInit C)) (F : Fs K C "dividing" "Widths.dividing" s_w_dividing ["q"]) : Sm P w K mg base 3 C "dividing" (spDvd K C) := by
  refine F.sm sc_w_dividing (fun vs H Q E h => ?_) (fun f cdv A outer s H vs Q E hr h => ?_)
  · obtain ⟨n, rfl, _⟩ := h
    rfl
  · obtain ⟨n, rfl, ok, k⟩ := h
    have n0 : 1 ≤ n := (by decide : ∀ q ∈ M53.menuQ, 1 ≤ q) n ok
    have n2 : ¬ n % 2 = 0 := (by decide : ∀ q ∈ M53.menuQ, ¬ q % 2 = 0) n ok
    refine ⟨_, (pss_cons (ps_if (PW.pt (pw_or (pt_not (pt_val (pc c_is_integer hr (by decide) rfl (pa_cons (pv 0) pa_nil)))) (pw_or (pt_cmpR op_lt (pv 0) pe_int (nomark _)) (pw_or1 (pt_cmpR op_eq (pe_op op_mod (pv 0) pe_int) pe_int (nomark _)))))) pss_never pss_nil)
      (pss_cons (ps_set (i := 1) sc_w_dividing.nd rfl (Or.inl rfl) (pc c_order_up_to hr (by decide) rfl (pa_cons (pv 0) (pa_cons (pkc rfl T.MOST_LENGTH) pa_nil))))
      (pss_cons (ps_if (pt_cmpR op_isN (pv 1) pe_non (nomark _)) pss_never pss_nil)
      (pss_one (ps_ret (pmk c_make hr (by decide) rfl (pa_cons (pe_tup pa_nil) (pa_cons pe_int (pa_cons (pv 1) (pa_cons (pe_tup (pa_cons (pv 1) pa_nil)) pa_nil)))))))))), ?_⟩
    refine q_when (b := false) (et_is (et_or (et_not (et_test (ev_tF (ea_cons (ev_var rfl) ea_nil) (spv_int (n := (n : Int)))))) fun _ => et_or (et_test (ev_op (ev_var rfl) ev_c (rv_ltN (j := 1)))) fun _ => et_test (ev_op (ev_op (ev_var rfl) ev_c (rv_modN (j := 2) (by omega))) ev_c (rv_eqN (j := 0)))) ?_) (fun h => nomatch h) fun _ H1 e1 => ?_
    · rw [decide_eq_false (by omega), decide_eq_false n2]
      rfl
    refine q_asg (ev_tF (ea_cons (ev_var rfl) (ea_cons ev_c ea_nil)) (spv_order ok)) fun H2 e2 => ?_
    refine q_when (b := false) (et_is (et_test (ev_op (ev_var rfl) ev_c rv_isN)) (decide_eq_false (fun z => nomatch z))) (fun h => nomatch h) fun _ H3 e3 => ?_
    refine RetW.of (ep_make (K := K) (h := []) (d := [M53.ord n]) (s := 1) (L := M53.ord n) (epa_make ea_nil ev_c (ev_var rfl) (ea_cons (ev_var rfl) ea_nil) (by simp) (by simp))) (fun v H2 _ hv => let ⟨a, ea, hw⟩ := hv; ⟨a, ea, _, _, _, _, hw, M53.form_dvd ok⟩) fun a H4 e4 hw => k a H4 (((e1.trans e2).trans e3).trans e4) hw
theorem k_told (T : Txt K mg C) (c_first_out_of : Cl P w K mg base 3 "first_out_of" (spFirst K)) (c_is_between : Cl P w K mg base 2 "is_between" spBetween) (c_formed : Cl P w K mg base 4 "formed" (spFormed K C)) (F : Fs K C "told" "Widths.told" s_w_told ["head", "start", "length", "divisors"]) : Sm P w K mg base 5 C "told" (spTold K C) := by
  refine F.sm sc_w_told (fun vs H Q E h => ?_) (fun f cdv A outer s H vs Q E hr h => ?_)
  · obtain ⟨hp, dp, xs, ds, s, L, S, rfl, _⟩ := h
    rfl
  · obtain ⟨hp, dp, xs, ds, s, L, S, rfl, hhp, hdp, hL, s1, s2, xl, xb, dL, hS1, hS2, tl, k⟩ := h
    have L0 := M53.pos120 hL
    have L120 := M53.le120 hL
    refine ⟨_, (pss_cons (ps_expr (pc c_first_out_of hr (by decide) rfl (pa_cons (pe_lst (pa_cons (pv 1) pa_nil)) (pa_cons pe_int (pa_cons (pe_op op_add (pkc rfl T.MOST_WIDTH) pe_int) pa_nil)))))
      (pss_cons (ps_expr (pc c_first_out_of hr (by decide) rfl (pa_cons (pe_lst (pa_cons (pv 2) pa_nil)) (pa_cons pe_int (pa_cons (pkc rfl T.MOST_TOLD) pa_nil)))))
      (pss_cons (ps_expr (pc c_first_out_of hr (by decide) rfl (pa_cons (pv 0) (pa_cons pe_int (pa_cons (pe_op op_sub (pv 1) pe_int) pa_nil)))))
      (pss_cons (ps_for PassesOwn.never rfl (k_pil (K := K) rfl (pv 3)) (pg_name (i := 4) sc_w_told.nd rfl (Or.inl rfl))
        (pss_one (ps_if (PW.pt (pw_or (pt_not (pt_val (pc c_is_between hr (by decide) rfl (pa_cons (pv 4) (pa_cons pe_int (pa_cons (pv 2) pa_nil)))))) (pw_or1 (pt_cmpR op_ne (pe_op op_mod (pv 2) (pv 4)) pe_int (nomark _))))) pss_never pss_nil)))
      (pss_one (ps_ret (pc c_formed hr (by decide) rfl (pa_cons (pv 0) (pa_cons (pv 1) (pa_cons (pv 2) (pa_cons (pv 3) pa_nil))))))))))), ?_⟩
    refine q_dropP (ep_first (K := K) (p := 0) (xs := [s]) (lo := 1) (hi := 1001) ((epa_L (el_lst (ea_cons (ev_var rfl) ea_nil) (by simp)) (ea_cons ev_c (ea_cons (ev_op ev_c ev_c rv_I0) ea_nil))).imp fun ws H2 _ hw => let ⟨p, a, b⟩ := hw; ⟨p, a, .inl (sq_of b)⟩) fun x hx => by
      have : x = s := by simpa using hx
      omega) fun _ H1 e1 _ => ?_
    refine q_dropP (ep_first (K := K) (p := 0) (xs := [L]) (lo := 1) (hi := 100000) ((epa_L (el_lst (ea_cons (ev_var rfl) ea_nil) (by simp)) (ea_cons ev_c (ea_cons ev_c ea_nil))).imp fun ws H2 _ hw => let ⟨p, a, b⟩ := hw; ⟨p, a, .inl (sq_of b)⟩) fun x hx => by
      have : x = L := by simpa using hx
      omega) fun _ H2 e2 _ => ?_
    refine q_dropP (ep_first (K := K) (p := 0) (xs := xs) (lo := 1) (hi := (s : Int) - 1) (EvA.pa (ea_cons (ev_var rfl) (ea_cons ev_c (ea_cons (ev_op (ev_var rfl) ev_c rv_I0) ea_nil))) fun H3 e3 => ⟨hp, rfl, .inl (ex_l ((e1.trans e2).trans e3) hhp)⟩) fun x hx => by
      have := xb x hx
      omega) fun _ H3 e3 _ => ?_
    have e13 := (e1.trans e2).trans e3
    refine q_forLn (ev_var rfl) (ex_l e13 hdp) (fun i σ H' => ∃ o : Option V, σ = [some (.ref hp), some (nv s), some (nv L), some (.ref dp), o] ∧ Ex H H') (fun H4 e4 => ⟨_, rfl, e13.trans e4⟩) (fun i σ' H' hi q => let ⟨_, _, e⟩ := q; ex_l e hdp) (fun i x σ' H' hi q => ?_) (fun σ' H' q => ?_)
    · obtain ⟨o, rfl, e4⟩ := q
      obtain ⟨ex, _, hm⟩ := getD_of hi
      subst ex
      have gL := dL _ hm
      generalize ds.getD i 0 = g at gL hm
      have g0 := Nat.pos_of_dvd_of_pos gL L0
      have gl := Nat.le_of_dvd L0 gL
      refine s_when (b := false) (et_is (et_or (et_not (et_test (ev_tF (ea_cons (ev_var rfl) (ea_cons ev_c (ea_cons (ev_var rfl) ea_nil))) (spv_between (n := (g : Int)) (lo := 1) (hi := (L : Int)))))) fun _ => et_test (ev_op (ev_op (ev_var rfl) (ev_var rfl) (rv_modN g0)) ev_c (rv_neN (j := 0)))) ?_) (fun h => nomatch h) fun _ H5 e5 => ⟨_, rfl, e4.trans e5⟩
      rw [decide_eq_true (by omega), decide_eq_true (by omega), decide_eq_true (Nat.mod_eq_zero_of_dvd gL)]
      rfl
    · obtain ⟨o, rfl, e4⟩ := q
      refine RetW.of (K := K) (C := C) (S := S) (R := fun v H2 => ∃ a', v = .ref a' ∧ WAt K C H2 a' S) (ep_tF (R := fun ws H2 => ws = [.ref hp, nv s, nv L, .ref dp]) (EvA.pa (ea_cons (ev_var rfl) (ea_cons (ev_var rfl) (ea_cons (ev_var rfl) (ea_cons (ev_var rfl) ea_nil)))) fun _ _ => rfl) fun ws H2 e2 hw Q' q' => ?_) (fun v H2 _ h => h) fun a' H2 e2 hw => k a' H2 (e4.trans e2) hw
      subst hw
      exact ⟨hp, dp, xs, ds, s, L, S, rfl, .inl (ex_l (e4.trans e2) hhp), .inl (ex_l (e4.trans e2) hdp), hL, s1, by omega, xl, xb, hS1, hS2, tl, fun a' H3 e3 hW => q' _ H3 e3 ⟨a', rfl, hW⟩⟩
theorem k_contains (T : Txt K mg C) (c_is_integer : Cl P w K mg base 1 "is_integer" spInt) (c_is_member : Cl P w K mg base 2 "is_member" (spMember K)) (c_described : Mt P w K mg base 1 C "described" (spDescr K C)) (F : Fm K C "__contains__" "Widths.__contains__" s_w_contains ["self", "x"]) :
    ∃ f, FnR P w K mg base CX0 3 f (spCont K C) ∧ Meth K C "__contains__" f := by
  refine F.fr sc_w_contains (fun vs H Q E h => ?_) (fun f cdv A outer s H vs Q E hr h => ?_)
  · obtain ⟨a, n, S, rfl, _⟩ := h
    rfl
  · obtain ⟨a, n, S, rfl, n1, ⟨h, s, L, d, W, Fo⟩, k⟩ := h
    refine ⟨_, (pss_one (ps_ret (pe_and (pc c_is_integer hr (by decide) rfl (pa_cons (pv 1) pa_nil)) (pe_and (pe_cmpR op_ge (pv 1) pe_int (nomark _)) (pe_one (pc c_is_member hr (by decide) rfl (pa_cons (pm0 c_described T.cl hr (by decide) (pv 0)) (pa_cons (pv 1) pa_nil)))))))), ?_⟩
    have E : Ev (tF (spMember K) (tCons (tM C "described" (spDescr K C) (tVar 0) tNil) (tCons (tVar 1) tNil))) [some (.ref a), some (nv n)] H (.bl (S n)) := by
      refine EvP.ev (ep_tF (R := fun ws H2 => ∃ p, ws = [.ref p, nv n] ∧ PartsAt K H2 p h s L d) (fun H1 e Q q => ep_descr (ev_var rfl) W H1 e _ fun v H2 e2 hv => ?_) fun ws H2 e2 hw Q q => ?_)
      · obtain ⟨p, rfl, hp⟩ := hv
        exact ev_var (v := nv n) rfl H2 (e.trans e2) _ fun H3 e3 => q _ H3 (e2.trans e3) ⟨p, rfl, hp.ext e3⟩
      · obtain ⟨p, rfl, hp⟩ := hw
        refine ⟨p, h, s, L, d, n, rfl, hp, fun H3 e3 => q _ H3 e3 ?_⟩
        rw [Fo.mem n1]
    have k2 : RetV (.bl (true && (decide (1 ≤ n) && S n))) H Q := by
      rw [decide_eq_true n1]
      exact k
    exact s_ret (ev_andV (ev_tF (ea_cons (ev_var rfl) ea_nil) (spv_int (n := (n : Int)))) fun _ => ev_andV (ev_op (ev_var rfl) ev_c (rv_geN (j := 1))) fun _ => E) k2
theorem k_and (T : Txt K mg C) (c_joined_sets : Cl P w K mg base 5 "joined_sets" (spJSets K C)) (c_described : Mt P w K mg base 1 C "described" (spDescr K C)) (F : Fm K C "__and__" "Widths.__and__" s_w_and ["self", "other"]) :
    ∃ f, FnR P w K mg base CX0 6 f (spBin K C "both") ∧ Meth K C "__and__" f := by
  refine F.fr sc_w_and (fun vs H Q E h => ?_) (fun f cdv A outer s H vs Q E hr h => ?_)
  · obtain ⟨a, b, S, S', rfl, _⟩ := h
    rfl
  · obtain ⟨a, b, S, S', rfl, ⟨h, s, L, d, W, Fo⟩, ⟨h', s', L', d', W', Fo'⟩, k⟩ := h
    refine ⟨_, (pss_cons (ps_if (pt_not (pt_val (pe_callB (C8.call_isC T.ins) (by rfl) T.isinstance bt_isinstance (pa_cons (pv 1) (pa_cons (pe_glob (v := .ref C) rfl T.mgC rfl) pa_nil))))) pss_never pss_nil)
      (pss_one (ps_ret (pc c_joined_sets hr (by decide) rfl (pa_cons (pm0 c_described T.cl hr (by decide) (pv 0)) (pa_cons (pm0 c_described T.cl hr (by decide) (pv 1)) (pa_cons pe_str pa_nil))))))), ?_⟩
    refine q_when (b := false) (et_is (et_not (et_test (ev_isC (ea_cons (ev_var rfl) (ea_cons ev_c ea_nil)) W'))) rfl) (fun h => nomatch h) fun _ H1 e1 => ?_
    exact RetW.of (K := K) (C := C) (ep_jsets (p := 0) (q := 0) (epa_two (ev_var rfl) (W.ext e1) (ev_var rfl) (W'.ext e1)) Fo Fo') (fun v H2 _ h => h) fun a' H2 e2 hw => k a' H2 (e1.trans e2) hw
theorem k_or (T : Txt K mg C) (c_joined_sets : Cl P w K mg base 5 "joined_sets" (spJSets K C)) (c_described : Mt P w K mg base 1 C "described" (spDescr K C)) (F : Fm K C "__or__" "Widths.__or__" s_w_or ["self", "other"]) :
    ∃ f, FnR P w K mg base CX0 6 f (spBin K C "either") ∧ Meth K C "__or__" f := by
  refine F.fr sc_w_or (fun vs H Q E h => ?_) (fun f cdv A outer s H vs Q E hr h => ?_)
  · obtain ⟨a, b, S, S', rfl, _⟩ := h
    rfl
  · obtain ⟨a, b, S, S', rfl, ⟨h, s, L, d, W, Fo⟩, ⟨h', s', L', d', W', Fo'⟩, k⟩ := h
    refine ⟨_, (pss_cons (ps_if (pt_not (pt_val (pe_callB (C8.call_isC T.ins) (by rfl) T.isinstance bt_isinstance (pa_cons (pv 1) (pa_cons (pe_glob (v := .ref C) rfl T.mgC rfl) pa_nil))))) pss_never pss_nil)
      (pss_one (ps_ret (pc c_joined_sets hr (by decide) rfl (pa_cons (pm0 c_described T.cl hr (by decide) (pv 0)) (pa_cons (pm0 c_described T.cl hr (by decide) (pv 1)) (pa_cons pe_str pa_nil))))))), ?_⟩
    refine q_when (b := false) (et_is (et_not (et_test (ev_isC (ea_cons (ev_var rfl) (ea_cons ev_c ea_nil)) W'))) rfl) (fun h => nomatch h) fun _ H1 e1 => ?_
    exact RetW.of (K := K) (C := C) (ep_jsets (p := 0) (q := 0) (epa_two (ev_var rfl) (W.ext e1) (ev_var rfl) (W'.ext e1)) Fo Fo') (fun v H2 _ h => h) fun a' H2 e2 hw => k a' H2 (e1.trans e2) hw
theorem k_sub (T : Txt K mg C) (c_joined_sets : Cl P w K mg base 5 "joined_sets" (spJSets K C)) (c_described : Mt P w K mg base 1 C "described" (spDescr K C)) (F : Fm K C "__sub__" "Widths.__sub__" s_w_sub ["self", "other"]) :
    ∃ f, FnR P w K mg base CX0 6 f (spBin K C "first") ∧ Meth K C "__sub__" f := by
  refine F.fr sc_w_sub (fun vs H Q E h => ?_) (fun f cdv A outer s H vs Q E hr h => ?_)
  · obtain ⟨a, b, S, S', rfl, _⟩ := h
    rfl
  · obtain ⟨a, b, S, S', rfl, ⟨h, s, L, d, W, Fo⟩, ⟨h', s', L', d', W', Fo'⟩, k⟩ := h
    refine ⟨_, (pss_cons (ps_if (pt_not (pt_val (pe_callB (C8.call_isC T.ins) (by rfl) T.isinstance bt_isinstance (pa_cons (pv 1) (pa_cons (pe_glob (v := .ref C) rfl T.mgC rfl) pa_nil))))) pss_never pss_nil)
      (pss_one (ps_ret (pc c_joined_sets hr (by decide) rfl (pa_cons (pm0 c_described T.cl hr (by decide) (pv 0)) (pa_cons (pm0 c_described T.cl hr (by decide) (pv 1)) (pa_cons pe_str pa_nil))))))), ?_⟩
    refine q_when (b := false) (et_is (et_not (et_test (ev_isC (ea_cons (ev_var rfl) (ea_cons ev_c ea_nil)) W'))) rfl) (fun h => nomatch h) fun _ H1 e1 => ?_
    exact RetW.of (K := K) (C := C) (ep_jsets (p := 0) (q := 0) (epa_two (ev_var rfl) (W.ext e1) (ev_var rfl) (W'.ext e1)) Fo Fo') (fun v H2 _ h => h) fun a' H2 e2 hw => k a' H2 (e1.trans e2) hw
theorem k_xor (T : Txt K mg C) (c_joined_sets : Cl P w K mg base 5 "joined_sets" (spJSets K C)) (c_described : Mt P w K mg base 1 C "described" (spDescr K C)) (F : Fm K C "__xor__" "Widths.__xor__" s_w_xor ["self", "other"]) :
    ∃ f, FnR P w K mg base CX0 6 f (spBin K C "one") ∧ Meth K C "__xor__" f := by
  refine F.fr sc_w_xor (fun vs H Q E h => ?_) (fun f cdv A outer s H vs Q E hr h => ?_)
  · obtain ⟨a, b, S, S', rfl, _⟩ := h
    rfl
  · obtain ⟨a, b, S, S', rfl, ⟨h, s, L, d, W, Fo⟩, ⟨h', s', L', d', W', Fo'⟩, k⟩ := h
    refine ⟨_, (pss_cons (ps_if (pt_not (pt_val (pe_callB (C8.call_isC T.ins) (by rfl) T.isinstance bt_isinstance (pa_cons (pv 1) (pa_cons (pe_glob (v := .ref C) rfl T.mgC rfl) pa_nil))))) pss_never pss_nil)
      (pss_one (ps_ret (pc c_joined_sets hr (by decide) rfl (pa_cons (pm0 c_described T.cl hr (by decide) (pv 0)) (pa_cons (pm0 c_described T.cl hr (by decide) (pv 1)) (pa_cons pe_str pa_nil))))))), ?_⟩
    refine q_when (b := false) (et_is (et_not (et_test (ev_isC (ea_cons (ev_var rfl) (ea_cons ev_c ea_nil)) W'))) rfl) (fun h => nomatch h) fun _ H1 e1 => ?_
    exact RetW.of (K := K) (C := C) (ep_jsets (p := 0) (q := 0) (epa_two (ev_var rfl) (W.ext e1) (ev_var rfl) (W'.ext e1)) Fo Fo') (fun v H2 _ h => h) fun a' H2 e2 hw => k a' H2 (e1.trans e2) hw
theorem k_invert (T : Txt K mg C) (c_joined_sets : Cl P w K mg base 5 "joined_sets" (spJSets K C)) (c_described : Mt P w K mg base 1 C "described" (spDescr K C)) (F : Fm K C "__invert__" "Widths.__invert__" s_w_invert ["self"]) :
    ∃ f, FnR P w K mg base CX0 6 f (spInv K C) ∧ Meth K C "__invert__" f := by
  refine F.fr sc_w_invert (fun vs H Q E h => ?_) (fun f cdv A outer s H vs Q E hr h => ?_)
  · obtain ⟨a, S, rfl, _⟩ := h
    rfl
  · obtain ⟨a, S, rfl, ⟨h, s, L, d, W, Fo⟩, k⟩ := h
    refine ⟨_, (pss_one (ps_ret (pc c_joined_sets hr (by decide) rfl (pa_cons (pe_tup (pa_cons (pe_tup pa_nil) (pa_cons pe_int (pa_cons pe_int (pa_cons (pe_tup (pa_cons pe_int pa_nil)) pa_nil))))) (pa_cons (pm0 c_described T.cl hr (by decide) (pv 0)) (pa_cons pe_str pa_nil)))))), ?_⟩
    have E1 : EvP (tTup (tCons (tTup tNil) (tCons (tC (.int 1)) (tCons (tC (.int 1)) (tCons (tTup (tCons (tC (.int 1)) tNil)) tNil))))) [some (.ref a)] H fun v H2 => ∃ p, v = .ref p ∧ PartsAt K H2 p [] 1 1 [1] :=
      ep_tup (epa_make (K := K) (h := []) (d := [1]) (s := 1) (L := 1) ea_nil ev_c ev_c (ea_cons ev_c ea_nil) (by simp) (by simp)) (fun ws H2 hw => by obtain ⟨hp, dp, rfl, _⟩ := hw; simp) fun p ws H2 _ hw hp => by
        obtain ⟨hp', dp, rfl, h1, h2⟩ := hw
        exact ⟨p, rfl, hp', dp, st_of upd_same, ex_t (Ex.new hp) h1, ex_t (Ex.new hp) h2⟩
    refine RetW.of (K := K) (C := C) (ep_jsets (r := "first") (p := 0) (q := 0) ((epa_2 E1 (ep_descr (ev_var rfl) W) (c := .str "first") fun v H1 H2 e r => let ⟨p, a, b⟩ := r; ⟨p, a, b.ext e⟩).imp fun ws H2 _ hw => ?_) (M53.form_frm (n := 1) (by decide)) Fo) (fun v H2 _ h => h) fun a' H2 e2 hw => k a' H2 e2 (hw.congr fun n n1 => ?_)
    · obtain ⟨x, y, rfl, ⟨p, rfl, hp⟩, q, rfl, hq⟩ := hw
      exact ⟨p, q, rfl, hp, hq⟩
    · show ruleF "first" (decide (1 ≤ n)) (S n) = !S n
      rw [ruleF_first, decide_eq_true n1, Bool.true_and]
theorem k_le (T : Txt K mg C) (c_is_nothing : Cl P w K mg base 4 "is_nothing" (spNothing K)) (c_described : Mt P w K mg base 1 C "described" (spDescr K C)) (F : Fm K C "__le__" "Widths.__le__" s_w_le ["self", "other"]) :
    ∃ f, FnR P w K mg base CX0 5 f (spLe K C) ∧ Meth K C "__le__" f := by
  refine F.fr sc_w_le (fun vs H Q E h => ?_) (fun f cdv A outer s H vs Q E hr h => ?_)
  · obtain ⟨a, b, S, S', rfl, _⟩ := h
    rfl
  · obtain ⟨a, b, S, S', rfl, ⟨h, s, L, d, W, Fo⟩, ⟨h', s', L', d', W', Fo'⟩, k⟩ := h
    refine ⟨_, (pss_cons (ps_if (pt_not (pt_val (pe_callB (C8.call_isC T.ins) (by rfl) T.isinstance bt_isinstance (pa_cons (pv 1) (pa_cons (pe_glob (v := .ref C) rfl T.mgC rfl) pa_nil))))) pss_never pss_nil)
      (pss_one (ps_ret (pc c_is_nothing hr (by decide) rfl (pa_cons (pm0 c_described T.cl hr (by decide) (pv 0)) (pa_cons (pm0 c_described T.cl hr (by decide) (pv 1)) (pa_cons pe_str pa_nil))))))), ?_⟩
    refine q_when (b := false) (et_is (et_not (et_test (ev_isC (ea_cons (ev_var rfl) (ea_cons ev_c ea_nil)) W'))) rfl) (fun h => nomatch h) fun _ H1 e1 => ?_
    refine s_retP (ep_noth (r := "first") (p := 0) (q := 0) (epa_two (ev_var rfl) (W.ext e1) (ev_var rfl) (W'.ext e1)) Fo Fo') fun v H2 e2 hv => ?_
    obtain ⟨b', rfl, hb'⟩ := hv
    refine k b' ?_ H2 (e1.trans e2)
    rw [hb']
    exact ⟨fun z n h1 h2 => by rw [← ruleF_first]; exact z n h1 h2, fun z n h1 h2 => by rw [ruleF_first]; exact z n h1 h2⟩
theorem k_eq (T : Txt K mg C) (c_described : Mt P w K mg base 1 C "described" (spDescr K C)) (F : Fm K C "__eq__" "Widths.__eq__" s_w_eq ["self", "other"]) :
    ∃ f, FnR P w K mg base CX0 2 f (spEq K C) ∧ Meth K C "__eq__" f := by
  refine F.fr sc_w_eq (fun vs H Q E h => ?_) (fun f cdv A outer s H vs Q E hr h => ?_)
  · obtain ⟨a, b, S, S', rfl, _⟩ := h
    rfl
  · obtain ⟨a, b, S, S', rfl, ⟨h, s, L, d, W, Fo⟩, ⟨h', s', L', d', W', Fo'⟩, hS, k⟩ := h
    refine ⟨_, (pss_one (ps_ret (pe_and (pe_callB (C8.call_isC T.ins) (by rfl) T.isinstance bt_isinstance (pa_cons (pv 1) (pa_cons (pe_glob (v := .ref C) rfl T.mgC rfl) pa_nil))) (pe_one (pe_cmpR (k_eqD (K := K) hr.units rfl) (pm0 c_described T.cl hr (by decide) (pv 0)) (pm0 c_described T.cl hr (by decide) (pv 1)) (nomark _)))))), ?_⟩
    obtain ⟨rfl, rfl, rfl, rfl⟩ := Fo.uniq Fo' hS
    have E : Ev (tOp (rEqD K) (tM C "described" (spDescr K C) (tVar 0) tNil) (tM C "described" (spDescr K C) (tVar 1) tNil)) [some (.ref a), some (.ref b)] H (.bl true) := fun H1 e Q q =>
      ep_descr (ev_var rfl) W H1 e _ fun v H2 e2 hv => by
        obtain ⟨p, rfl, hp⟩ := hv
        exact ep_descr (ev_var rfl) W' H2 (e.trans e2) _ fun v H3 e3 hv' => by
          obtain ⟨p', rfl, hp'⟩ := hv'
          exact rv_eqP (hp.ext e3) hp' H3 (Ex.refl _) Q fun H4 e4 => q H4 ((e2.trans e3).trans e4)
    exact s_ret (ev_andV (ev_isC (ea_cons (ev_var rfl) (ea_cons ev_c ea_nil)) W') fun _ => E) k
theorem k_up_to (T : Txt K mg C) (c_is_integer : Cl P w K mg base 1 "is_integer" spInt) (c_members_up_to : Cl P w K mg base 2 "members_up_to" (spUpTo' K)) (c_classes_of : Cl P w K mg base 2 "classes_of" (spClasses K)) (F : Fm K C "up_to" "Widths.up_to" s_w_up_to ["self", "n"]) : Mt P w K mg base 3 C "up_to" (spUp K C) := by
  refine F.mt sc_w_up_to (fun vs H Q E h => ?_) (fun f cdv A outer s H vs Q E hr h => ?_)
  · obtain ⟨a, n, S, rfl, _⟩ := h
    rfl
  · obtain ⟨a, n, S, rfl, ⟨h, s, L, d, W, Fo⟩, k⟩ := h
    refine ⟨_, (pss_cons (ps_if (PW.pt (pw_or (pt_not (pt_val (pc c_is_integer hr (by decide) rfl (pa_cons (pv 1) pa_nil)))) (pw_or1 (pt_cmpR op_lt (pv 1) pe_int (nomark _))))) pss_never pss_nil)
      (pss_one (ps_ret (pc c_members_up_to hr (by decide) rfl (pa_cons (k_fld (K := K) rfl (pv 0) rfl) (pa_cons (k_fld (K := K) rfl (pv 0) rfl) (pa_cons (pc c_classes_of hr (by decide) rfl (pa_cons (k_fld (K := K) rfl (pv 0) rfl) (pa_cons (k_fld (K := K) rfl (pv 0) rfl) pa_nil))) (pa_cons (pv 1) pa_nil)))))))), ?_⟩
    obtain ⟨dx, hp, dp, h1, h2, h3⟩ := W.ex
    have dL : ∀ g ∈ d, g ∣ L := fun g hg => by
      rw [Fo.divs] at hg
      exact (M53.mem_dv Fo.len).mp (List.mem_filter.mp hg).1
    have dl : d.length ≤ 16 := by
      rw [Fo.divs]
      exact Nat.le_trans (List.length_filter_le _ _) (M53.dv_len _)
    refine q_when (b := false) (et_is (et_or (et_not (et_test (ev_tF (ea_cons (ev_var rfl) ea_nil) (spv_int (n := (n : Int)))))) fun _ => et_test (ev_op (ev_var rfl) ev_c (rv_ltN (j := 0)))) ?_) (fun h => nomatch h) fun _ H1 e1 => ?_
    · rw [decide_eq_false (by omega)]
      rfl
    have E := epa_V (ev_fld (ev_var (σ := [some (.ref a), some (nv n)]) (i := 0) rfl) (e1 _ _ h1) T.cl T.nH (wf_head hp s L dp)) (epa_V (ev_fld (ev_var (i := 0) rfl) (e1 _ _ h1) T.cl T.nS (wf_start hp s L dp)) (epa_P1 (ep_classes (K := K) (ea_cons (ev_fld (ev_var (i := 0) rfl) (e1 _ _ h1) T.cl T.nL (wf_length hp s L dp)) (ea_cons (ev_fld (ev_var (i := 0) rfl) (e1 _ _ h1) T.cl T.nD (wf_divisors hp s L dp)) ea_nil)) Fo.len (ex_t e1 h3) dL dl) (ea_cons (ev_var (i := 1) rfl) ea_nil) fun v H1 H2 e r => let ⟨p, x, y⟩ := r; ⟨p, x, y.ext e⟩))
    refine s_ret (EvP.ev (ep_tF E fun ws H2 e2 hw Q q => ?_)) fun H3 e3 => k H3 (e1.trans e3)
    obtain ⟨_, rfl, _, rfl, x, rfl, p, rfl, hc⟩ := hw
    exact ⟨hp, p, h, s, L, d, n, S, rfl, ex_t (e1.trans e2) h2, hc, Fo, fun H3 e3 => q _ H3 e3 rfl⟩
end
end K53
namespace K53
open PySem PySem.Spec PyProof.Rows L2 Evl
/-! ### texts -/
abbrev nL (n : Nat) : List Nat := TL.numL n
/-- the text of a part -/
def txP (xs : List Nat) : List Nat := if xs.length = 0 then [45] else TL.joinL [32] (xs.map nL)
def txW (h : List Nat) (s L : Nat) (d : List Nat) : List Nat := TL.joinL [32, 124, 32] [txP h, txP [s], txP [L], txP d]
theorem mem_joinL {c : Nat} {sep : List Nat} : ∀ {ps : List (List Nat)}, c ∈ TL.joinL sep ps → c ∈ sep ∨ ∃ p ∈ ps, c ∈ p
  | [], h => absurd h List.not_mem_nil
  | [p], h => .inr ⟨p, List.mem_cons_self, h⟩
  | p :: q :: r, h => by
    have h : c ∈ p ++ (sep ++ TL.joinL sep (q :: r)) := h
    rcases List.mem_append.mp h with h | h
    · exact .inr ⟨p, List.mem_cons_self, h⟩
    · rcases List.mem_append.mp h with h | h
      · exact .inl h
      · rcases mem_joinL h with h | ⟨x, hx, h⟩
        · exact .inl h
        · exact .inr ⟨x, List.mem_cons_of_mem _ hx, h⟩
theorem len_joinL {sep : List Nat} {B : Nat} : ∀ {ps : List (List Nat)}, (∀ p ∈ ps, p.length ≤ B) → (TL.joinL sep ps).length ≤ ps.length * (B + sep.length)
  | [], _ => Nat.zero_le _
  | [p], h => by
    have := h p List.mem_cons_self
    show p.length ≤ 1 * (B + sep.length)
    omega
  | p :: q :: r, h => by
    have h1 := h p List.mem_cons_self
    have ih := len_joinL (sep := sep) (B := B) (ps := q :: r) fun x hx => h x (List.mem_cons_of_mem _ hx)
    show (p ++ (sep ++ TL.joinL sep (q :: r))).length ≤ ((q :: r).length + 1) * (B + sep.length)
    rw [List.length_append, List.length_append, Nat.succ_mul]
    omega
theorem nL_len {n : Nat} (h : n < 100000) : (nL n).length ≤ 5 := TL.numL_len (k := 5) (by decide) h
theorem nL_pos (n : Nat) : 1 ≤ (nL n).length := List.length_pos_iff.mpr (TL.numL_ne n)
theorem txP_free {xs : List Nat} {c : Nat} (h1 : c ≠ 32) (h2 : c ≠ 45) (h : c < 48 ∨ 57 < c) : c ∉ txP xs := fun hm => by
  unfold txP at hm
  split at hm
  · have : c = 45 := by simpa using hm
    exact h2 this
  · rcases mem_joinL hm with hm | ⟨p, hp, hm⟩
    · have : c = 32 := by simpa using hm
      exact h1 this
    · obtain ⟨n, _, rfl⟩ := List.mem_map.mp hp
      exact TL.numL_free h hm
theorem txP_ne {xs : List Nat} (h : ¬ xs.length = 0) : txP xs ≠ [45] := fun e => by
  have hm : 45 ∈ txP xs := by rw [e]; exact List.mem_cons_self
  unfold txP at hm
  rw [if_neg h] at hm
  rcases mem_joinL hm with hm | ⟨p, hp, hm⟩
  · simp at hm
  · obtain ⟨n, _, rfl⟩ := List.mem_map.mp hp
    exact TL.numL_free (by omega) hm
theorem txP_len {xs : List Nat} (h : ∀ x ∈ xs, x < 100000) : (txP xs).length ≤ xs.length * 6 + 1 := by
  unfold txP
  split
  · simp
  · have := len_joinL (sep := [32]) (B := 5) (ps := xs.map nL) fun p hp => by
      obtain ⟨n, hn, rfl⟩ := List.mem_map.mp hp
      exact nL_len (h n hn)
    rw [List.length_map] at this
    have e : ([32] : List Nat).length = 1 := rfl
    rw [e] at this
    omega
theorem pre_bar {l : List Nat} (h : TL.pre [32, 124, 32] l = true) : l[1]? = some 124 := by
  have h : (l.take 3 == [32, 124, 32]) = true := h
  have e := eq_of_beq h
  have : (l.take 3)[1]? = some 124 := by rw [e] <;> rfl
  rw [List.getElem?_take] at this
  exact this
theorem free_bar : ∀ {p : List Nat}, 124 ∉ p → SX.free [32, 124, 32] p = true
  | [], _ => rfl
  | c :: r, h => by
    show (!(TL.pre [32, 124, 32] (c :: (r ++ [32, 124, 32]))) && SX.free [32, 124, 32] r) = true
    rw [free_bar fun m => h (List.mem_cons_of_mem _ m), Bool.and_true, Bool.not_eq_true']
    cases hp : TL.pre [32, 124, 32] (c :: (r ++ [32, 124, 32])) with
    | false => rfl
    | true =>
      have e := pre_bar hp
      cases r with
      | nil => simp at e
      | cons x r =>
        have : x = 124 := by simpa using e
        exact absurd (by rw [← this]; exact List.mem_cons_of_mem _ List.mem_cons_self) h
theorem spl_bar_last {p : List Nat} (h : 124 ∉ p) : TL.spl [32, 124, 32] 0 [] p = [p] := by
  have := TL.spl_last (S := [32, 124, 32]) (p := p) (acc := []) fun i hi => by
    cases hp : TL.pre [32, 124, 32] (p.drop i) with
    | false => rfl
    | true =>
      have e := pre_bar hp
      exact absurd (List.mem_of_mem_drop (List.mem_of_getElem? e)) h
  rw [List.nil_append] at this
  exact this
theorem split_W (h : List Nat) (s L : Nat) (d : List Nat) : Txt.split (SX.S (txW h s L d)) (Str.ofString " | ") = [SX.S (txP h), SX.S (txP [s]), SX.S (txP [L]), SX.S (txP d)] := by
  have fr : ∀ xs, 124 ∉ txP xs := fun xs => txP_free (by omega) (by omega) (by omega)
  show Txt.split (SX.S (txW h s L d)) (SX.S [32, 124, 32]) = _
  rw [SX.split_S (by simp) (by decide)]
  show ((TL.spl [32, 124, 32] 0 [] (txP h ++ ([32, 124, 32] ++ (txP [s] ++ ([32, 124, 32] ++ (txP [L] ++ ([32, 124, 32] ++ txP d))))))).map SX.S) = _
  rw [SX.spl_free _ (by simp) (free_bar (fr h)), SX.spl_free _ (by simp) (free_bar (fr [s])), SX.spl_free _ (by simp) (free_bar (fr [L])), spl_bar_last (fr d)]
  rfl
theorem split_P {xs : List Nat} (h : ¬ xs.length = 0) : Txt.split (SX.S (txP xs)) (Str.ofString " ") = (xs.map nL).map SX.S := by
  show Txt.split (SX.S (txP xs)) (SX.S [32]) = _
  rw [SX.split_S (by simp) (by decide)]
  unfold txP
  rw [if_neg h, SX.spl_join (fun e => h (by rw [List.map_eq_nil_iff] at e; rw [e]; rfl)) fun p hp => ?_]
  obtain ⟨n, _, rfl⟩ := List.mem_map.mp hp
  exact TL.numL_free (by omega)
theorem num_int {n : Nat} (h : n < 100000) : intText? (SX.S (nL n)) = some (n : Int) := by
  have e := SX.int_S (a := nL n) (by
    rw [List.all_eq_true]
    intro c hc
    have := TL.numL_digits n c hc
    rw [Bool.and_eq_true, decide_eq_true_iff, decide_eq_true_iff]
    exact this) (TL.numL_ne n) (by have := nL_len h; omega)
  rw [e, TL.numL_val]
theorem txW_len {h : List Nat} {s L : Nat} {d : List Nat} (hh : ∀ x ∈ h, x < 100000) (hs : s < 100000) (hL : L < 100000) (hd : ∀ x ∈ d, x < 100000) (lh : h.length ≤ 700) (ld : d.length ≤ 16) : (txW h s L d).length ≤ 20000 := by
  have := len_joinL (sep := [32, 124, 32]) (B := 4201) (ps := [txP h, txP [s], txP [L], txP d]) fun p hp => by
    simp only [List.mem_cons, List.not_mem_nil, or_false] at hp
    rcases hp with rfl | rfl | rfl | rfl
    · have := txP_len hh; omega
    · have := txP_len (xs := [s]) fun x hx => by have e : x = s := (by simpa using hx); rw [e]; exact hs
      have e : [s].length = 1 := rfl
      rw [e] at this
      omega
    · have := txP_len (xs := [L]) fun x hx => by have e : x = L := (by simpa using hx); rw [e]; exact hL
      have e : [L].length = 1 := rfl
      rw [e] at this
      omega
    · have := txP_len hd; omega
  have e : [txP h, txP [s], txP [L], txP d].length = 4 := rfl
  have e2 : ([32, 124, 32] : List Nat).length = 3 := rfl
  rw [e, e2] at this
  exact Nat.le_trans this (by omega)
/-! ### the promises -/
def spNum : Sp := fun vs H Q _ => ∃ n : Nat, vs = [.str (SX.S (nL n))] ∧ n < 100000 ∧ RetV (nv n) H Q
def spNums : Sp := fun vs H Q _ => ∃ xs : List Nat, vs = [.str (SX.S (txP xs))] ∧ (∀ x ∈ xs, x < 100000) ∧ xs.length ≤ 700 ∧ RetL (nvs xs) H Q
def spNText (K : PySem.W.Frag) : Sp := fun vs H Q _ => ∃ (p : Addr) (xs : List Nat), vs = [.ref p] ∧ SqT K H p (nvs xs) ∧ (∀ x ∈ xs, x < 100000) ∧ xs.length ≤ 700 ∧ RetV (.str (SX.S (txP xs))) H Q
def spStr (K : PySem.W.Frag) (C : Addr) : Sp := fun vs H Q _ => ∃ (a : Addr) (h : List Nat) (s L : Nat) (d : List Nat), vs = [.ref a] ∧ WFm K C H a h s L d ∧ (∀ x ∈ h, x < 100000) ∧ s < 100000 ∧ L < 100000 ∧ (∀ x ∈ d, x < 100000) ∧ h.length ≤ 700 ∧ d.length ≤ 16 ∧ RetV (.str (SX.S (txW h s L d))) H Q
def spRead (K : PySem.W.Frag) (C : Addr) : Sp := fun vs H Q _ => ∃ (h : List Nat) (s L : Nat) (d : List Nat) (S : Nat → Bool), vs = [.ref C, .str (SX.S (txW h s L d))] ∧ M53.Form S h s L d ∧ RetW K C S H Q
section
variable {K : PySem.W.Frag} {σ : L2.St} {H H' : Hp} {ta tb tc td te tl tl1 ty tv : TE} {t : TA} {tt : TT} {x y z v : V} {g : TG} {vs : List Nat} {tu tw tz : TS} {D : Ends} {a b : Addr} {C : Addr}
/-- over a text, sign by sign -/
theorem el_lcS {Z : Str} {j : Nat} (f : Nat → Bool) (v : Nat → V) (h : Ev tl σ H (.str Z)) (hz : Z.cps.size ≤ 40000) (hw : ∀ x, wipe ((wipe σ vs).set j (some x)) vs = wipe σ vs)
    (ht : ∀ (i : Nat) (c : Nat) H1, Ex H H1 → Z.cps[i]? = some c → EvT tt ((wipe σ vs).set j (some (.str ⟨#[c]⟩))) H1 (f i)) (he : ∀ (i : Nat) (c : Nat) H1, Ex H H1 → Z.cps[i]? = some c → f i = true → Ev te ((wipe σ vs).set j (some (.str ⟨#[c]⟩))) H1 (v i)) :
    EvL (tLc (iStr tl) (gName j) tt te vs) σ H (given Z.cps.size f v) := fun H0 e Q q => h H0 e _ fun H1 e1 => ⟨Z, rfl, fun Dl hD =>
  lc_it walk_str (Cw H1 f v Dl) ⟨hD, Ex.new hD, upd_same⟩ (fun _ _ _ _ => True.intro) (fun i x H' H'' hi p y => by
    obtain ⟨rfl, c, hc, rfl⟩ := y
    exact ⟨hw _, cw_turn p (by omega) (ht i c H1 (e.trans e1) hc) (fun hf => he i c H1 (e.trans e1) hc hf)⟩)
    (fun H' p => q Dl H' (fresh_back e1 p.1) (e1.trans p.2.1) p.2.2)⟩
theorem ev_all {bs : List Bool} (h : EvL te σ H (bs.map V.bl)) : Ev (tCB (rAll K) (tCons te tNil)) σ H (.bl (bs.all id)) := fun H1 e Q q => h H1 e _ fun p H2 hp e2 h2 => ⟨p, bs, rfl, sq_of h2, q H2 e2⟩
theorem rc_lenS {Z : Str} (h : Z.length ≤ 100000) : RC (fun xs H Q => ∃ z, xs = [V.str z] ∧ z.length ≤ sizeLine ∧ Q (V.int z.length) H) [.str Z] H (.int Z.length) := fun H1 _ Q q => ⟨Z, rfl, sz_of h, q H1 (Ex.refl H1)⟩
theorem rc_intS {Z : Str} {n : Int} (h : intText? Z = some n) (hl : Z.length ≤ 640) : RC (fun xs H Q => ∃ a n, xs = [V.str a] ∧ intText? a = some n ∧ a.length ≤ 640 ∧ Q (V.int n) H) [.str Z] H (.int n) := fun H1 _ Q q => ⟨Z, n, rfl, h, hl, q H1 (Ex.refl H1)⟩
theorem rc_str {n : Nat} (h : n < 100000) : RC (fun xs H Q => ∃ i, xs = [V.int i] ∧ i.natAbs.log2 < 1920 ∧ Q (V.str (Str.ofString (toString i))) H) [nv n] H (.str (SX.S (nL n))) := fun H1 _ Q q => by
  refine ⟨(n : Int), rfl, ?_, ?_⟩
  · show n.log2 < 1920
    by_cases h0 : n = 0
    · subst h0
      decide
    · exact (Nat.log2_lt h0).mpr (Nat.lt_of_lt_of_le (show n < 2 ^ 17 by omega) (Nat.pow_le_pow_right (by decide) (by decide)))
  · rw [SX.num_S]
    exact q H1 (Ex.refl H1)
theorem ev_join {sep : List Nat} {ps : List (List Nat)} (hs : Ev ta σ H (.str (SX.S sep))) (h : EvL te σ H (ps.map fun p => V.str (SX.S p))) (hl : (TL.joinL sep ps).length ≤ 100000) (hz : (ps.map (·.length)).sum + ps.length * sep.length ≤ 16777216) : Ev (tM1 (rJoin K) ta te) σ H (.str (SX.S (TL.joinL sep ps))) := fun H1 e Q q =>
  hs H1 e _ fun H2 e2 => ⟨⟨_, rfl⟩, h H2 (e.trans e2) _ fun p H3 hp e3 h3 => ⟨SX.S sep, p, ps.map SX.S, rfl, rfl, by rw [List.map_map]; exact sq_of h3, by rw [SX.lens, List.length_map, SX.S_len]; exact hz, by rw [SX.join_S]; exact q H3 (e2.trans e3)⟩⟩
theorem el_split {a b : Str} {ws : List Str} (h1 : Ev ta σ H (.str a)) (h2 : Ev tb σ H (.str b)) (hb : (b.length == 0) = false) (ha : a.length ≤ 90000) (hw : Txt.split a b = ws) : EvL (tM1 (fun x xs H Q => ∃ a b, x = V.str a ∧ xs = [V.str b] ∧ (b.length == 0) = false ∧ a.length + 2 ≤ sizeLine ∧ rNewStrs (Txt.split a b) H Q) ta tb) σ H (ws.map V.str) := fun H1 e Q q =>
  h1 H1 e _ fun H2 e2 => ⟨⟨_, rfl⟩, h2 H2 (e.trans e2) _ fun H3 e3 => ⟨a, b, rfl, rfl, hb, sz_of (by omega), by
    rw [hw]
    exact fun p hp => q p _ (fresh_back (e2.trans e3) hp) ((e2.trans e3).trans (Ex.new hp)) upd_same⟩⟩
end
section
variable {P : Program} {w : World} {K : PySem.W.Frag} {mg : Str → Option Value} {base : Heap} {C : Addr}
theorem k_number_in (T : Txt K mg C) (F : Fn K mg "number_in" s_number_in ["text"]) : Cl P w K mg base 1 "number_in" spNum := by
  refine F.cl sc_number_in (fun vs H Q E h => ?_) (fun f cdv A outer s H vs Q E hr h => ?_)
  · obtain ⟨n, rfl, _⟩ := h
    rfl
  · obtain ⟨n, rfl, hn, k⟩ := h
    have l5 := nL_len hn
    have l1 := nL_pos n
    have lS : (SX.S (nL n)).length = (nL n).length := SX.S_len _
    have sz : (SX.S (nL n)).cps.size = (nL n).length := by show (nL n).toArray.size = _; simp
    refine ⟨_, (pss_cons (ps_if (PW.pt (pw_or (pt_not (pt_chain op_le op_le pe_int (pe_callB call_len_str (by rfl) T.len bt_len (pa_cons (pv 0) pa_nil)) (pkc rfl T.LONGEST_NUMBER))) (pw_or1 (pt_not (pt_val (pe_callB (k_all (K := K) rfl rfl) (by rfl) T.all bt_all (pa_cons (pe_lc (own := [("sign", 1)]) rfl sc_number_in.nd (pi_str (pv 0)) (blkOk_by (own := [("sign", 1)]) (N := N_number_in) (sc := defScope s_number_in) (by decide +kernel)) (fun _ _ _ _ _ => (pg_name (i := 1) sc_number_in.nd rfl (Or.inl rfl))) (fun _ _ _ _ _ => pts_nil) (fun _ _ _ _ _ => (pe_cmpR op_in_sign (pv 1) pe_str (by rfl)))) pa_nil))))))) (pss_one (ps_ret pe_non)) pss_nil)
      (pss_one (ps_ret (pe_ifExp (pt_cmpR op_eq (pv 0) (pe_callTy call_str_int (by rfl) T.str bt_str (pa_cons (pe_callTy call_int_str (by rfl) T.int bt_int (pa_cons (pv 0) pa_nil)) pa_nil)) (nomark _)) (pe_callTy call_int_str (by rfl) T.int bt_int (pa_cons (pv 0) pa_nil)) pe_non)))), ?_⟩
    have dig : ∀ c ∈ nL n, decide (c ∈ (Str.ofString "0123456789").cps.toList) = true := fun c hc => by
      have := TL.numL_digits n c hc
      have key : ∀ c < 58, 48 ≤ c → decide (c ∈ (Str.ofString "0123456789").cps.toList) = true := by decide +kernel
      exact key c (by omega) this.1
    refine q_when (b := false) (et_is (et_or (et_not (et_test (ev_chain (x := .int 1) (y := .int ((SX.S (nL n)).length : Int)) (z := .int 6) (a := decide ((1 : Int) ≤ ((SX.S (nL n)).length : Int))) (b := decide (((SX.S (nL n)).length : Int) ≤ 6)) ev_c (ev_cb (ea_cons (ev_var rfl) ea_nil) (rc_lenS (by omega))) rv_I0 ev_c fun _ => rv_I0))) fun _ => et_not (et_B (ev_all (bs := (List.range (SX.S (nL n)).cps.size).map fun _ => true) ?_))) ?_) (fun h => nomatch h) fun _ H1 e1 => ?_
    · have g : given (SX.S (nL n)).cps.size (fun _ => true) (fun _ => V.bl true) = ((List.range (SX.S (nL n)).cps.size).map fun _ => true).map V.bl := by
        unfold given
        rw [List.filter_eq_self.mpr fun _ _ => rfl, List.map_map]
        rfl
      rw [← g]
      refine el_lcS (fun _ => true) (fun _ => .bl true) (ev_var rfl) (by omega) (fun _ => rfl) (fun i c H1 e hc => et_yes) fun i c H1 e hc _ => ?_
      have hm : c ∈ nL n := by
        have : (SX.S (nL n)).cps.toList[i]? = some c := by rw [Array.getElem?_toList]; exact hc
        exact List.mem_of_getElem? this
      refine ev_op (ev_var rfl) ev_c fun H2 e2 Q' q' => ⟨c, _, rfl, rfl, ?_⟩
      rw [dig c hm]
      exact q' H2 (Ex.refl H2)
    · rw [decide_eq_true (by omega), decide_eq_true (by omega)]
      have : ((List.range (SX.S (nL n)).cps.size).map fun _ => true).all id = true := by
        rw [List.all_eq_true]
        intro b hb
        obtain ⟨_, _, rfl⟩ := List.mem_map.mp hb
        rfl
      rw [this]
      rfl
    · have i := num_int hn
      refine s_ret (ev_if (b := true) (et_is (et_test (ev_op (ev_var rfl) (ev_cb (ea_cons (ev_cb (ea_cons (ev_var rfl) ea_nil) (rc_intS i (by omega))) ea_nil) (rc_str hn)) (rv_eq rfl))) (decide_eq_true rfl)) (fun _ => ev_cb (ea_cons (ev_var rfl) ea_nil) (rc_intS i (by omega))) (fun h => nomatch h)) fun H2 e2 => k _ (e1.trans e2)
theorem spv_num {H : Hp} {n : Nat} (h : n < 100000) : SpV spNum [.str (SX.S (nL n))] H (nv n) := fun H1 _ Q k E => ⟨n, rfl, h, k⟩
theorem k_numbers_in (T : Txt K mg C) (c_number_in : Cl P w K mg base 1 "number_in" spNum) (F : Fn K mg "numbers_in" s_numbers_in ["text"]) : Cl P w K mg base 2 "numbers_in" spNums := by
  refine F.cl sc_numbers_in (fun vs H Q E h => ?_) (fun f cdv A outer s H vs Q E hr h => ?_)
  · obtain ⟨xs, rfl, _⟩ := h
    rfl
  · obtain ⟨xs, rfl, hx, hl, k⟩ := h
    refine ⟨_, (pss_cons (ps_if (pt_cmpR op_eq (pv 0) pe_str (nomark _)) (pss_one (ps_ret (pe_lst pa_nil))) pss_nil)
      (pss_cons (ps_setLc (i := 1) (own := [("word", 2)]) rfl sc_numbers_in.nd rfl rfl (sw_true rfl rfl rfl (by decide +kernel)) (k_pil (K := K) rfl (pe_split (pv 0) pe_str)) (blkOk_by (own := [("word", 2)]) (N := N_numbers_in) (sc := defScope s_numbers_in) (by decide +kernel)) (fun _ _ _ _ _ => (pg_name (i := 2) sc_numbers_in.nd rfl (Or.inl rfl))) (fun _ _ _ _ _ => pts_nil) (fun _ _ _ _ _ => (pc c_number_in hr (by decide) rfl (pa_cons (pv 2) pa_nil))))
      (pss_one (ps_ret (pe_ifExp (pt_cmpR (k_in (K := K) rfl) pe_non (pv 1) (by rfl)) pe_non (pv 1)))))), ?_⟩
    have sd : decide (V.str (SX.S (txP xs)) = V.str (Str.ofString "-")) = decide (txP xs = [45]) := decide_eq_decide.mpr ⟨fun h => SX.S_inj (b := [45]) (V.str.inj h), fun h => by rw [h]; rfl⟩
    by_cases h0 : xs.length = 0
    · have e0 : xs = [] := List.length_eq_zero_iff.mp h0
      subst e0
      refine q_when (b := true) (et_is (et_test (ev_op (ev_var rfl) ev_c (rv_eq rfl))) (by rw [sd]; exact decide_eq_true rfl)) (fun _ H1 e1 => ?_) (fun h => nomatch h)
      exact s_retL (el_lst ea_nil (by simp)) fun p H2 hp e2 h2 => k p H2 (fresh_back e1 hp) (e1.trans e2) h2
    · refine q_when (b := false) (et_is (et_test (ev_op (ev_var rfl) ev_c (rv_eq rfl))) (by rw [sd]; exact decide_eq_false (txP_ne h0))) (fun h => nomatch h) fun _ H1 e1 => ?_
      have tl := txP_len hx
      have E : EvL (tLc (iList K (tM1 (fun x xs H Q => ∃ a b, x = V.str a ∧ xs = [V.str b] ∧ (b.length == 0) = false ∧ a.length + 2 ≤ sizeLine ∧ rNewStrs (Txt.split a b) H Q) (tVar 0) (tC (V.str (Str.ofString " "))))) (gName 2) tYes (tF spNum (tCons (tVar 2) tNil)) [2]) [some (.str (SX.S (txP xs))), none, none] H1 (nvs xs) := by
        have g := given_nvs xs fun _ => true
        rw [List.filter_eq_self.mpr fun _ _ => rfl] at g
        have l : (((xs.map nL).map SX.S).map V.str).length = xs.length := by rw [List.length_map, List.length_map, List.length_map]
        rw [← g, ← l]
        refine el_lcNL _ _ (el_split (ev_var rfl) ev_c rfl (by rw [SX.S_len]; omega) (split_P h0)) (by rw [l]; omega) (fun _ => rfl) (fun i x H2 e hi => et_yes) fun i x H2 e hi _ => ?_
        rw [List.map_map, List.map_map, List.getElem?_map] at hi
        cases hxi : xs[i]? with
        | none => rw [hxi] at hi; cases hi
        | some n =>
          rw [hxi] at hi
          cases hi
          rw [getD_at 0 hxi]
          exact ev_tF (ea_cons (ev_var rfl) ea_nil) (spv_num (hx n (List.mem_of_getElem? hxi)))
      refine q_asgL E fun p H2 hp e2 h2 => ?_
      have nn : inV .non (nvs xs) = false := by
        unfold inV
        rw [List.any_eq_false]
        intro y hy
        obtain ⟨n, _, rfl⟩ := List.mem_map.mp hy
        exact fun z => nomatch z
      refine s_ret (ev_if (v := .ref p) (b := false) (et_is (et_test (ev_op ev_c (ev_var rfl) (rv_isL (sq_of h2) rfl (flat_nvs xs)))) nn) (fun h => nomatch h) (fun _ => ev_var rfl)) fun H3 e3 => k p H3 (fresh_back e1 hp) ((e1.trans e2).trans e3) (e3 _ _ h2)
theorem k_numbers_text (T : Txt K mg C) (F : Fn K mg "numbers_text" s_numbers_text ["numbers"]) : Cl P w K mg base 1 "numbers_text" (spNText K) := by
  refine F.cl sc_numbers_text (fun vs H Q E h => ?_) (fun f cdv A outer s H vs Q E hr h => ?_)
  · obtain ⟨p, xs, rfl, _⟩ := h
    rfl
  · obtain ⟨p, xs, rfl, hp, hx, hl, k⟩ := h
    refine ⟨_, (pss_one (ps_ret (pe_ifExp (pt_cmpR op_eq (pe_callB (k_len (K := K) rfl) (by rfl) T.len bt_len (pa_cons (pv 0) pa_nil)) pe_int (nomark _)) pe_str (k_join (K := K) rfl pe_str (pe_lc (own := [("number", 1)]) rfl sc_numbers_text.nd (k_pit (K := K) rfl (pv 0)) (blkOk_by (own := [("number", 1)]) (N := N_numbers_text) (sc := defScope s_numbers_text) (by decide +kernel)) (fun _ _ _ _ _ => (pg_name (i := 1) sc_numbers_text.nd rfl (Or.inl rfl))) (fun _ _ _ _ _ => pts_nil) (fun _ _ _ _ _ => (pe_callTy call_str_int (by rfl) T.str bt_str (pa_cons (pv 1) pa_nil)))))))), ?_⟩
    have tl := txP_len hx
    have L : Ev (tCB (rLenS K) (tCons (tVar 0) tNil)) [some (.ref p), none] H (nv xs.length) := fun H1 e Q q => ⟨_, rfl, p, nvs xs, rfl, .inr (ex_t e hp), by
      have e2 : (V.int ((nvs xs).length : Int)) = nv xs.length := congrArg V.int (congrArg Int.ofNat (List.length_map _))
      rw [e2]
      exact q H1 (Ex.refl H1)⟩
    refine s_ret (ev_if (v := .str (SX.S (txP xs))) (b := decide (xs.length = 0)) (et_test (ev_op L ev_c (rv_eqN (j := 0)))) (fun h => ?_) (fun h => ?_)) k
    · have h0 := of_decide_eq_true h
      refine ev_is ev_c ?_
      unfold txP
      rw [if_pos h0]
      rfl
    · have h0 := of_decide_eq_false h
      have et : txP xs = TL.joinL [32] (xs.map nL) := by unfold txP; rw [if_neg h0]
      rw [et] at tl ⊢
      have sum : ∀ xs : List Nat, (∀ x ∈ xs, x < 100000) → ((xs.map nL).map (·.length)).sum ≤ xs.length * 5 := by
        intro xs
        induction xs with
        | nil => intro _; exact Nat.le_refl _
        | cons x xs ih =>
          intro h
          have := ih fun y hy => h y (List.mem_cons_of_mem _ hy)
          have := nL_len (h x List.mem_cons_self)
          rw [List.map_cons, List.map_cons, List.sum_cons, List.length_cons, Nat.succ_mul]
          omega
      have sm := sum xs hx
      refine ev_join (sep := [32]) ev_c ?_ (by omega) (by rw [List.length_map]; have e : ([32] : List Nat).length = 1 := rfl; rw [e]; omega)
      have g : given (nvs xs).length (fun _ => true) (fun i => V.str (SX.S (nL (xs.getD i 0)))) = (xs.map nL).map fun p => V.str (SX.S p) := by
        unfold given
        rw [List.filter_eq_self.mpr fun _ _ => rfl, List.length_map]
        conv => rhs; rw [← range_get xs 0]
        rw [List.map_map, List.map_map]
        rfl
      rw [← g]
      refine el_lcT _ _ (ev_var rfl) hp (by rw [List.length_map]; omega) (fun _ => rfl) (fun i x H1 e hi => et_yes) fun i x H1 e hi _ => ?_
      obtain ⟨ex, _, hm⟩ := getD_of hi
      subst ex
      exact ev_cb (ea_cons (ev_var rfl) ea_nil) (rc_str (hx _ hm))
end
end K53
namespace M53
theorem cnt_none {S : Nat → Bool} {m : Nat} (h : ∀ w, m < w → S w = false) : ∀ n, cnt S n ≤ cnt S m
  | 0 => Nat.zero_le _
  | n + 1 => by
    have ih := cnt_none h n
    show cnt S n + (if S (n + 1) then 1 else 0) ≤ _
    by_cases q : m < n + 1
    · rw [h _ q]
      exact ih
    · have := cnt_mono S (show n + 1 ≤ m by omega)
      exact this
theorem Form.dsub {S : Nat → Bool} {h : List Nat} {s L : Nat} {d : List Nat} (F : Form S h s L d) : ∀ g ∈ d, g ∣ L := fun g hg => by
  rw [F.divs] at hg
  exact (mem_dv F.len).mp (List.mem_filter.mp hg).1
theorem Form.dlen {S : Nat → Bool} {h : List Nat} {s L : Nat} {d : List Nat} (F : Form S h s L d) : d.length ≤ 16 := by
  rw [F.divs]
  exact Nat.le_trans (List.length_filter_le _ _) (dv_len _)
theorem Form.hlen {S : Nat → Bool} {h : List Nat} {s L : Nat} {d : List Nat} (F : Form S h s L d) : h.length ≤ 601 := by
  rw [F.head]
  exact Nat.le_trans (List.length_filter_le _ _) (by rw [List.length_range]; exact F.s2)
theorem Form.hmem {S : Nat → Bool} {h : List Nat} {s L : Nat} {d : List Nat} (F : Form S h s L d) {x : Nat} : x ∈ h ↔ 1 ≤ x ∧ x < s ∧ S x = true := by
  have := F.head
  subst this
  exact mem_hd
end M53
namespace K53
open PySem PySem.Spec PyProof.Rows L2 Evl
def spKth (K : PySem.W.Frag) (C : Addr) : Sp := fun vs H Q _ => ∃ (a : Addr) (k x : Nat) (S : Nat → Bool), vs = [.ref a, nv k] ∧ WAt K C H a S ∧ k < M53.cnt S 1400 ∧ 1 ≤ x ∧ S x = true ∧ M53.cnt S x = k + 1 ∧ RetV (nv x) H Q
theorem atI_nvs {xs : List Nat} {i x : Nat} (h : xs[i]? = some x) : atI (nvs xs) (i : Int) = some (nv x) := by
  unfold atI
  rw [ixN_nat (by rw [List.length_map]; exact (List.getElem?_eq_some_iff.mp h).1)]
  show (nvs xs)[i]? = _
  rw [List.getElem?_map, h]
  rfl
theorem rv_eqNil {K : PySem.W.Frag} {H : Hp} {p q : Addr} {d : List Nat} (h : SqT K H p (nvs d)) (h' : SqT K H q []) : RV (rEqD K) (.ref p) (.ref q) H (.bl (decide (d = []))) := fun H1 e Q k => by
  have sh : ∀ d, SeqAt.shaped (.tuple (dI d)) = true := fun d => by
    have a := dI_depth d
    unfold SeqAt.shaped
    simp only [PyData.canLay0, dI_lay, PyData.depth, Bool.true_and]
    refine decide_eq_true ?_
    omega
  refine ⟨_, _, .tup (ex_t e h) (dI_dp d), .tup (ex_t e h') .nil, sh d, sh [], ?_⟩
  have : PyData.eqv (.tuple (dI d)) (.tuple []) = decide (d = []) := by
    cases d with
    | nil => simp [dI, PyData.eqv, PyData.eqvAll]
    | cons x d => simp [dI, PyData.eqv, PyData.eqvAll]
  rw [this]
  exact k H1 (Ex.refl H1)
theorem spv_upto {K : PySem.W.Frag} {H : Hp} {hp p : Addr} {h : List Nat} {s L : Nat} {d : List Nat} {n : Nat} {S : Nat → Bool} (h1 : SqT K H hp (nvs h)) (h2 : ClassesAt K H p L d) (Fo : M53.Form S h s L d) : SpV (spUpTo' K) [.ref hp, nv s, .ref p, nv n] H (nv (M53.cnt S n)) := fun H1 e Q k E =>
  ⟨hp, p, h, s, L, d, n, S, rfl, ex_t e h1, h2.ext e, Fo, k⟩
section
variable {P : Program} {w : World} {K : PySem.W.Frag} {mg : Str → Option Value} {base : Heap} {C : Addr}
theorem k_kth (T : Txt K mg C) (c_is_integer : Cl P w K mg base 1 "is_integer" spInt) (c_members_up_to : Cl P w K mg base 2 "members_up_to" (spUpTo' K)) (c_classes_of : Cl P w K mg base 2 "classes_of" (spClasses K)) (F : Fm K C "kth" "Widths.kth" s_w_kth ["self", "k"]) : Mt P w K mg base 3 C "kth" (spKth K C) := by
  refine F.mt sc_w_kth (fun vs H Q E h => ?_) (fun f cdv A outer s H vs Q E hr h => ?_)
  · obtain ⟨a, k, x, S, rfl, _⟩ := h
    rfl
  · obtain ⟨a, k, x, S, rfl, ⟨h, s, L, d, W, Fo⟩, hk, x1, xS, xk, kk⟩ := h
    refine ⟨_, (pss_cons (ps_if (PW.pt (pw_or (pt_not (pt_val (pc c_is_integer hr (by decide) rfl (pa_cons (pv 1) pa_nil)))) (pw_or1 (pt_cmpR op_lt (pv 1) pe_int (nomark _))))) pss_never pss_nil)
      (pss_cons (ps_if (pt_cmpR op_lt (pv 1) (pe_callB (k_len (K := K) rfl) (by rfl) T.len bt_len (pa_cons (k_fld (K := K) rfl (pv 0) rfl) pa_nil)) (nomark _)) (pss_one (ps_ret (pe_ix (k_ixT (K := K) rfl) (k_fld (K := K) rfl (pv 0) rfl) (pv 1) (fun _ _ => rfl)))) pss_nil)
      (pss_cons (ps_if (pt_cmpR (k_eqD (K := K) hr.units rfl) (k_fld (K := K) rfl (pv 0) rfl) (pe_tup pa_nil) (nomark _)) (pss_one (ps_ret pe_non)) pss_nil)
      (pss_cons (ps_set (i := 2) sc_w_kth.nd rfl (Or.inl rfl) (pc c_classes_of hr (by decide) rfl (pa_cons (k_fld (K := K) rfl (pv 0) rfl) (pa_cons (k_fld (K := K) rfl (pv 0) rfl) pa_nil))))
      (pss_cons (ps_par (i := 3) (j := 4) rfl sc_w_kth.nd rfl rfl (by decide) rfl rfl (pa_cons pe_int (pa_cons (k_fld (K := K) rfl (pv 0) rfl) pa_nil)) (by rfl))
      (pss_cons (ps_while PassesOwn.never (pt_cmpR op_le (pc c_members_up_to hr (by decide) rfl (pa_cons (k_fld (K := K) rfl (pv 0) rfl) (pa_cons (k_fld (K := K) rfl (pv 0) rfl) (pa_cons (pv 2) (pa_cons (pv 4) pa_nil))))) (pv 1) (nomark _)) (pss_one (ps_par (i := 3) (j := 4) rfl sc_w_kth.nd rfl rfl (by decide) rfl rfl (pa_cons (pv 4) (pa_cons (pe_op op_mul pe_int (pv 4)) pa_nil)) (by rfl))))
      (pss_cons (ps_while PassesOwn.never (pt_cmpR op_gt (pe_op op_sub (pv 4) (pv 3)) pe_int (nomark _)) (pss_cons (ps_set (i := 5) sc_w_kth.nd rfl (Or.inl rfl) (pe_op op_fdiv (pe_op op_add (pv 3) (pv 4)) pe_int))
      (pss_one (ps_if (pt_cmpR op_le (pc c_members_up_to hr (by decide) rfl (pa_cons (k_fld (K := K) rfl (pv 0) rfl) (pa_cons (k_fld (K := K) rfl (pv 0) rfl) (pa_cons (pv 2) (pa_cons (pv 5) pa_nil))))) (pv 1) (nomark _)) (pss_one (ps_set (i := 3) sc_w_kth.nd rfl (Or.inl rfl) (pv 5))) (pss_one (ps_set (i := 4) sc_w_kth.nd rfl (Or.inl rfl) (pv 5)))))))
      (pss_one (ps_ret (pv 4)))))))))), ?_⟩
    obtain ⟨dx, hp, dp, h1, h2, h3⟩ := W.ex
    have uniq : ∀ y, 1 ≤ y → S y = true → M53.cnt S y = k + 1 → y = x := fun y y1 yS yk => M53.nth_uniq y1 x1 yS xS yk xk
    have hl : (nvs h).length = M53.cnt S (s - 1) := by rw [List.length_map, Fo.head, M53.hd_length S Fo.s1]
    have f0 : ∀ {σ : L2.St} {H1 : Hp}, Ex H H1 → σ[0]? = some (some (.ref a)) → Ev (tFld K (tVar 0) "head") σ H1 (.ref hp) := fun e hv => ev_fld (ev_var hv) (e _ _ h1) T.cl T.nH (wf_head hp s L dp)
    have f1 : ∀ {σ : L2.St} {H1 : Hp}, Ex H H1 → σ[0]? = some (some (.ref a)) → Ev (tFld K (tVar 0) "start") σ H1 (nv s) := fun e hv => ev_fld (ev_var hv) (e _ _ h1) T.cl T.nS (wf_start hp s L dp)
    have f2 : ∀ {σ : L2.St} {H1 : Hp}, Ex H H1 → σ[0]? = some (some (.ref a)) → Ev (tFld K (tVar 0) "length") σ H1 (nv L) := fun e hv => ev_fld (ev_var hv) (e _ _ h1) T.cl T.nL (wf_length hp s L dp)
    have f3 : ∀ {σ : L2.St} {H1 : Hp}, Ex H H1 → σ[0]? = some (some (.ref a)) → Ev (tFld K (tVar 0) "divisors") σ H1 (.ref dp) := fun e hv => ev_fld (ev_var hv) (e _ _ h1) T.cl T.nD (wf_divisors hp s L dp)
    refine q_when (b := false) (et_is (et_or (et_not (et_test (ev_tF (ea_cons (ev_var rfl) ea_nil) (spv_int (n := (k : Int)))))) fun _ => et_test (ev_op (ev_var rfl) ev_c (rv_ltN (j := 0)))) ?_) (fun h => nomatch h) fun _ H1 e1 => ?_
    · rw [decide_eq_false (by omega)]
      rfl
    have Lh : Ev (tCB (rLenS K) (tCons (tFld K (tVar 0) "head") tNil)) [some (.ref a), some (nv k), none, none, none, none] H1 (nv (M53.cnt S (s - 1))) := fun H2 e2 Q q => f0 e1 rfl H2 e2 _ fun H3 e3 => ⟨hp, nvs h, rfl, .inr (ex_t ((e1.trans e2).trans e3) h2), by
      have : V.int ((nvs h).length : Int) = nv (M53.cnt S (s - 1)) := congrArg V.int (by rw [hl])
      rw [this]
      exact q H3 e3⟩
    refine q_when (b := decide (k < M53.cnt S (s - 1))) (et_test (ev_op (ev_var rfl) Lh rv_ltN)) (fun hb H2 e2 => ?_) (fun hb H2 e2 => ?_)
    · have hb := of_decide_eq_true hb
      have hkl : k < h.length := by rw [List.length_map] at hl; omega
      have hx : h[k]? = some h[k] := List.getElem?_eq_getElem hkl
      obtain ⟨y1, _, yS, yk⟩ := M53.hd_nth (S := S) (s := s) (k := k) (x := h[k]) (by rw [← Fo.head]; exact hx)
      have ey := uniq _ y1 yS yk
      have e12 := e1.trans e2
      refine s_ret (ev_op (f0 e12 rfl) (ev_var rfl) (rv_ixT (ex_t e12 h2) (atI_nvs hx))) fun H3 e3 => ?_
      rw [ey]
      exact kk _ (e12.trans e3)
    have hb : M53.cnt S (s - 1) ≤ k := by have := of_decide_eq_false hb; omega
    have e12 := e1.trans e2
    have dne : ¬ d = [] := fun e => by
      have : ∀ w, s - 1 < w → S w = false := fun w hw => by
        rw [Fo.tail w (by omega), e]
        exact decide_eq_false List.not_mem_nil
      have := M53.cnt_none this 1400
      omega
    refine q_when (b := false) (et_is (et_test (ev_opU (z := .bl (decide (d = []))) (f3 e12 rfl) (eu_tup ea_nil (by simp)) fun q H3 hq e3 => rv_eqNil (ex_t (e12.trans e3) h3) (st_of hq))) (decide_eq_false dne)) (fun h => nomatch h) fun _ H3 e3 => ?_
    have e13 := e12.trans e3
    refine q_asgP (ep_classes (K := K) (ea_cons (f2 e13 rfl) (ea_cons (f3 e13 rfl) ea_nil)) Fo.len (ex_t e13 h3) Fo.dsub Fo.dlen) fun v H4 e4 hv => ?_
    obtain ⟨p, rfl, hc⟩ := hv
    have e14 := e13.trans e4
    refine q_par ev_c (f1 e14 rfl) fun H5 e5 => ?_
    have step : ∀ n, S (n + 1) = true ∨ S (n + 1) = false := fun n => by cases S (n + 1) <;> simp
    have s1 := Fo.s1
    have s601 := Fo.s2
    refine q_while (fun m σ H' => ∃ lo hi : Nat, σ = [some (.ref a), some (nv k), some (.ref p), some (nv lo), some (nv hi), none] ∧ Ex H4 H' ∧ M53.cnt S lo ≤ k ∧ lo < hi ∧ hi ≤ 2800 ∧ m = 2800 - hi) (2800 - s)
      ⟨0, s, rfl, e5, Nat.zero_le _, by omega, by omega, rfl⟩ ?_
    rintro m σ H6 ⟨lo, hi, rfl, e6, hlo, hlh, hhi, rfl⟩
    have up : ∀ {σ : L2.St} {H1 : Hp} {n : Nat} {te : TE}, Ex H4 H1 → σ[0]? = some (some (.ref a)) → σ[2]? = some (some (.ref p)) → Ev te σ H1 (nv n) → Ev (tF (spUpTo' K) (tCons (tFld K (tVar 0) "head") (tCons (tFld K (tVar 0) "start") (tCons (tVar 2) (tCons te tNil))))) σ H1 (nv (M53.cnt S n)) := fun e h0 hp2 hn =>
      ev_tF (ea_cons (f0 (e14.trans e) h0) (ea_cons (f1 (e14.trans e) h0) (ea_cons (ev_var hp2) (ea_cons hn ea_nil)))) (spv_upto (ex_t (e14.trans e) h2) (hc.ext e) Fo)
    refine ⟨decide (M53.cnt S hi ≤ k), et_test (ev_op (up e6 rfl rfl (ev_var rfl)) (ev_var rfl) rv_leN), fun hb H7 e7 => ?_, fun hb H7 e7 => ?_⟩
    · have hb := of_decide_eq_true hb
      have h14 : hi < 1400 := by
        refine Classical.byContradiction fun z => ?_
        have := M53.cnt_mono S (show 1400 ≤ hi by omega)
        omega
      refine ⟨_, fun _ _ h => h, ?_⟩
      exact s_par (ev_var rfl) (ev_op ev_c (ev_var rfl) (rv_mulN (i := 2) (by omega))) fun H8 e8 => ⟨2800 - 2 * hi, by omega, hi, 2 * hi, rfl, (e6.trans e7).trans e8, hb, by omega, by omega, rfl⟩
    · have hb : k < M53.cnt S hi := by have := of_decide_eq_false hb; omega
      refine q_while (fun m σ H' => ∃ (lo hi : Nat) (o : Option V), σ = [some (.ref a), some (nv k), some (.ref p), some (nv lo), some (nv hi), o] ∧ Ex H4 H' ∧ M53.cnt S lo ≤ k ∧ k < M53.cnt S hi ∧ lo < hi ∧ hi ≤ 2800 ∧ m = hi - lo) (hi - lo)
        ⟨lo, hi, _, rfl, e6.trans e7, hlo, hb, hlh, hhi, rfl⟩ ?_
      rintro m σ H8 ⟨lo, hi, o, rfl, e8, hlo, hhk, hlh, hhi, rfl⟩
      refine ⟨decide (1 < hi - lo), et_test (ev_op (ev_op (ev_var rfl) (ev_var rfl) (rv_subN (by omega))) ev_c (rv_gtN (j := 1))), fun hb H9 e9 => ?_, fun hb H9 e9 => ?_⟩
      · have hb := of_decide_eq_true hb
        refine ⟨_, fun _ _ h => h, ?_⟩
        refine q_asg (ev_op (ev_op (ev_var rfl) (ev_var rfl) rv_addN) ev_c (rv_divN (j := 2) (by omega) (by omega))) fun H10 e10 => ?_
        refine s_if (b := decide (M53.cnt S ((lo + hi) / 2) ≤ k)) (et_test (ev_op (up ((e8.trans e9).trans e10) rfl rfl (ev_var rfl)) (ev_var rfl) rv_leN)) (fun hb2 H11 e11 => ?_) (fun hb2 H11 e11 => ?_)
        · exact s_asg (ev_var rfl) fun H12 e12 => ⟨hi - (lo + hi) / 2, by omega, (lo + hi) / 2, hi, _, rfl, (((e8.trans e9).trans e10).trans e11).trans e12, of_decide_eq_true hb2, hhk, by omega, hhi, rfl⟩
        · have : k < M53.cnt S ((lo + hi) / 2) := by have := of_decide_eq_false hb2; omega
          exact s_asg (ev_var rfl) fun H12 e12 => ⟨(lo + hi) / 2 - lo, by omega, lo, (lo + hi) / 2, _, rfl, (((e8.trans e9).trans e10).trans e11).trans e12, hlo, this, by omega, by omega, rfl⟩
      · have hb := of_decide_eq_false hb
        have eh : hi = lo + 1 := by omega
        subst eh
        have ec : M53.cnt S (lo + 1) = M53.cnt S lo + if S (lo + 1) then 1 else 0 := rfl
        have ey : lo + 1 = x := by
          rcases step lo with z | z
          · rw [z, if_pos rfl] at ec
            exact uniq _ (by omega) z (by omega)
          · rw [z] at ec
            simp only [Bool.false_eq_true, if_false] at ec
            omega
        rw [ey]
        exact s_ret (ev_var rfl) fun H10 e10 => kk _ (((e14.trans e8).trans e9).trans e10)
theorem spv_ntext {H : Hp} {p : Addr} {xs : List Nat} (hp : SqT K H p (nvs xs)) (hx : ∀ x ∈ xs, x < 100000) (hl : xs.length ≤ 700) : SpV (spNText K) [.ref p] H (.str (SX.S (txP xs))) := fun H1 e Q k E => ⟨p, xs, rfl, ex_t e hp, hx, hl, k⟩
theorem k_str (T : Txt K mg C) (c_numbers_text : Cl P w K mg base 1 "numbers_text" (spNText K)) (F : Fm K C "__str__" "Widths.__str__" s_w_str ["self"]) : ∃ f, FnR P w K mg base CX0 2 f (spStr K C) ∧ Meth K C "__str__" f := by
  refine F.fr sc_w_str (fun vs H Q E h => ?_) (fun f cdv A outer s H vs Q E hr h => ?_)
  · obtain ⟨a, h, s, L, d, rfl, _⟩ := h
    rfl
  · obtain ⟨a, h, s, L, d, rfl, W, hh, hs, hL, hd, lh, ld, k⟩ := h
    refine ⟨_, (pss_cons (ps_set (i := 1) sc_w_str.nd rfl (Or.inl rfl) (pe_lst (pa_cons (k_fld (K := K) rfl (pv 0) rfl) (pa_cons (pe_tup (pa_cons (k_fld (K := K) rfl (pv 0) rfl) pa_nil)) (pa_cons (pe_tup (pa_cons (k_fld (K := K) rfl (pv 0) rfl) pa_nil)) (pa_cons (k_fld (K := K) rfl (pv 0) rfl) pa_nil))))))
      (pss_one (ps_ret (k_join (K := K) rfl pe_str (pe_lc (own := [("part", 2)]) rfl sc_w_str.nd (k_pil (K := K) rfl (pv 1)) (blkOk_by (own := [("part", 2)]) (N := N_w_str) (sc := defScope s_w_str) (by decide +kernel)) (fun _ _ _ _ _ => (pg_name (i := 2) sc_w_str.nd rfl (Or.inl rfl))) (fun _ _ _ _ _ => pts_nil) (fun _ _ _ _ _ => (pc c_numbers_text hr (by decide) rfl (pa_cons (pv 2) pa_nil)))))))), ?_⟩
    obtain ⟨dx, hp, dp, h1, h2, h3⟩ := W.ex
    have one : ∀ {n : Nat} {te : TE} {σ : L2.St} {H1 : Hp}, Ev te σ H1 (nv n) → EvP (tTup (tCons te tNil)) σ H1 fun v H2 => ∃ p, v = .ref p ∧ SqT K H2 p (nvs [n]) := fun h => (ep_tupV (ea_cons h ea_nil) (by simp)).imp fun v H2 _ r => let ⟨p, a, b⟩ := r; ⟨p, a, st_of b⟩
    have mono : ∀ {n : Nat} (v : V) (H1 H2 : Hp), Ex H1 H2 → (∃ p, v = .ref p ∧ SqT K H1 p (nvs [n])) → ∃ p, v = .ref p ∧ SqT K H2 p (nvs [n]) := fun v H1 H2 e r => let ⟨p, a, b⟩ := r; ⟨p, a, ex_t e b⟩
    have mono2 : ∀ {n : Nat} {ws : List V} (v : List V) (H1 H2 : Hp), Ex H1 H2 → (∃ x, v = x :: ws ∧ ∃ p, x = .ref p ∧ SqT K H1 p (nvs [n])) → (∃ x, v = x :: ws ∧ ∃ p, x = .ref p ∧ SqT K H2 p (nvs [n])) := fun v H1 H2 e r => let ⟨x, z, p, a, b⟩ := r; ⟨x, z, p, a, ex_t e b⟩
    have A3 : EvPA (tCons (tTup (tCons (tFld K (tVar 0) "start") tNil)) (tCons (tTup (tCons (tFld K (tVar 0) "length") tNil)) (tCons (tFld K (tVar 0) "divisors") tNil))) [some (.ref a), none, none] H fun ws H2 => ∃ p q, ws = [.ref p, .ref q, .ref dp] ∧ SqT K H2 p (nvs [s]) ∧ SqT K H2 q (nvs [L]) := fun H1 e1 Q q =>
      one (ev_fld (ev_var rfl) h1 T.cl T.nS (wf_start hp s L dp)) H1 e1 _ fun v H2 e2 hv => epa_P1 (one (ev_fld (ev_var rfl) h1 T.cl T.nL (wf_length hp s L dp))) (ea_cons (ev_fld (ev_var rfl) h1 T.cl T.nD (wf_divisors hp s L dp)) ea_nil) mono H2 (e1.trans e2) _ fun vs H3 e3 hvs => by
        obtain ⟨p, rfl, hp'⟩ := hv
        obtain ⟨x, rfl, p', rfl, hp2⟩ := hvs
        exact q _ H3 (e2.trans e3) ⟨p, p', rfl, ex_t e3 hp', hp2⟩
    have A4 := epa_V (ev_fld (ev_var (σ := [some (.ref a), none, none]) (i := 0) rfl) h1 T.cl T.nH (wf_head hp s L dp)) A3
    refine q_asgP (R := fun v H2 => ∃ l p q, v = .ref l ∧ H2 l = some (.lst [.ref hp, .ref p, .ref q, .ref dp]) ∧ SqT K H2 p (nvs [s]) ∧ SqT K H2 q (nvs [L])) (fun H1 e1 Q q => A4 H1 e1 _ fun ws H2 e2 hw => ?_) fun v H1 e1 hv => ?_
    · obtain ⟨vs, rfl, p, p', rfl, b1, b2⟩ := hw
      refine ⟨sz_of (by simp), fun l hl => q _ _ (e2.trans (Ex.new hl)) ⟨l, p, p', rfl, upd_same, ex_t (Ex.new hl) b1, ex_t (Ex.new hl) b2⟩⟩
    · obtain ⟨l, p, q, rfl, hl, b1, b2⟩ := hv
      have fr : ∀ xs, (∀ x ∈ xs, x < 100000) → xs.length ≤ 700 → (txP xs).length ≤ 4201 := fun xs hx hl => by have := txP_len hx; omega
      have hs1 : ∀ x ∈ [s], x < 100000 := fun x hx => by have e : x = s := (by simpa using hx); rw [e]; exact hs
      have hL1 : ∀ x ∈ [L], x < 100000 := fun x hx => by have e : x = L := (by simpa using hx); rw [e]; exact hL
      have g : given ([.ref hp, .ref p, .ref q, .ref dp] : List V).length (fun _ => true) (fun i => V.str (SX.S ([txP h, txP [s], txP [L], txP d].getD i []))) = [txP h, txP [s], txP [L], txP d].map fun p => V.str (SX.S p) := rfl
      have B := [txP h, txP [s], txP [L], txP d]
      have E := el_lcL (K := K) (σ := [some (.ref a), some (.ref l), none]) (H := H1) (vs := [2]) (j := 2) (t := tYes) (te := tF (spNText K) (tCons (tVar 2) tNil)) (tl := tVar 1) (a := l) (fun _ => true) (fun i => V.str (SX.S ([txP h, txP [s], txP [L], txP d].getD i []))) (ev_var rfl) (sq_of hl) (by simp) (fun _ => rfl) (fun i x H2 e hi => et_yes) (fun i x H2 e hi _ => by
        have e12 := e1.trans e
        match i, hi with
        | 0, hi => cases hi; exact ev_tF (ea_cons (ev_var rfl) ea_nil) (spv_ntext (ex_t e12 h2) hh lh)
        | 1, hi => cases hi; exact ev_tF (ea_cons (ev_var rfl) ea_nil) (spv_ntext (ex_t e b1) hs1 (by simp))
        | 2, hi => cases hi; exact ev_tF (ea_cons (ev_var rfl) ea_nil) (spv_ntext (ex_t e b2) hL1 (by simp))
        | 3, hi => cases hi; exact ev_tF (ea_cons (ev_var rfl) ea_nil) (spv_ntext (ex_t e12 h3) hd (by omega))
        | n + 4, hi => simp at hi)
      rw [g] at E
      have := txW_len hh hs hL hd lh ld
      have t1 := fr h hh lh
      have t2 := fr [s] hs1 (by simp)
      have t3 := fr [L] hL1 (by simp)
      have t4 := fr d hd (by omega)
      refine s_ret (ev_join (sep := [32, 124, 32]) ev_c E (by unfold txW at this; omega) ?_) fun H2 e2 => k _ (e1.trans e2)
      show (txP h).length + ((txP [s]).length + ((txP [L]).length + ((txP d).length + 0))) + 4 * 3 ≤ _
      omega
end
end K53
namespace K53
open PySem PySem.Spec PyProof.Rows L2 Evl
section
variable {K : PySem.W.Frag} {σ : L2.St} {H H' : Hp} {ta tb tc td te tl tl1 ty tv : TE} {t : TA} {tt : TT} {x y z v : V} {g : TG} {vs : List Nat} {tu tw tz : TS} {D : Ends} {a : Addr} {C : Addr} {xs : List V}
theorem el_if {b : Bool} (h : EvT tt σ H b) (h1 : b = true → EvL ta σ H xs) (h2 : b = false → EvL tb σ H xs) : EvL (tIf tt ta tb) σ H xs := fun H1 e Q q => h H1 e _ fun H2 e2 => by
  cases b with
  | true =>
    show ta σ H2 Q
    exact h1 rfl H2 (e.trans e2) Q fun p H3 hp e3 h3 => q p H3 (fresh_back e2 hp) (e2.trans e3) h3
  | false =>
    show tb σ H2 Q
    exact h2 rfl H2 (e.trans e2) Q fun p H3 hp e3 h3 => q p H3 (fresh_back e2 hp) (e2.trans e3) h3
theorem ed_list {Dl : Addr} {R : V → Hp → Prop} (h : EvL te σ H xs) (r : ∀ l H2, H2 l = some (.lst xs) → R (.ref l) H2) : EvD Dl te σ H R := fun H1 e hD Q q => h H1 e Q fun l H2 hl e2 h2 => q _ H2 e2 (r l _ (by
  rw [del_at fun z => hD (by rw [← z]; exact hl)]
  exact h2))
theorem q_asgLcP {n i : Nat} {R : Nat → V → Hp → Prop} (h : LcP te σ H n R) (k : ∀ p ys H1, H p = none → Ex H H1 → H1 p = some (.lst ys) → ys.length = n → (∀ j y, ys[j]? = some y → R j y H1) → tz D (σ.set i (some (.ref p))) H1) : tSeq (tAsg te (gName i)) tz D σ H := h H (Ex.refl H) _ k
theorem rv_noneIn {p l0 l1 l2 l3 : Addr} {a b c d : List Nat} (h : SqL K H p [.ref l0, .ref l1, .ref l2, .ref l3]) (h0 : SqL K H l0 (nvs a)) (h1 : SqL K H l1 (nvs b)) (h2 : SqL K H l2 (nvs c)) (h3 : SqL K H l3 (nvs d)) : RV (rInD K) .non (.ref p) H (.bl false) := fun H1 e Q k => by
  refine ⟨.none, [.list (dI a), .list (dI b), .list (dI c), .list (dI d)], .non, .lst (ex_l e h) (.cons (.lst (ex_l e h0) (dI_dp a)) (.cons (.lst (ex_l e h1) (dI_dp b)) (.cons (.lst (ex_l e h2) (dI_dp c)) (.cons (.lst (ex_l e h3) (dI_dp d)) .nil)))), rfl, ?_, ?_⟩
  · have a1 := dI_depth a
    have a2 := dI_depth b
    have a3 := dI_depth c
    have a4 := dI_depth d
    unfold SeqAt.shaped
    simp only [PyData.canLay0, PyData.canLayAll0, dI_lay, PyData.depth, PyData.depthAll, Bool.true_and, Bool.and_true]
    refine decide_eq_true ?_
    omega
  · have : (List.any [PyData.list (dI a), .list (dI b), .list (dI c), .list (dI d)] fun z => PyData.eqv z .none) = false := by simp [PyData.eqv]
    rw [this]
    exact k H1 (Ex.refl H1)
theorem spl_nums {xs : List Nat} (h : ∀ x ∈ xs, x < 100000) (hl : xs.length ≤ 700) : SpL spNums [.str (SX.S (txP xs))] H (nvs xs) := fun H1 e Q k E => ⟨xs, rfl, h, hl, fun p H2 hp e h2 => k p H2 hp e h2⟩
/-- all of true things -/
theorem ev_allT {p : Addr} {xs : List Nat} {j : Nat} (ht : Ev tl σ H (.ref p)) (hp : SqL K H p (nvs xs)) (hz : xs.length ≤ 40000) (hw : ∀ x, wipe ((wipe σ vs).set j (some x)) vs = wipe σ vs) (he : ∀ (x : Nat) H1, Ex H H1 → x ∈ xs → Ev te ((wipe σ vs).set j (some (nv x))) H1 (.bl true)) :
    Ev (tCB (rAll K) (tCons (tLc (iList K tl) (gName j) tYes te vs) tNil)) σ H (.bl true) := by
  have g : given (nvs xs).length (fun _ => true) (fun _ => V.bl true) = ((List.range (nvs xs).length).map fun _ => true).map V.bl := by
    unfold given
    rw [List.filter_eq_self.mpr fun _ _ => rfl, List.map_map]
    rfl
  have al : ((List.range (nvs xs).length).map fun _ => true).all id = true := by
    rw [List.all_eq_true]
    intro b hb
    obtain ⟨_, _, rfl⟩ := List.mem_map.mp hb
    rfl
  have E : EvL (tLc (iList K tl) (gName j) tYes te vs) σ H (given (nvs xs).length (fun _ => true) (fun _ => V.bl true)) := el_lcL _ _ ht hp (by rw [List.length_map]; exact hz) hw (fun i x H1 e hi => et_yes) fun i x H1 e hi _ => by
    obtain ⟨ex, _, hm⟩ := getD_of hi
    subst ex
    exact he _ H1 e hm
  rw [g] at E
  have := ev_all (K := K) E
  rw [al] at this
  exact this
theorem ep_formed {hp dp : Addr} {xs ds : List Nat} {s L : Nat} {S : Nat → Bool} (ht : EvA t σ H [.ref hp, nv s, nv L, .ref dp]) (h1 : SqA K H hp (nvs xs)) (h2 : SqA K H dp (nvs ds)) (hL : L ∣ 120) (s1 : 1 ≤ s) (s2 : s ≤ 2000) (xl : xs.length ≤ 2000) (xb : ∀ x ∈ xs, 1 ≤ x ∧ x < s) (hS1 : ∀ w, 1 ≤ w → w < s → S w = decide (w ∈ xs)) (hS2 : ∀ w, s ≤ w → S w = decide (Nat.gcd w L ∈ ds)) (tl : M53.Tail S) :
    EvP (tF (spFormed K C) t) σ H fun v H2 => ∃ a, v = .ref a ∧ WAt K C H2 a S := fun H1 e Q q => ht H1 e _ fun H2 e2 => ⟨hp, dp, xs, ds, s, L, S, rfl, h1.ext (e.trans e2), h2.ext (e.trans e2), hL, s1, s2, xl, xb, hS1, hS2, tl, fun a H3 e3 hW => q _ H3 (e2.trans e3) ⟨a, rfl, hW⟩⟩
/-- str(o), its form told -/
theorem ev_strW {h d : List Nat} {s L : Nat} {S : Nat → Bool} (ht : Ev ta σ H (.ref a)) (w : WAt K C H a S) (Fo : M53.Form S h s L d) : Ev (tCB (rStrOwn C (spStr K C)) (tCons ta tNil)) σ H (.str (SX.S (txW h s L d))) := fun H1 e Q q => ht H1 e _ fun H2 e2 => by
  obtain ⟨h', s', L', d', W, Fo'⟩ := w.ext (e.trans e2)
  obtain ⟨rfl, rfl, rfl, rfl⟩ := Fo.uniq Fo' fun _ _ => rfl
  obtain ⟨dx, hp, dp, h1, h2, h3⟩ := W.ex
  have s2 := Fo.s2
  have L2 := M53.le120 Fo.len
  refine ⟨a, dx, _, rfl, h1, a, h, s, L, d, rfl, W, fun x hx => ?_, by omega, by omega, fun x hx => ?_, by have := Fo.hlen; omega, Fo.dlen, fun H3 e3 => ⟨_, rfl, q H3 (e2.trans e3)⟩⟩
  · have := (Fo.hmem).mp hx
    omega
  · have := Nat.le_of_dvd (M53.pos120 Fo.len) (Fo.dsub x hx)
    omega
end
section
variable {P : Program} {w : World} {K : PySem.W.Frag} {mg : Str → Option Value} {base : Heap} {C : Addr}
theorem k_read (T : Txt K mg C) (c_numbers_in : Cl P w K mg base 2 "numbers_in" spNums) (c_is_between : Cl P w K mg base 2 "is_between" spBetween) (c_formed : Cl P w K mg base 4 "formed" (spFormed K C)) (c_str : OpU P w K mg base 2 C "__str__" (spStr K C)) (F : Fc K C "read" "Widths.read" s_w_read ["cls", "text"]) : Cm P w K mg base 5 C "read" (spRead K C) := by
  refine F.cm sc_w_read (fun vs H Q E h => ?_) (fun f cdv A outer s H vs Q E hr h => ?_)
  · obtain ⟨h, s, L, d, S, rfl, _⟩ := h
    rfl
  · obtain ⟨h, s, L, d, S, rfl, Fo, k⟩ := h
    refine ⟨_, (pss_cons (ps_set (i := 2) sc_w_read.nd rfl (Or.inl rfl) (pe_ifExp (pt_val (pe_callB (k_isi (K := K) rfl) (by rfl) T.isinstance bt_isinstance (pa_cons (pv 1) (pa_cons (pe_bltn (v := .ty "str") rfl T.str bt_str rfl) pa_nil)))) (pe_split (pv 1) pe_str) (pe_lst pa_nil)))
      (pss_cons (ps_setLc (i := 3) (own := [("part", 9)]) rfl sc_w_read.nd rfl rfl (sw_true rfl rfl rfl (by decide +kernel)) (k_pil (K := K) rfl (pv 2)) (blkOk_by (own := [("part", 9)]) (N := N_w_read) (sc := defScope s_w_read) (by decide +kernel)) (fun _ _ _ _ _ => (pg_name (i := 9) sc_w_read.nd rfl (Or.inl rfl))) (fun _ _ _ _ _ => pts_nil) (fun _ _ _ _ _ => (pc c_numbers_in hr (by decide) rfl (pa_cons (pv 9) pa_nil))))
      (pss_cons (ps_if (PW.pt (pw_or (pt_cmpR op_ne (pe_callB (k_len (K := K) rfl) (by rfl) T.len bt_len (pa_cons (pv 2) pa_nil)) pe_int (nomark _)) (pw_or (pt_cmpR (op_inD (room65 hr)) pe_non (pv 3) (by rfl)) (pw_or (pt_cmpR op_ne (pe_callB (k_len (K := K) rfl) (by rfl) T.len bt_len (pa_cons (pe_ix (k_ixL (K := K) rfl) (pv 3) pe_int (fun _ _ => rfl)) pa_nil)) pe_int (nomark _)) (pw_or1 (pt_cmpR op_ne (pe_callB (k_len (K := K) rfl) (by rfl) T.len bt_len (pa_cons (pe_ix (k_ixL (K := K) rfl) (pv 3) pe_int (fun _ _ => rfl)) pa_nil)) pe_int (nomark _))))))) pss_never pss_nil)
      (pss_cons (ps_asg (pe_tup (pa_cons (pe_ix (k_ixL (K := K) rfl) (pv 3) pe_int (fun _ _ => rfl)) (pa_cons (pe_ix (k_ixL (K := K) rfl) (pe_ix (k_ixL (K := K) rfl) (pv 3) pe_int (fun _ _ => rfl)) pe_int (fun _ _ => rfl)) (pa_cons (pe_ix (k_ixL (K := K) rfl) (pe_ix (k_ixL (K := K) rfl) (pv 3) pe_int (fun _ _ => rfl)) pe_int (fun _ _ => rfl)) (pa_cons (pe_ix (k_ixL (K := K) rfl) (pv 3) pe_int (fun _ _ => rfl)) pa_nil))))) (k_pgt (K := K) (n := 4) rfl rfl (pgs_cons (pg_name (i := 4) sc_w_read.nd rfl (Or.inl rfl)) (pgs_cons (pg_name (i := 5) sc_w_read.nd rfl (Or.inr rfl)) (pgs_cons (pg_name (i := 6) sc_w_read.nd rfl (Or.inr rfl)) (pgs_cons (pg_name (i := 7) sc_w_read.nd rfl (Or.inl rfl)) pgs_nil))))))
      (pss_cons (ps_if (PW.pt (pw_or (pt_not (pt_val (pc c_is_between hr (by decide) rfl (pa_cons (pv 5) (pa_cons pe_int (pa_cons (pe_op op_add (pkc rfl T.MOST_WIDTH) pe_int) pa_nil)))))) (pw_or1 (pt_not (pt_val (pc c_is_between hr (by decide) rfl (pa_cons (pv 6) (pa_cons pe_int (pa_cons (pkc rfl T.MOST_LENGTH) pa_nil))))))))) pss_never pss_nil)
      (pss_cons (ps_if (pt_not (pt_val (pe_callB (k_all (K := K) rfl rfl) (by rfl) T.all bt_all (pa_cons (pe_lc (own := [("w", 10)]) rfl sc_w_read.nd (k_pil (K := K) rfl (pv 4)) (blkOk_by (own := [("w", 10)]) (N := N_w_read) (sc := defScope s_w_read) (by decide +kernel)) (fun _ _ _ _ _ => (pg_name (i := 10) sc_w_read.nd rfl (Or.inl rfl))) (fun _ _ _ _ _ => pts_nil) (fun _ _ _ _ _ => (pc c_is_between hr (by decide) rfl (pa_cons (pv 10) (pa_cons pe_int (pa_cons (pe_op op_sub (pv 5) pe_int) pa_nil)))))) pa_nil)))) pss_never pss_nil)
      (pss_cons (ps_if (pt_not (pt_val (pe_callB (k_all (K := K) rfl rfl) (by rfl) T.all bt_all (pa_cons (pe_lc (own := [("divisor", 11)]) rfl sc_w_read.nd (k_pil (K := K) rfl (pv 7)) (blkOk_by (own := [("divisor", 11)]) (N := N_w_read) (sc := defScope s_w_read) (by decide +kernel)) (fun _ _ _ _ _ => (pg_name (i := 11) sc_w_read.nd rfl (Or.inl rfl))) (fun _ _ _ _ _ => pts_nil) (fun _ _ _ _ _ => (pe_and (pe_cmpR op_gt (pv 11) pe_int (nomark _)) (pe_one (pe_cmpR op_eq (pe_op op_mod (pv 6) (pv 11)) pe_int (nomark _)))))) pa_nil)))) pss_never pss_nil)
      (pss_cons (ps_set (i := 8) sc_w_read.nd rfl (Or.inl rfl) (pc c_formed hr (by decide) rfl (pa_cons (pv 4) (pa_cons (pv 5) (pa_cons (pv 6) (pa_cons (pv 7) pa_nil))))))
      (pss_cons (ps_if (pt_cmpR op_ne (pe_callTy (c_str.call hr (by decide)) (by rfl) T.str bt_str (pa_cons (pv 8) pa_nil)) (pv 1) (nomark _)) pss_never pss_nil)
      (pss_one (ps_ret (pv 8)))))))))))), ?_⟩
    have s1 := Fo.s1
    have s2 := Fo.s2
    have L0 := M53.pos120 Fo.len
    have L120 := M53.le120 Fo.len
    have hl := Fo.hlen
    have dl := Fo.dlen
    have hb : ∀ x ∈ h, x < 100000 := fun x hx => by have := Fo.hmem.mp hx; omega
    have db : ∀ x ∈ d, x < 100000 := fun x hx => by have := Nat.le_of_dvd L0 (Fo.dsub x hx); omega
    have sb : ∀ x ∈ [s], x < 100000 := fun x hx => by have e : x = s := (by simpa using hx); rw [e]; omega
    have Lb : ∀ x ∈ [L], x < 100000 := fun x hx => by have e : x = L := (by simpa using hx); rw [e]; omega
    have tlen := txW_len hb (show s < 100000 by omega) (show L < 100000 by omega) db (by omega) (by omega)
    refine q_asgL (el_if (b := true) (et_B (ev_cb (ea_cons (ev_var rfl) (ea_cons ev_c ea_nil)) rc_isStr)) (fun _ => el_split (ev_var rfl) ev_c rfl (by rw [SX.S_len]; omega) (split_W h s L d)) (fun h => nomatch h)) fun pp H1 hpp e1 h1 => ?_
    have E : LcP (tLc (iList K (tVar 2)) (gName 9) tYes (tF spNums (tCons (tVar 9) tNil)) [9]) [some (.ref C), some (.str (SX.S (txW h s L d))), some (.ref pp), none, none, none, none, none, none, none, none, none] H1 4 (fun i v H2 => ∃ l, v = .ref l ∧ SqL K H2 l (nvs ([h, [s], [L], d].getD i []))) := by
      refine lcL (K := K) (tl := tVar 2) (g := gName 9) (xs := [SX.S (txP h), SX.S (txP [s]), SX.S (txP [L]), SX.S (txP d)].map V.str) _ (fun i v H1 H2 e r => let ⟨l, a, b⟩ := r; ⟨l, a, ex_l e b⟩) (ev_var rfl) (sq_of h1) (by simp) fun i x H2 e hi Z hz => ?_
      match i, hi with
      | 0, hi => cases hi; exact hz _ rfl fun Dl => ed_list (el_tF (ea_cons (ev_var rfl) ea_nil) (spl_nums hb (by omega))) fun l H3 h3 => ⟨l, rfl, sq_of h3⟩
      | 1, hi => cases hi; exact hz _ rfl fun Dl => ed_list (el_tF (ea_cons (ev_var rfl) ea_nil) (spl_nums sb (by simp))) fun l H3 h3 => ⟨l, rfl, sq_of h3⟩
      | 2, hi => cases hi; exact hz _ rfl fun Dl => ed_list (el_tF (ea_cons (ev_var rfl) ea_nil) (spl_nums Lb (by simp))) fun l H3 h3 => ⟨l, rfl, sq_of h3⟩
      | 3, hi => cases hi; exact hz _ rfl fun Dl => ed_list (el_tF (ea_cons (ev_var rfl) ea_nil) (spl_nums db (by omega))) fun l H3 h3 => ⟨l, rfl, sq_of h3⟩
      | n + 4, hi => simp at hi
    refine q_asgLcP E fun np ys H2 hnp e2 h2 hyl hys => ?_
    match ys, hyl with
    | [y0, y1, y2, y3], _ =>
    obtain ⟨l0, rfl, g0⟩ := hys 0 y0 rfl
    obtain ⟨l1, rfl, g1⟩ := hys 1 y1 rfl
    obtain ⟨l2, rfl, g2⟩ := hys 2 y2 rfl
    obtain ⟨l3, rfl, g3⟩ := hys 3 y3 rfl
    have g0 : SqL K H2 l0 (nvs h) := g0
    have g1 : SqL K H2 l1 (nvs [s]) := g1
    have g2 : SqL K H2 l2 (nvs [L]) := g2
    have g3 : SqL K H2 l3 (nvs d) := g3
    have hnum : SqL K H2 np [.ref l0, .ref l1, .ref l2, .ref l3] := sq_of h2
    refine q_when (b := false) (et_is (et_or (et_test (ev_op (ev_len (ev_var rfl) (sq_of (e2 _ _ h1))) ev_c (rv_ne rfl))) fun _ => et_or (et_test (ev_op ev_c (ev_var rfl) (rv_noneIn hnum g0 g1 g2 g3))) fun _ => et_or (et_test (ev_op (ev_len (ev_op (ev_var rfl) ev_c (rv_ixL hnum rfl)) g1) ev_c (rv_ne rfl))) fun _ => et_test (ev_op (ev_len (ev_op (ev_var rfl) ev_c (rv_ixL hnum rfl)) g2) ev_c (rv_ne rfl))) rfl) (fun h => nomatch h) fun _ H3 e3 => ?_
    have e13 := (e1.trans e2).trans e3
    refine q_asgG (ep_tupV (ws := [.ref l0, nv s, nv L, .ref l3]) (ea_cons (ev_op (ev_var rfl) ev_c (rv_ixL (ex_l e3 hnum) rfl)) (ea_cons (ev_op (ev_op (ev_var rfl) ev_c (rv_ixL (ex_l e3 hnum) rfl)) ev_c (rv_ixL (ex_l e3 g1) rfl)) (ea_cons (ev_op (ev_op (ev_var rfl) ev_c (rv_ixL (ex_l e3 hnum) rfl)) ev_c (rv_ixL (ex_l e3 g2) rfl)) (ea_cons (ev_op (ev_var rfl) ev_c (rv_ixL (ex_l e3 hnum) rfl)) ea_nil)))) (by simp)) fun v H4 e4 hv => ?_
    obtain ⟨tp, rfl, htp⟩ := hv
    refine ⟨tp, _, rfl, st_of htp, rfl, _, _, rfl, _, _, rfl, _, _, rfl, _, _, rfl, rfl, ?_⟩
    have g0 := ex_l (e3.trans e4) g0
    have g3 := ex_l (e3.trans e4) g3
    refine q_when (b := false) (et_is (et_or (et_not (et_B (ev_tF (ea_cons (ev_var rfl) (ea_cons ev_c (ea_cons (ev_op ev_c ev_c rv_I0) ea_nil))) (spv_between (n := (s : Int)) (lo := 1) (hi := 1001))))) fun _ => et_not (et_B (ev_tF (ea_cons (ev_var rfl) (ea_cons ev_c (ea_cons ev_c ea_nil))) (spv_between (n := (L : Int)) (lo := 1) (hi := 5040))))) ?_) (fun h => nomatch h) fun _ H5 e5 => ?_
    · rw [decide_eq_true (by omega), decide_eq_true (by omega), decide_eq_true (by omega), decide_eq_true (by omega)]
      rfl
    have g0 := ex_l e5 g0
    have g3 := ex_l e5 g3
    refine q_when (b := false) (et_is (et_not (et_B (ev_allT (ev_var rfl) g0 (by omega) (fun _ => rfl) fun x H6 e6 hx => ev_is (ev_tF (ea_cons (ev_var rfl) (ea_cons ev_c (ea_cons (ev_op (ev_var rfl) ev_c rv_I0) ea_nil))) (spv_between (n := (x : Int)) (lo := 1) (hi := (s : Int) - 1))) ?_))) rfl) (fun h => nomatch h) fun _ H6 e6 => ?_
    · have := Fo.hmem.mp hx
      rw [decide_eq_true (by omega), decide_eq_true (by omega)]
      rfl
    have g0 := ex_l e6 g0
    have g3 := ex_l e6 g3
    refine q_when (b := false) (et_is (et_not (et_B (ev_allT (ev_var rfl) g3 (by omega) (fun _ => rfl) fun x H7 e7 hx => ev_is (ev_andV (ev_op (ev_var rfl) ev_c (rv_gtN (j := 0))) fun _ => ev_op (ev_op (ev_var rfl) (ev_var rfl) (rv_modN ?_)) ev_c (rv_eqN (j := 0))) ?_))) rfl) (fun h => nomatch h) fun _ H7 e7 => ?_
    · exact Nat.pos_of_dvd_of_pos (Fo.dsub x hx) L0
    · rw [decide_eq_true (Nat.pos_of_dvd_of_pos (Fo.dsub x hx) L0), decide_eq_true (Nat.mod_eq_zero_of_dvd (Fo.dsub x hx))]
      rfl
    have e17 := (((e13.trans e4).trans e5).trans e6).trans e7
    refine q_asgP (ep_formed (K := K) (C := C) (S := S) (ea_cons (ev_var rfl) (ea_cons (ev_var rfl) (ea_cons (ev_var rfl) (ea_cons (ev_var rfl) ea_nil)))) (.inl (ex_l e7 g0)) (.inl (ex_l e7 g3)) Fo.len s1 (by omega) (by omega) (fun x hx => let z := Fo.hmem.mp hx; ⟨z.1, z.2.1⟩) (fun n n1 n2 => ?_) Fo.tail Fo.toTail) fun v H8 e8 hv => ?_
    · rw [← Fo.mem n1, if_pos n2]
    obtain ⟨a, rfl, hW⟩ := hv
    refine q_when (b := false) (et_is (et_test (ev_op (ev_strW (ev_var rfl) hW Fo) (ev_var rfl) (rv_ne rfl))) (by rw [decide_eq_true rfl]; rfl)) (fun h => nomatch h) fun _ H9 e9 => ?_
    exact s_ret (ev_var rfl) fun H10 e10 => k a H10 (((e17.trans e8).trans e9).trans e10) (hW.ext (e9.trans e10))
end
end K53
namespace M53
def lo (n : Nat) : Nat → List Nat
  | 0 => []
  | i + 1 => lo n i ++ (if (i + 1) * (i + 1) ≤ n ∧ n % (i + 1) = 0 then [i + 1] else [])
def hi (n : Nat) : Nat → List Nat
  | 0 => []
  | i + 1 => hi n i ++ (if ((i + 1) * (i + 1) ≤ n ∧ n % (i + 1) = 0) ∧ (i + 1) * (i + 1) < n then [n / (i + 1)] else [])
theorem lo_len (n : Nat) : ∀ i, (lo n i).length ≤ i
  | 0 => Nat.le_refl _
  | i + 1 => by
    have := lo_len n i
    show (lo n i ++ _).length ≤ _
    rw [List.length_append]
    split
    · exact Nat.succ_le_succ this
    · exact Nat.le_succ_of_le this
theorem hi_len (n : Nat) : ∀ i, (hi n i).length ≤ i
  | 0 => Nat.le_refl _
  | i + 1 => by
    have := hi_len n i
    show (hi n i ++ _).length ≤ _
    rw [List.length_append]
    split
    · exact Nat.succ_le_succ this
    · exact Nat.le_succ_of_le this
theorem lohi : ∀ n ∈ D, lo n 399 ++ (hi n 399).reverse = dv n := by decide +kernel
end M53
namespace K53
open PySem PySem.Spec PyProof.Rows L2 Evl
/-! ### the pen -/
def PenAt (K : PySem.W.Frag) (H : Hp) (pp cp : Addr) (ns : List Int) (n : Nat) : Prop := ∃ (at_ : Nat) (rest : Int), H pp = some (.lst [.ref cp, nv at_, .int rest]) ∧ SqL K (del H pp) cp (ns.map V.int) ∧ at_ ≤ n ∧ 0 ≤ rest
theorem PenAt.ext {K : PySem.W.Frag} {H H' : Hp} {pp cp : Addr} {ns : List Int} {n : Nat} (h : PenAt K H pp cp ns n) (e : Ex H H') : PenAt K H' pp cp ns n := let ⟨a, r, h1, h2, h3, h4⟩ := h; ⟨a, r, e _ _ h1, ex_l (del_mono e) h2, h3, h4⟩
theorem PenAt.mono {K : PySem.W.Frag} {H : Hp} {pp cp : Addr} {ns : List Int} {n m : Nat} (h : PenAt K H pp cp ns n) (hm : n ≤ m) : PenAt K H pp cp ns m := let ⟨a, r, h1, h2, h3, h4⟩ := h; ⟨a, r, h1, h2, Nat.le_trans h3 hm, h4⟩
theorem PenAt.in {K : PySem.W.Frag} {H : Hp} {pp cp : Addr} {ns : List Int} {n : Nat} (h : PenAt K H pp cp ns n) : H pp ≠ none := by
  obtain ⟨a, r, h1, _⟩ := h
  rw [h1]
  exact fun z => nomatch z
theorem del_self {H : Hp} {a : Addr} : del H a a = none := by unfold del; rw [if_pos rfl]
/-- facts outside of the pen survive -/
theorem ex_del {H H' : Hp} {a : Addr} (e : Ex (del H a) H') : Ex (del H a) (del H' a) := fun b o h => by
  have ne : b ≠ a := fun z => by rw [z, del_self] at h; cases h
  rw [del_at ne]
  exact e b o h
theorem ne_of_new {H : Hp} {l pp : Addr} (hl : H l = none) (hp : H pp ≠ none) : l ≠ pp := fun z => hp (by rw [← z]; exact hl)
def spDraw (K : PySem.W.Frag) : Sp := fun vs H Q _ => ∃ (pp cp : Addr) (ns : List Int) (many n : Nat), vs = [.ref pp, nv many] ∧ 1 ≤ many ∧ many < 2 ^ 50 ∧ PenAt K H pp cp ns n ∧ n ≤ 2000 ∧ ∀ v H2, v < many → Ex (del H pp) (del H2 pp) → PenAt K H2 pp cp ns (n + 1) → Q (nv v) H2
def spPick (K : PySem.W.Frag) : Sp := fun vs H Q _ => ∃ (pp sp cp : Addr) (ns : List Int) (xs : List Nat) (n : Nat), vs = [.ref pp, .ref sp] ∧ 1 ≤ xs.length ∧ xs.length ≤ 1000 ∧ SqL K (del H pp) sp (nvs xs) ∧ PenAt K H pp cp ns n ∧ n ≤ 2000 ∧ ∀ x H2, x ∈ xs → Ex (del H pp) (del H2 pp) → PenAt K H2 pp cp ns (n + 1) → Q (nv x) H2
def spPen (K : PySem.W.Frag) : Sp := fun vs H Q _ => ∃ (sp : Addr) (ns : List Int), vs = [.ref sp] ∧ SqL K H sp (ns.map V.int) ∧ ∀ pp cp ms H2, H pp = none → Ex H H2 → PenAt K H2 pp cp ms 0 → Q (.ref pp) H2
def spLDiv : Sp := fun vs H Q _ => ∃ n : Nat, vs = [nv n] ∧ n ∈ M53.D ∧ RetL (nvs (M53.dv n)) H Q
section
variable {K : PySem.W.Frag} {H : Hp}
theorem rc_intB {b : Bool} : RC (fun xs H Q => (∃ i, xs = [.int i] ∧ Q (.int i) H) ∨ ∃ k, xs = [.bl k] ∧ Q (.int (if k then 1 else 0)) H) [.bl b] H (.int (if b then 1 else 0)) := fun H1 _ Q q => .inr ⟨b, rfl, q H1 (Ex.refl H1)⟩
theorem rc_abs {i : Int} : RC (fun xs H Q => ∃ i, xs = [.int i] ∧ Q (.int (if i < 0 then -i else i)) H) [.int i] H (.int (if i < 0 then -i else i)) := fun H1 _ Q q => ⟨i, rfl, q H1 (Ex.refl H1)⟩
/-- data of ints in lists -/
def dZ (xs : List Int) : List PyData := xs.map PyData.int
theorem dZ_lay : ∀ xs : List Int, PyData.canLayAll0 (dZ xs) = true
  | [] => by simp [dZ, PyData.canLayAll0]
  | x :: xs => by
    have := dZ_lay xs
    show PyData.canLayAll0 (PyData.int x :: dZ xs) = true
    simp [PyData.canLayAll0, PyData.canLay0, this]
theorem dZ_depth : ∀ xs : List Int, PyData.depthAll (dZ xs) ≤ 1
  | [] => by simp [dZ, PyData.depthAll]
  | x :: xs => by
    have := dZ_depth xs
    show PyData.depthAll (PyData.int x :: dZ xs) ≤ 1
    simp [PyData.depthAll, PyData.depth, this]
theorem dZ_shaped (xs : List Int) : SeqAt.shaped (.list (dZ xs)) = true := by
  have a := dZ_depth xs
  unfold SeqAt.shaped
  simp only [PyData.canLay0, dZ_lay, PyData.depth, Bool.true_and]
  refine decide_eq_true ?_
  omega
theorem dZ_dp : ∀ xs : List Int, DpAll K H (xs.map V.int) (dZ xs)
  | [] => .nil
  | x :: xs => .cons (.int _) (dZ_dp xs)
theorem dZ_eqv (xs ys : List Int) : PyData.eqv (.list (dZ xs)) (.list (dZ ys)) = decide (xs = ys) := PySem.W.Datum.eqv (α := List Int) xs ys
theorem rv_eqZ {p q : Addr} {xs ys : List Int} (h : SqL K H p (xs.map V.int)) (h' : SqL K H q (ys.map V.int)) : RV (rEqD K) (.ref p) (.ref q) H (.bl (decide (xs = ys))) := fun H1 e Q k => by
  refine ⟨_, _, .lst (ex_l e h) (dZ_dp xs), .lst (ex_l e h') (dZ_dp ys), dZ_shaped xs, dZ_shaped ys, ?_⟩
  rw [dZ_eqv]
  exact k H1 (Ex.refl H1)
theorem rv_neZ {p q : Addr} {xs ys : List Int} (h : SqL K H p (xs.map V.int)) (h' : SqL K H q (ys.map V.int)) : RV (rNeD K) (.ref p) (.ref q) H (.bl (!decide (xs = ys))) := fun H1 e Q k => by
  refine ⟨_, _, .lst (ex_l e h) (dZ_dp xs), .lst (ex_l e h') (dZ_dp ys), dZ_shaped xs, dZ_shaped ys, ?_⟩
  rw [dZ_eqv]
  exact k H1 (Ex.refl H1)
end
section
variable {P : Program} {w : World} {K : PySem.W.Frag} {mg : Str → Option Value} {base : Heap} {C : Addr}
theorem k__law_pen (T : Txt K mg C) (F : Fn K mg "_law_pen" s__law_pen ["_law_script"]) : Cl P w K mg base 1 "_law_pen" (spPen K) := by
  refine F.cl sc__law_pen (fun vs H Q E h => ?_) (fun f cdv A outer s H vs Q E hr h => ?_)
  · obtain ⟨sp, ns, rfl, _⟩ := h
    rfl
  · obtain ⟨sp, ns, rfl, hs, k⟩ := h
    refine ⟨_, (pss_one (ps_ret (pe_lst (pa_cons (pe_callTy (k_list (K := K) rfl) (by rfl) T.list bt_list (pa_cons (pe_slice (k_sl (K := K) rfl) (pv 0) po_none (po_some pe_int)) pa_nil)) (pa_cons pe_int (pa_cons pe_int pa_nil)))))), ?_⟩
    obtain ⟨ms, hms⟩ : ∃ ms : List Int, cutV (ns.map V.int) none (some 63) = ms.map V.int := by
      unfold cutV
      rw [← List.map_drop, ← List.map_take]
      exact ⟨_, rfl⟩
    have E1 : EvL (tCB (rListS K) (tCons (tSl (rSlL K) (tVar 0) tNoPart (tPart (tC (.int 63)))) tNil)) [some (.ref sp)] H (ms.map V.int) := fun H1 e Q q => by
      refine el_sl (ev_var rfl) eo_none (eo_some ev_c) hs H1 e _ fun p H2 hp e2 h2 => ⟨p, _, rfl, .inl (sq_of h2), fun l hl => q l _ (fresh_back e2 hl) (e2.trans (Ex.new hl)) ?_⟩
      rw [upd_same, hms]
    refine s_retP (R := fun v H2 => ∃ l cp, v = .ref l ∧ H l = none ∧ H2 l = some (.lst [.ref cp, .int 0, .int 0]) ∧ cp ≠ l ∧ H2 cp = some (.lst (ms.map V.int))) (fun H1 e Q q => E1 H1 e _ fun cp H2 hcp e2 h2 => ⟨sz_of (by simp), fun l hl => ?_⟩) fun v H2 e2 hv => ?_
    · have ne : cp ≠ l := fun z => by rw [z, hl] at h2; cases h2
      refine q _ _ (e2.trans (Ex.new hl)) ⟨l, cp, rfl, fresh_back (e.trans e2) hl, upd_same, ne, ?_⟩
      rw [upd_ne ne]
      exact h2
    · obtain ⟨l, cp, rfl, hl, h2, hne, hcp⟩ := hv
      exact k l cp ms H2 hl e2 ⟨0, 0, h2, sq_of (by rw [del_at hne]; exact hcp), Nat.le_refl _, Int.le_refl _⟩
theorem k__law_draw (T : Txt K mg C) (F : Fn K mg "_law_draw" s__law_draw ["_law_pen_here", "_law_many"]) : Cl P w K mg base 1 "_law_draw" (spDraw K) := by
  refine F.cl sc__law_draw (fun vs H Q E h => ?_) (fun f cdv A outer s H vs Q E hr h => ?_)
  · obtain ⟨pp, cp, ns, many, n, rfl, _⟩ := h
    rfl
  · obtain ⟨pp, cp, ns, many, n, rfl, m1, m2, ⟨at_, rest, hpp, hcp, hat, hrest⟩, hn, k⟩ := h
    refine ⟨_, (pss_cons (ps_if (pt_cmpR op_gt (pe_ix (k_ixL (K := K) rfl) (pv 0) pe_int (fun _ _ => rfl)) pe_int (nomark _)) (pss_cons (ps_set (i := 2) sc__law_draw.nd rfl (Or.inl rfl) (pe_op op_mod (pe_callTy call_int1 (by rfl) T.int bt_int (pa_cons (pe_ix (k_ixL (K := K) rfl) (pv 0) pe_int (fun _ _ => rfl)) pa_nil)) (pv 1)))
      (pss_cons (ps_asg (pe_op op_fdivW (pe_callTy call_int1 (by rfl) T.int bt_int (pa_cons (pe_ix (k_ixL (K := K) rfl) (pv 0) pe_int (fun _ _ => rfl)) pa_nil)) (pv 1)) (pg_sub (pv 0) pe_int set_list))
      (pss_one (ps_ret (pv 2))))) pss_nil)
      (pss_cons (ps_set (i := 3) sc__law_draw.nd rfl (Or.inl rfl) (pe_ix (k_ixL (K := K) rfl) (pv 0) pe_int (fun _ _ => rfl)))
      (pss_cons (ps_asg (pe_op op_add (pv 3) pe_int) (pg_sub (pv 0) pe_int set_list))
      (pss_cons (ps_set (i := 4) sc__law_draw.nd rfl (Or.inl rfl) (pe_op op_add (pe_op op_mul pe_int (pv 3)) pe_int))
      (pss_cut (ps_if (pt_cmpR (k_neD (K := K) hr.units rfl) (pe_ix (k_ixL (K := K) rfl) (pv 0) pe_int (fun _ _ => rfl)) (pe_lst pa_nil) (nomark _)) (pss_one (ps_set (i := 4) sc__law_draw.nd rfl (Or.inl rfl) (pe_ix (k_ixL (K := K) rfl) (pe_ix (k_ixL (K := K) rfl) (pv 0) pe_int (fun _ _ => rfl)) (pe_op op_mod (pe_callTy call_int1 (by rfl) T.int bt_int (pa_cons (pv 3) pa_nil)) (pe_callB (k_len (K := K) rfl) (by rfl) T.len bt_len (pa_cons (pe_ix (k_ixL (K := K) rfl) (pv 0) pe_int (fun _ _ => rfl)) pa_nil))) (fun _ _ => rfl)))) pss_nil)
      (pss_cons (ps_if (PW.pt (pw_and (pt_cmpR op_lt (pv 3) (pe_callB (k_len (K := K) rfl) (by rfl) T.len bt_len (pa_cons (pe_ix (k_ixL (K := K) rfl) (pv 0) pe_int (fun _ _ => rfl)) pa_nil)) (nomark _)) (pw_and1 (pt_cmpR op_ge (pe_callB call_abs (by rfl) T.abs bt_abs (pa_cons (pv 4) pa_nil)) (pe_op op_pow pe_int pe_int) (nomark _))))) (pss_cons (ps_set (i := 5) sc__law_draw.nd rfl (Or.inl rfl) (pe_op op_add (pe_op op_mul pe_int (pe_callB call_abs (by rfl) T.abs bt_abs (pa_cons (pv 4) pa_nil))) (pe_callTy call_int1 (by rfl) T.int bt_int (pa_cons (pe_cmpR op_lt (pv 4) pe_int (nomark _)) pa_nil))))
      (pss_cons (ps_asg (pe_op op_fdivW (pe_callTy call_int1 (by rfl) T.int bt_int (pa_cons (pv 5) pa_nil)) (pv 1)) (pg_sub (pv 0) pe_int set_list))
      (pss_one (ps_ret (pe_op op_mod (pe_callTy call_int1 (by rfl) T.int bt_int (pa_cons (pv 5) pa_nil)) (pv 1)))))) pss_nil)
      (pss_cons (ps_set (i := 6) sc__law_draw.nd rfl (Or.inl rfl) (pe_op op_mod (pe_callTy call_int1 (by rfl) T.int bt_int (pa_cons (pe_op op_pow (pe_op op_add (pe_op op_add (pe_op op_mod (pe_callTy call_int1 (by rfl) T.int bt_int (pa_cons (pv 4) pa_nil)) pe_int) (pe_op op_mul pe_int (pv 3))) pe_int) pe_int) pa_nil)) pe_int))
      (pss_cons (ps_set (i := 6) sc__law_draw.nd rfl (Or.inl rfl) (pe_op op_mod (pe_callTy call_int1 (by rfl) T.int bt_int (pa_cons (pe_op op_pow (pe_op op_add (pe_op op_add (pe_op op_mul (pv 6) (pe_op op_add (pe_op op_mul pe_int (pv 3)) pe_int)) (pe_op op_mul (pe_op op_mul pe_int (pv 3)) (pv 3))) pe_int) pe_int) pa_nil)) pe_int))
      (pss_one (ps_ret (pe_op op_mod (pe_callTy call_int1 (by rfl) T.int bt_int (pa_cons (pe_op op_fdiv (pv 6) pe_int) pa_nil)) (pv 1)))))))))))), ?_⟩
    have hB : del H pp pp = none := del_self
    have eB : Ex (del H pp) H := del_ex
    have m0 : (0 : Int) < (many : Int) := by omega
    have hW : ∀ i : Int, CDivW i (many : Int) := fun i => wide_div m0 (b := 50) (by omega) (by decide) (by decide)
    have fin : ∀ (H2 : Hp) (i : Int) (a2 : Nat) (r2 : Int), Ex (del H pp) H2 → H2 pp = some (.lst [.ref cp, nv a2, .int r2]) → a2 ≤ n + 1 → 0 ≤ r2 → Q (.int (i % (many : Int))) H2 := fun H2 i a2 r2 e h2 ha hr2 => by
      have h1 := Int.emod_nonneg i (show (many : Int) ≠ 0 by omega)
      have h3 := Int.emod_lt_of_pos i m0
      have ev : V.int (i % (many : Int)) = nv (i % (many : Int)).toNat := congrArg V.int (by omega)
      rw [ev]
      exact k _ H2 (by omega) (ex_del e) ⟨a2, r2, h2, ex_l (ex_del e) hcp, ha, hr2⟩
    refine q_when (b := decide (0 < rest)) (et_test (ev_op (ev_op (ev_var rfl) ev_c (rv_ixL (sq_of hpp) rfl)) ev_c rv_I0)) (fun hb H1 e1 => ?_) (fun hb H1 e1 => ?_)
    · have h1 := e1 _ _ hpp
      refine q_asg (ev_op (ev_cb (ea_cons (ev_op (ev_var rfl) ev_c (rv_ixL (sq_of h1) rfl)) ea_nil) rc_int) (ev_var rfl) (rv_I m0)) fun H2 e2 => ?_
      have h2 := e2 _ _ h1
      refine q_setL (j := 2) h2 (ev_op (ev_cb (ea_cons (ev_op (ev_var rfl) ev_c (rv_ixL (sq_of h2) rfl)) ea_nil) rc_int) (ev_var rfl) (rv_I (hW _))) (ev_var rfl) ev_c (by simp) fun H3 e3 => ?_
      refine s_ret (ev_var rfl) fun H4 e4 => fin H4 rest at_ (rest / (many : Int)) ((Ex.mut (eB.trans ((e1.trans e2).trans e3)) hB).trans e4) (e4 _ _ upd_same) (by omega) (Int.ediv_nonneg hrest (by omega))
    have h1 := e1 _ _ hpp
    refine q_asg (ev_op (ev_var rfl) ev_c (rv_ixL (sq_of h1) rfl)) fun H2 e2 => ?_
    have h2 := e2 _ _ h1
    refine q_setL (j := 1) h2 (ev_op (ev_var rfl) ev_c (rv_addN (j := 1))) (ev_var rfl) ev_c (by simp) fun H3 e3 => ?_
    have eH : Ex (del H pp) (upd H3 pp (.lst [.ref cp, nv (at_ + 1), .int rest])) := Ex.mut (eB.trans ((e1.trans e2).trans e3)) hB
    have hp3 : (upd H3 pp (.lst [.ref cp, nv (at_ + 1), .int rest])) pp = some (.lst [.ref cp, nv (at_ + 1), .int rest]) := upd_same
    refine q_asg (v := .int (61717 * (at_ : Int) + 433)) (ev_op (ev_op ev_c (ev_var rfl) (rv_I (.inl ⟨by omega, by omega⟩))) ev_c rv_I0) fun H4 e4 => ?_
    have e04 := eH.trans e4
    have hp4 := e4 _ _ hp3
    refine q_cut (M := fun σ H' => ∃ c : Int, σ = [some (.ref pp), some (nv many), none, some (nv at_), some (.int c), none, none] ∧ Ex (del H pp) H' ∧ H' pp = some (.lst [.ref cp, nv (at_ + 1), .int rest])) ?_ ?_
    · refine s_when (b := !decide (ns = [])) (et_test (ev_opL (ev_op (ev_var rfl) ev_c (rv_ixL (sq_of hp4) rfl)) (el_lst ea_nil (by simp)) fun q H5 hq e5 => rv_neZ (ys := []) (ex_l (e04.trans e5) hcp) (sq_of hq))) (fun hb H5 e5 => ?_) (fun hb H5 e5 => ?_)
      · have ne : ¬ ns = [] := of_decide_eq_false (by rw [Bool.not_eq_true'] at hb; exact hb)
        have hl : 0 < ns.length := List.length_pos_iff.mpr ne
        have hp5 := e5 _ _ hp4
        have hlt : at_ % ns.length < ns.length := Nat.mod_lt _ hl
        have hx : ns[at_ % ns.length]? = some ns[at_ % ns.length] := List.getElem?_eq_getElem hlt
        have atx : atI (ns.map V.int) (((at_ % ns.length : Nat)) : Int) = some (.int ns[at_ % ns.length]) := by
          unfold atI
          rw [ixN_nat (by rw [List.length_map]; exact hlt)]
          show (ns.map V.int)[at_ % ns.length]? = _
          rw [List.getElem?_map, hx]
          rfl
        have el : V.int ((ns.map V.int).length : Int) = nv ns.length := congrArg V.int (congrArg Int.ofNat (List.length_map _))
        refine s_asg (ev_op (ev_op (ev_var rfl) ev_c (rv_ixL (sq_of hp5) rfl)) (ev_op (ev_cb (ea_cons (ev_var rfl) ea_nil) (rc_int (i := (at_ : Int)))) (ev_is (ev_len (ev_op (ev_var rfl) ev_c (rv_ixL (sq_of hp5) rfl)) (ex_l (e04.trans e5) hcp)) el) (rv_modN hl)) (rv_ixL (ex_l (e04.trans e5) hcp) atx)) fun H6 e6 => ⟨_, rfl, (e04.trans e5).trans e6, e6 _ _ hp5⟩
      · exact ⟨_, rfl, e04.trans e5, e5 _ _ hp4⟩
    · rintro σ5 H5 ⟨c, rfl, e5, hp5⟩
      have el : V.int ((ns.map V.int).length : Int) = nv ns.length := congrArg V.int (congrArg Int.ofNat (List.length_map _))
      refine q_when (b := decide (at_ < ns.length) && decide ((10 : Int) ^ (18 : Int).toNat ≤ (if c < 0 then -c else c))) (et_and (et_test (ev_op (ev_var rfl) (ev_is (ev_len (ev_op (ev_var rfl) ev_c (rv_ixL (sq_of hp5) rfl)) (ex_l e5 hcp)) el) rv_ltN)) fun _ => et_test (ev_op (ev_cb (ea_cons (ev_var rfl) ea_nil) rc_abs) (ev_op ev_c ev_c (rv_I ⟨by decide, by decide, by decide⟩)) rv_I0)) (fun hb H6 e6 => ?_) (fun hb H6 e6 => ?_)
      · have hp6 := e6 _ _ hp5
        refine q_asg (ev_op (ev_op ev_c (ev_cb (ea_cons (ev_var rfl) ea_nil) rc_abs) (rv_I (.inl ⟨by decide, by decide⟩))) (ev_cb (ea_cons (ev_op (ev_var rfl) ev_c rv_I0) ea_nil) rc_intB) rv_I0) fun H7 e7 => ?_
        have hp7 := e7 _ _ hp6
        have e07 := (e5.trans e6).trans e7
        refine q_setL (j := 2) hp7 (ev_op (ev_cb (ea_cons (ev_var rfl) ea_nil) rc_int) (ev_var rfl) (rv_I (hW _))) (ev_var rfl) ev_c (by simp) fun H8 e8 => ?_
        refine s_ret (ev_op (ev_cb (ea_cons (ev_var rfl) ea_nil) rc_int) (ev_var rfl) (rv_I m0)) fun H9 e9 => fin H9 _ (at_ + 1) _ ((Ex.mut (e07.trans e8) hB).trans e9) (e9 _ _ upd_same) (by omega) (Int.ediv_nonneg ?_ (by omega))
        have a0 : (0 : Int) ≤ if c < 0 then -c else c := by split <;> omega
        have b0 : (0 : Int) ≤ if decide (c < 0) = true then 1 else 0 := by split <;> omega
        omega
      · have hp6 := e6 _ _ hp5
        have e06 := e5.trans e6
        have c1 := Int.emod_nonneg c (show (2147483549 : Int) ≠ 0 by decide)
        have c2 := Int.emod_lt_of_pos c (show (0 : Int) < 2147483549 by decide)
        refine q_asg (ev_op (ev_cb (ea_cons (ev_op (ev_op (ev_op (ev_op (ev_cb (ea_cons (ev_var rfl) ea_nil) rc_int) ev_c (rv_I (by decide))) (ev_op ev_c (ev_var rfl) (rv_I (i := 61717) (j := (at_ : Int)) (.inl ⟨by decide, by decide⟩))) rv_I0) ev_c rv_I0) ev_c (rv_I (i := c % 2147483549 + 61717 * (at_ : Int) + 433) (j := 5) ⟨by decide, by decide, by omega⟩)) ea_nil) rc_int) ev_c (rv_I (by decide))) fun H7 e7 => ?_
        generalize (c % 2147483549 + 61717 * (at_ : Int) + 433) ^ (5 : Int).toNat = X5
        have d1 := Int.emod_nonneg X5 (show (2147483629 : Int) ≠ 0 by decide)
        have d2 := Int.emod_lt_of_pos X5 (show (0 : Int) < 2147483629 by decide)
        generalize X5 % 2147483629 = M1 at d1 d2
        have a2k : (at_ : Int) ≤ 2000 := by omega
        have q1 : M1 * (2 * (at_ : Int) + 101) ≤ 2147483629 * 4101 := Int.mul_le_mul (by omega) (by omega) (by omega) (by omega)
        have q0 : 0 ≤ M1 * (2 * (at_ : Int) + 101) := Int.mul_nonneg d1 (by omega)
        have q2 : 71011 * (at_ : Int) * (at_ : Int) ≤ 71011 * 2000 * 2000 := Int.mul_le_mul (by omega) (by omega) (by omega) (by omega)
        have q3 : 0 ≤ 71011 * (at_ : Int) * (at_ : Int) := Int.mul_nonneg (by omega) (by omega)
        refine q_asg (ev_op (ev_cb (ea_cons (ev_op (ev_op (ev_op (ev_op (ev_var rfl) (ev_op (ev_op ev_c (ev_var rfl) (rv_I (i := 2) (j := (at_ : Int)) (.inl ⟨by decide, by decide⟩))) ev_c rv_I0) (rv_I (i := M1) (j := 2 * (at_ : Int) + 101) (.inl ⟨by omega, by omega⟩))) (ev_op (ev_op ev_c (ev_var rfl) (rv_I (i := 71011) (j := (at_ : Int)) (.inl ⟨by decide, by decide⟩))) (ev_var rfl) (rv_I (i := 71011 * (at_ : Int)) (j := (at_ : Int)) (.inl ⟨by omega, by omega⟩))) rv_I0) ev_c rv_I0) ev_c (rv_I (i := M1 * (2 * (at_ : Int) + 101) + 71011 * (at_ : Int) * (at_ : Int) + 59) (j := 3) ⟨by decide, by decide, by omega⟩)) ea_nil) rc_int) ev_c (rv_I (by decide))) fun H8 e8 => ?_
        generalize (M1 * (2 * (at_ : Int) + 101) + 71011 * (at_ : Int) * (at_ : Int) + 59) ^ (3 : Int).toNat = X3
        refine s_ret (ev_op (ev_cb (ea_cons (ev_op (ev_var rfl) ev_c (rv_I ⟨by decide, by decide⟩)) ea_nil) rc_int) (ev_var rfl) (rv_I m0)) fun H9 e9 => fin H9 _ (at_ + 1) rest (((e06.trans e7).trans e8).trans e9) (e9 _ _ (e8 _ _ (e7 _ _ hp6))) (by omega) hrest
theorem k__law_pick (T : Txt K mg C) (c__law_draw : Cl P w K mg base 1 "_law_draw" (spDraw K)) (F : Fn K mg "_law_pick" s__law_pick ["_law_pen_here", "_law_some"]) : Cl P w K mg base 2 "_law_pick" (spPick K) := by
  refine F.cl sc__law_pick (fun vs H Q E h => ?_) (fun f cdv A outer s H vs Q E hr h => ?_)
  · obtain ⟨pp, sp, cp, ns, xs, n, rfl, _⟩ := h
    rfl
  · obtain ⟨pp, sp, cp, ns, xs, n, rfl, x1, x2, hs, hp, hn, k⟩ := h
    refine ⟨_, (pss_one (ps_ret (pe_ix (k_ixL (K := K) rfl) (pv 1) (pc c__law_draw hr (by decide) rfl (pa_cons (pv 0) (pa_cons (pe_callB (k_len (K := K) rfl) (by rfl) T.len bt_len (pa_cons (pv 1) pa_nil)) pa_nil))) (fun _ _ => rfl)))), ?_⟩
    have el : V.int ((nvs xs).length : Int) = nv xs.length := congrArg V.int (congrArg Int.ofNat (List.length_map _))
    refine ⟨_, rfl, _, rfl, _, rfl, sp, nvs xs, rfl, .inl (ex_l del_ex hs), ?_⟩
    refine ⟨pp, cp, ns, xs.length, n, by rw [el], x1, by omega, hp, hn, fun v H2 hv e2 hp2 => ?_⟩
    have hx : xs[v]? = some xs[v] := List.getElem?_eq_getElem hv
    exact ⟨sp, nvs xs, (v : Int), nv xs[v], rfl, rfl, ex_l del_ex (ex_l e2 hs), atI_nvs hx, k _ H2 (List.getElem_mem hv) e2 hp2⟩
theorem k__law_divisors (T : Txt K mg C) (F : Fn K mg "_law_divisors" s__law_divisors ["_law_amount"]) : Cl P w K mg base 1 "_law_divisors" spLDiv := by
  refine F.cl sc__law_divisors (fun vs H Q E h => ?_) (fun f cdv A outer s H vs Q E hr h => ?_)
  · obtain ⟨n, rfl, _⟩ := h
    rfl
  · obtain ⟨n, rfl, hn, k⟩ := h
    refine ⟨_, (pss_cons (ps_set (i := 1) sc__law_divisors.nd rfl (Or.inl rfl) (pe_lst pa_nil))
      (pss_cons (ps_set (i := 2) sc__law_divisors.nd rfl (Or.inl rfl) (pe_lst pa_nil))
      (pss_cons (ps_for PassesOwn.never rfl (pi_range2 (by rfl) T.range (pa_cons pe_int (pa_cons pe_int pa_nil))) (pg_name (i := 3) sc__law_divisors.nd rfl (Or.inl rfl))
        (pss_one (ps_if (PW.pt (pw_and (pt_cmpR op_le (pe_op op_mul (pv 3) (pv 3)) (pv 0) (nomark _)) (pw_and1 (pt_cmpR op_eq (pe_op op_mod (pe_callTy call_int1 (by rfl) T.int bt_int (pa_cons (pv 0) pa_nil)) (pv 3)) pe_int (nomark _))))) (pss_cons (ps_expr (k_app (K := K) rfl (pv 1) (pv 3)))
      (pss_one (ps_if (pt_cmpR op_lt (pe_op op_mul (pv 3) (pv 3)) (pv 0) (nomark _)) (pss_one (ps_expr (k_app (K := K) rfl (pv 2) (pe_op op_fdiv (pv 0) (pv 3))))) pss_nil))) pss_nil)))
      (pss_one (ps_ret (pe_op op_cat (pv 1) (k_revL (K := K) rfl (pv 2)))))))), ?_⟩
    refine q_asgL (el_lst ea_nil (by simp)) fun lp H1 hlp e1 h1 => ?_
    refine q_asgL (el_lst ea_nil (by simp)) fun hp H2 hhp e2 h2 => ?_
    have ne : lp ≠ hp := fun z => by rw [z] at h1; rw [h1] at hhp; cases hhp
    have hhp0 := fresh_back e1 hhp
    refine q_forR2 (ea_cons ev_c (ea_cons ev_c ea_nil)) ⟨by decide, by decide, by decide, by decide⟩ (fun i σ H' => ∃ o, σ = [some (nv n), some (.ref lp), some (.ref hp), o] ∧ Ex H H' ∧ H' lp = some (.lst (nvs (M53.lo n i))) ∧ H' hp = some (.lst (nvs (M53.hi n i))))
      (fun H3 e3 => ⟨_, rfl, (e1.trans e2).trans e3, e3 _ _ (e2 _ _ h1), e3 _ _ h2⟩) (fun i σ' H' hi q => ?_) (fun σ' H' q => ?_)
    · obtain ⟨o, rfl, e3, hl, hh⟩ := q
      have ei : (.int (1 + (i : Int)) : V) = nv (i + 1) := congrArg V.int (by omega)
      have i400 : i + 1 < 400 := by omega
      have ll := M53.lo_len n i
      have hl2 := M53.hi_len n i
      rw [ei]
      have lS : M53.lo n (i + 1) = M53.lo n i ++ (if (i + 1) * (i + 1) ≤ n ∧ n % (i + 1) = 0 then [i + 1] else []) := rfl
      have hS : M53.hi n (i + 1) = M53.hi n i ++ (if ((i + 1) * (i + 1) ≤ n ∧ n % (i + 1) = 0) ∧ (i + 1) * (i + 1) < n then [n / (i + 1)] else []) := rfl
      rw [lS, hS]
      refine s_when (b := decide ((i + 1) * (i + 1) ≤ n) && decide (n % (i + 1) = 0)) (et_and (et_test (ev_op (ev_op (ev_var rfl) (ev_var rfl) (rv_mulN (by omega))) (ev_var rfl) rv_leN)) fun _ => et_test (ev_op (ev_op (ev_cb (ea_cons (ev_var rfl) ea_nil) (rc_int (i := (n : Int)))) (ev_var rfl) (rv_modN (by omega))) ev_c (rv_eqN (j := 0)))) (fun hb H4 e4 => ?_) (fun hb H4 e4 => ?_)
      · rw [Bool.and_eq_true, decide_eq_true_iff, decide_eq_true_iff] at hb
        rw [if_pos hb]
        refine q_app (e4 _ _ hl) (ev_var rfl) (ev_var rfl) (by rw [List.length_map]; omega) fun H5 e5 => ?_
        have hlp5 : (upd H5 lp (.lst (nvs (M53.lo n i) ++ [nv (i + 1)]))) lp = some (.lst (nvs (M53.lo n i ++ [i + 1]))) := by rw [upd_same, nvs_snoc]
        have hhp5 : (upd H5 lp (.lst (nvs (M53.lo n i) ++ [nv (i + 1)]))) hp = some (.lst (nvs (M53.hi n i))) := by
          rw [upd_ne ne.symm]
          exact e5 _ _ (e4 _ _ hh)
        have e05 : Ex H (upd H5 lp (.lst (nvs (M53.lo n i) ++ [nv (i + 1)]))) := Ex.mut ((e3.trans e4).trans e5) hlp
        refine s_when (b := decide ((i + 1) * (i + 1) < n)) (et_test (ev_op (ev_op (ev_var rfl) (ev_var rfl) (rv_mulN (by omega))) (ev_var rfl) rv_ltN)) (fun hb2 H6 e6 => ?_) (fun hb2 H6 e6 => ?_)
        · have hb2 := of_decide_eq_true hb2
          rw [if_pos ⟨hb, hb2⟩]
          refine s_app (e6 _ _ hhp5) (ev_var rfl) (ev_op (ev_var rfl) (ev_var rfl) (rv_divN (by omega) (by omega))) (by rw [List.length_map]; omega) fun H7 e7 => ⟨_, rfl, Ex.mut ((e05.trans e6).trans e7) hhp0, ?_, ?_⟩
          · rw [upd_ne ne]
            exact e7 _ _ (e6 _ _ hlp5)
          · rw [upd_same, nvs_snoc]
        · have hb2 := of_decide_eq_false hb2
          rw [if_neg fun z => hb2 z.2, List.append_nil]
          exact ⟨_, rfl, e05.trans e6, e6 _ _ hlp5, e6 _ _ hhp5⟩
      · have hb : ¬ ((i + 1) * (i + 1) ≤ n ∧ n % (i + 1) = 0) := fun z => by
          rw [decide_eq_true z.1, decide_eq_true z.2] at hb
          cases hb
        rw [if_neg hb, if_neg fun z => hb z.1, List.append_nil, List.append_nil]
        exact ⟨_, rfl, e3.trans e4, e4 _ _ hl, e4 _ _ hh⟩
    · obtain ⟨o, rfl, e3, hl, hh⟩ := q
      have hl : H' lp = some (.lst (nvs (M53.lo n 399))) := hl
      have hh : H' hp = some (.lst (nvs (M53.hi n 399))) := hh
      have ll := M53.lo_len n 399
      have hl2 := M53.hi_len n 399
      have E : EvL (tOp rCat (tVar 1) (tRevL K (tVar 2))) [some (nv n), some (.ref lp), some (.ref hp), o] H' (nvs (M53.dv n)) := fun H1 e Q q => by
        refine ⟨_, rfl, _, rfl, hp, _, rfl, sq_of (e _ _ hh), fun r hr => ?_⟩
        have er : Ex H1 (upd H1 r (.lst (nvs (M53.hi n 399)).reverse)) := Ex.new hr
        refine ⟨lp, r, _, _, rfl, rfl, er _ _ (e _ _ hl), upd_same, sz_of (by rw [List.length_reverse, List.length_map, List.length_map]; omega), fun p hp2 => q p _ (fresh_back er hp2) (er.trans (Ex.new hp2)) ?_⟩
        rw [upd_same, ← M53.lohi n hn, nvs, nvs, nvs, List.map_append, List.map_reverse]
      exact s_retL E fun p H4 hp4 e4 h4 => k p H4 (fresh_back e3 hp4) (e3.trans e4) h4
end
end K53
namespace M53
def Tr.dep : Tr → Nat
  | .not t => t.dep + 1
  | .and t u => max t.dep u.dep + 1
  | .or t u => max t.dep u.dep + 1
  | .less t u => max t.dep u.dep + 1
  | .one t u => max t.dep u.dep + 1
  | _ => 0
end M53
namespace K53
open PySem PySem.Spec PyProof.Rows L2 Evl
open M53 (Tr)
/-- a tree in the heap -/
def TreeAt (K : PySem.W.Frag) (H : Hp) : Tr → V → Prop
  | .of a b c, v => ∃ p l, v = .ref p ∧ SqT K H p [.str "of", .ref l] ∧ SqL K H l (nvs [a, b, c])
  | .frm n, v => ∃ p, v = .ref p ∧ SqT K H p [.str "from", nv n]
  | .mul k, v => ∃ p, v = .ref p ∧ SqT K H p [.str "multiples", nv k]
  | .dvd q, v => ∃ p, v = .ref p ∧ SqT K H p [.str "dividing", nv q]
  | .told q gs, v => ∃ p l, v = .ref p ∧ SqT K H p [.str "told", nv q, .ref l] ∧ SqL K H l (nvs gs)
  | .not t, v => ∃ p x, v = .ref p ∧ SqT K H p [.str "not", x] ∧ TreeAt K H t x
  | .and t u, v => ∃ p x y, v = .ref p ∧ SqT K H p [.str "and", x, y] ∧ TreeAt K H t x ∧ TreeAt K H u y
  | .or t u, v => ∃ p x y, v = .ref p ∧ SqT K H p [.str "or", x, y] ∧ TreeAt K H t x ∧ TreeAt K H u y
  | .less t u, v => ∃ p x y, v = .ref p ∧ SqT K H p [.str "less", x, y] ∧ TreeAt K H t x ∧ TreeAt K H u y
  | .one t u, v => ∃ p x y, v = .ref p ∧ SqT K H p [.str "one", x, y] ∧ TreeAt K H t x ∧ TreeAt K H u y
/-- what carries the parts carries the tree -/
theorem TreeAt.carry {K : PySem.W.Frag} {H H' : Hp} (ht : ∀ p xs, SqT K H p xs → SqT K H' p xs) (hl : ∀ p (xs : List Nat), SqL K H p (nvs xs) → SqL K H' p (nvs xs)) : ∀ {t : Tr} {v : V}, TreeAt K H t v → TreeAt K H' t v
  | .of a b c, v, ⟨p, l, e, h1, h2⟩ => ⟨p, l, e, ht _ _ h1, hl _ _ h2⟩
  | .frm n, v, ⟨p, e, h1⟩ => ⟨p, e, ht _ _ h1⟩
  | .mul k, v, ⟨p, e, h1⟩ => ⟨p, e, ht _ _ h1⟩
  | .dvd q, v, ⟨p, e, h1⟩ => ⟨p, e, ht _ _ h1⟩
  | .told q gs, v, ⟨p, l, e, h1, h2⟩ => ⟨p, l, e, ht _ _ h1, hl _ _ h2⟩
  | .not t, v, ⟨p, x, e, h1, h2⟩ => ⟨p, x, e, ht _ _ h1, TreeAt.carry ht hl h2⟩
  | .and t u, v, ⟨p, x, y, e, h1, h2, h3⟩ => ⟨p, x, y, e, ht _ _ h1, TreeAt.carry ht hl h2, TreeAt.carry ht hl h3⟩
  | .or t u, v, ⟨p, x, y, e, h1, h2, h3⟩ => ⟨p, x, y, e, ht _ _ h1, TreeAt.carry ht hl h2, TreeAt.carry ht hl h3⟩
  | .less t u, v, ⟨p, x, y, e, h1, h2, h3⟩ => ⟨p, x, y, e, ht _ _ h1, TreeAt.carry ht hl h2, TreeAt.carry ht hl h3⟩
  | .one t u, v, ⟨p, x, y, e, h1, h2, h3⟩ => ⟨p, x, y, e, ht _ _ h1, TreeAt.carry ht hl h2, TreeAt.carry ht hl h3⟩
theorem TreeAt.ext {K : PySem.W.Frag} {H H' : Hp} {t : Tr} {v : V} (h : TreeAt K H t v) (e : Ex H H') : TreeAt K H' t v := h.carry (fun _ _ => ex_t e) fun _ _ => ex_l e
/-! ### what the pen is not -/
theorem PenAt.at {K : PySem.W.Frag} {H : Hp} {pp cp : Addr} {ns : List Int} {n : Nat} (h : PenAt K H pp cp ns n) : ∃ cp y z, H pp = some (.lst [.ref cp, y, z]) := let ⟨_, _, h1, _⟩ := h; ⟨cp, _, _, h1⟩
theorem sqt_del {K : PySem.W.Frag} {H : Hp} {pp p cp : Addr} {ns : List Int} {n : Nat} {xs : List V} (w : PenAt K H pp cp ns n) (h : SqT K H p xs) : SqT K (del H pp) p xs := by
  obtain ⟨cp, y, z, hp⟩ := w.at
  rcases h with (h | ⟨o, h⟩) | h
  · exact .inl (.inl (by rw [del_at fun z => by rw [z, hp] at h; cases h]; exact h))
  · exact .inl (.inr ⟨o, by rw [del_at fun z => by rw [z, hp] at h; cases h]; exact h⟩)
  · exact .inr h
theorem sql_del {K : PySem.W.Frag} {H : Hp} {pp p cp : Addr} {ns : List Int} {n : Nat} {xs : List V} (w : PenAt K H pp cp ns n) (h : SqL K H p xs) (hx : ∀ a y, xs ≠ .ref a :: y) : SqL K (del H pp) p xs := by
  obtain ⟨cp, y, z, hp⟩ := w.at
  rcases h with (h | ⟨o, h⟩) | h
  · exact .inl (.inl (by rw [del_at fun z => by rw [z, hp] at h; cases h; exact hx _ _ rfl]; exact h))
  · exact .inl (.inr ⟨o, by rw [del_at fun z => by rw [z, hp] at h; cases h]; exact h⟩)
  · exact .inr h
theorem nvs_noref (xs : List Nat) : ∀ a y, nvs xs ≠ .ref a :: y := fun a y e => by
  cases xs with
  | nil => cases e
  | cons x xs => cases e
theorem wfm_del {K : PySem.W.Frag} {C : Addr} {H : Hp} {pp a cp : Addr} {ns : List Int} {n : Nat} {h : List Nat} {s L : Nat} {d : List Nat} (w : PenAt K H pp cp ns n) (W : WFm K C H a h s L d) : WFm K C (del H pp) a h s L d := by
  obtain ⟨cp, y, z, hpp⟩ := w.at
  obtain ⟨dx, hp, dp, h1, h2, h3⟩ := W.ex
  exact ⟨dx, hp, dp, by rw [del_at fun z => by rw [z, hpp] at h1; cases h1]; exact h1, sqt_del w h2, sqt_del w h3⟩
theorem wat_del {K : PySem.W.Frag} {C : Addr} {H : Hp} {pp a cp : Addr} {ns : List Int} {n : Nat} {S : Nat → Bool} (w : PenAt K H pp cp ns n) (h : WAt K C H a S) : WAt K C (del H pp) a S := let ⟨h, s, L, d, W, Fo⟩ := h; ⟨h, s, L, d, wfm_del w W, Fo⟩
theorem tree_del {K : PySem.W.Frag} {H : Hp} {pp cp : Addr} {ns : List Int} {n : Nat} {t : Tr} {v : V} (w : PenAt K H pp cp ns n) (h : TreeAt K H t v) : TreeAt K (del H pp) t v := h.carry (fun _ _ => sqt_del w) fun _ xs h => sql_del w h (nvs_noref xs)
/-- what a stroke of the pen leaves -/
theorem WAt.pen {K : PySem.W.Frag} {C : Addr} {H H2 : Hp} {pp a cp : Addr} {ns : List Int} {n : Nat} {S : Nat → Bool} (h : WAt K C H a S) (w : PenAt K H pp cp ns n) (e : Ex (del H pp) (del H2 pp)) : WAt K C H2 a S := ((wat_del w h).ext e).ext del_ex
theorem TreeAt.pen {K : PySem.W.Frag} {H H2 : Hp} {pp cp : Addr} {ns : List Int} {n : Nat} {t : Tr} {v : V} (h : TreeAt K H t v) (w : PenAt K H pp cp ns n) (e : Ex (del H pp) (del H2 pp)) : TreeAt K H2 t v := ((tree_del w h).ext e).ext del_ex
theorem sqt_pen {K : PySem.W.Frag} {H H2 : Hp} {pp p cp : Addr} {ns : List Int} {n : Nat} {xs : List V} (h : SqT K H p xs) (w : PenAt K H pp cp ns n) (e : Ex (del H pp) (del H2 pp)) : SqT K H2 p xs := ex_t del_ex (ex_t e (sqt_del w h))
theorem sql_pen {K : PySem.W.Frag} {H H2 : Hp} {pp p cp : Addr} {ns : List Int} {n : Nat} {xs : List V} (h : SqL K H p xs) (w : PenAt K H pp cp ns n) (hx : ∀ a y, xs ≠ .ref a :: y) (e : Ex (del H pp) (del H2 pp)) : SqL K H2 p xs := ex_l del_ex (ex_l e (sql_del w h hx))
def spMeant (K : PySem.W.Frag) (d : Nat) : Sp := fun vs H Q _ => ∃ (x : V) (w : Nat) (t : Tr), vs = [x, nv w] ∧ TreeAt K H t x ∧ t.Ok ∧ t.dep < d ∧ 1 ≤ w ∧ w ≤ 2000 ∧ RetV (.bl (t.mem w)) H Q
theorem spv_meant {K : PySem.W.Frag} {H : Hp} {x : V} {w d : Nat} {t : Tr} (h : TreeAt K H t x) (ok : t.Ok) (hd : t.dep < d) (w1 : 1 ≤ w) (w2 : w ≤ 2000) : SpV (spMeant K d) [x, nv w] H (.bl (t.mem w)) := fun H1 e Q k E => ⟨x, w, t, rfl, h.ext e, ok, hd, w1, w2, k⟩
theorem vals4 : ∀ b1 b2 b3 b4 : Bool, valV (mergeK [] [((Sum.inr "and" : Key), V.bl b1), (Sum.inr "or", .bl b2), (Sum.inr "less", .bl b3), (Sum.inr "one", .bl b4)]) (Sum.inr "and") = some (.bl b1) ∧
    valV (mergeK [] [((Sum.inr "and" : Key), V.bl b1), (Sum.inr "or", .bl b2), (Sum.inr "less", .bl b3), (Sum.inr "one", .bl b4)]) (Sum.inr "or") = some (.bl b2) ∧
    valV (mergeK [] [((Sum.inr "and" : Key), V.bl b1), (Sum.inr "or", .bl b2), (Sum.inr "less", .bl b3), (Sum.inr "one", .bl b4)]) (Sum.inr "less") = some (.bl b3) ∧
    valV (mergeK [] [((Sum.inr "and" : Key), V.bl b1), (Sum.inr "or", .bl b2), (Sum.inr "less", .bl b3), (Sum.inr "one", .bl b4)]) (Sum.inr "one") = some (.bl b4) := by decide +kernel
section
variable {K : PySem.W.Frag} {σ : L2.St} {H : Hp} {t1 t2 t3 t4 ty : TE} {b1 b2 b3 b4 b : Bool} {word : Str}
theorem ev_pick4 (h1 : Ev t1 σ H (.bl b1)) (h2 : Ev t2 σ H (.bl b2)) (h3 : Ev t3 σ H (.bl b3)) (h4 : Ev t4 σ H (.bl b4)) (hy : Ev ty σ H (.str word)) (hv : valV (mergeK [] [((Sum.inr "and" : Key), V.bl b1), (Sum.inr "or", .bl b2), (Sum.inr "less", .bl b3), (Sum.inr "one", .bl b4)]) (Sum.inr word) = some (.bl b)) :
    Ev (tDGet (tDisp [(tC (.str "and"), t1), (tC (.str "or"), t2), (tC (.str "less"), t3), (tC (.str "one"), t4)]) ty) σ H (.bl b) := fun H1 e Q q => by
  intro p hp
  have e1 : Ex H1 (upd H1 p (.dK [])) := Ex.new hp
  refine h1 _ (e.trans e1) _ fun H2 e2 => h2 H2 ((e.trans e1).trans e2) _ fun H3 e3 => h3 H3 (((e.trans e1).trans e2).trans e3) _ fun H4 e4 => h4 H4 ((((e.trans e1).trans e2).trans e3).trans e4) _ fun H5 e5 => ?_
  have e25 := ((e2.trans e3).trans e4).trans e5
  refine ⟨e25 _ _ upd_same, [((Sum.inr "and" : Key), V.bl b1), (Sum.inr "or", .bl b2), (Sum.inr "less", .bl b3), (Sum.inr "one", .bl b4)], rfl, by simp, ?_⟩
  have e6 : Ex H1 (upd H5 p (.dK (mergeK [] [((Sum.inr "and" : Key), V.bl b1), (Sum.inr "or", .bl b2), (Sum.inr "less", .bl b3), (Sum.inr "one", .bl b4)]))) := Ex.mut (e1.trans e25) hp
  refine hy _ (e.trans e6) _ fun H7 e7 => ⟨p, .bl b, rfl, .inl ⟨_, Sum.inr word, .inl (e7 _ _ upd_same), rfl, hv.symm⟩, q H7 (e6.trans e7)⟩
end
theorem sdec {a b : Str} (h : ¬ a = b) : decide (V.str a = V.str b) = false := by rw [str_dec]; exact decide_eq_false h
section
variable {P : Program} {w : World} {K : PySem.W.Frag} {mg : Str → Option Value} {base : Heap} {C : Addr}
theorem k__law_meant (d : Nat) (T : Txt K mg C) (c__law_gcd : Cl P w K mg base 1 "_law_gcd" spGcd) (c__law_meant : Cl P w K mg base (d + 1) "_law_meant" (spMeant K d)) (F : Fn K mg "_law_meant" s__law_meant ["_law_tree_here", "_law_w"]) : Cl P w K mg base (d + 2) "_law_meant" (spMeant K (d + 1)) := by
  refine F.cl sc__law_meant (fun vs H Q E h => ?_) (fun f cdv A outer s H vs Q E hr h => ?_)
  · obtain ⟨x, n, t, rfl, _⟩ := h
    rfl
  · obtain ⟨x, n, t, rfl, ht, ok, dep, n1, n2, k⟩ := h
    have hu := hr.units
    refine ⟨_, (pss_cons (ps_set (i := 2) sc__law_meant.nd rfl (Or.inl rfl) (pe_ix (k_ixT (K := K) rfl) (pv 0) pe_int (fun _ _ => rfl)))
      (pss_cons (ps_if (pt_cmpR op_eq (pv 2) pe_str (nomark _)) (pss_one (ps_ret (pe_cmpR (k_in (K := K) rfl) (pv 1) (pe_ix (k_ixT (K := K) rfl) (pv 0) pe_int (fun _ _ => rfl)) (by rfl)))) pss_nil)
      (pss_cons (ps_if (pt_cmpR op_eq (pv 2) pe_str (nomark _)) (pss_one (ps_ret (pe_cmpR op_ge (pv 1) (pe_ix (k_ixT (K := K) rfl) (pv 0) pe_int (fun _ _ => rfl)) (nomark _)))) pss_nil)
      (pss_cons (ps_if (pt_cmpR op_eq (pv 2) pe_str (nomark _)) (pss_one (ps_ret (pe_cmpR op_eq (pe_op op_mod (pe_callTy call_int1 (by rfl) T.int bt_int (pa_cons (pv 1) pa_nil)) (pe_ix (k_ixT (K := K) rfl) (pv 0) pe_int (fun _ _ => rfl))) pe_int (nomark _)))) pss_nil)
      (pss_cons (ps_if (pt_cmpR op_eq (pv 2) pe_str (nomark _)) (pss_one (ps_ret (pe_cmpR op_eq (pe_op op_mod (pe_callTy call_int1 (by rfl) T.int bt_int (pa_cons (pe_op op_sub (pe_op op_shl pe_int (pv 1)) pe_int) pa_nil)) (pe_ix (k_ixT (K := K) rfl) (pv 0) pe_int (fun _ _ => rfl))) pe_int (nomark _)))) pss_nil)
      (pss_cons (ps_if (pt_cmpR op_eq (pv 2) pe_str (nomark _)) (pss_one (ps_ret (pe_cmpR (k_in (K := K) rfl) (pc c__law_gcd hr (by omega) rfl (pa_cons (pv 1) (pa_cons (pe_ix (k_ixT (K := K) rfl) (pv 0) pe_int (fun _ _ => rfl)) pa_nil))) (pe_ix (k_ixT (K := K) rfl) (pv 0) pe_int (fun _ _ => rfl)) (by rfl)))) pss_nil)
      (pss_cons (ps_set (i := 3) sc__law_meant.nd rfl (Or.inl rfl) (pc c__law_meant hr (by omega) rfl (pa_cons (pe_ix (k_ixT (K := K) rfl) (pv 0) pe_int (fun _ _ => rfl)) (pa_cons (pv 1) pa_nil))))
      (pss_cons (ps_if (pt_cmpR op_eq (pv 2) pe_str (nomark _)) (pss_one (ps_ret (pe_not (pv 3)))) pss_nil)
      (pss_cons (ps_set (i := 4) sc__law_meant.nd rfl (Or.inl rfl) (pc c__law_meant hr (by omega) rfl (pa_cons (pe_ix (k_ixT (K := K) rfl) (pv 0) pe_int (fun _ _ => rfl)) (pa_cons (pv 1) pa_nil))))
      (pss_one (ps_ret (pe_dget (hu_of hr) (pe_disp (pps_cons pe_str (pe_and (pv 3) (pe_one (pv 4))) (pps_cons pe_str (pe_or (pv 3) (pe_one (pv 4))) (pps_cons pe_str (pe_and (pv 3) (pe_one (pe_not (pv 4)))) (pps_cons pe_str (pe_cmpR op_ne (pv 3) (pv 4) (nomark _)) pps_nil)))) (by rfl) (by rfl) (fun z => by cases z) (by decide)) (pv 2) (fun _ _ => rfl))))))))))))), ?_⟩
    have skip : ∀ {W S : Str} {σ : L2.St} {H : Hp} {tu tz : TS} {D : Ends}, σ[2]? = some (some (.str W)) → ¬ W = S → (∀ H1, Ex H H1 → tz D σ H1) → tSeq (tIfS (tTest (tOp rEq (tVar 2) (tC (.str S)))) tu tNext) tz D σ H := fun h ne k => q_when (b := false) (et_is (et_test (ev_op (ev_var h) ev_c (rv_eq rfl))) (sdec ne)) (fun h => nomatch h) fun _ => k
    have hit : ∀ {W : Str} {σ : L2.St} {H : Hp} {tu tz : TS} {D : Ends}, σ[2]? = some (some (.str W)) → (∀ H1, Ex H H1 → tu { D with nx := tz D } σ H1) → tSeq (tIfS (tTest (tOp rEq (tVar 2) (tC (.str W)))) tu tNext) tz D σ H := fun h k => q_when (b := true) (et_is (et_test (ev_op (ev_var h) ev_c (rv_eq rfl))) (decide_eq_true rfl)) (fun _ => k) fun h => nomatch h
    cases t with
    | of a b c =>
      obtain ⟨p, l, rfl, h1, h2⟩ := ht
      refine q_asg (ev_op (ev_var rfl) ev_c (rv_ixT h1 rfl)) fun H1 e1 => ?_
      refine hit rfl fun H2 e2 => ?_
      have e12 := e1.trans e2
      exact s_ret (ev_op (ev_var rfl) (ev_op (ev_var rfl) ev_c (rv_ixT (ex_t e12 h1) rfl)) (rv_inN (.inl (ex_l e12 h2)))) fun H3 e3 => k _ (e12.trans e3)
    | frm m =>
      obtain ⟨p, rfl, h1⟩ := ht
      refine q_asg (ev_op (ev_var rfl) ev_c (rv_ixT h1 rfl)) fun H1 e1 => ?_
      refine skip rfl (by decide) fun H2 e2 => hit rfl fun H3 e3 => ?_
      have e13 := (e1.trans e2).trans e3
      exact s_ret (ev_op (ev_var rfl) (ev_op (ev_var rfl) ev_c (rv_ixT (ex_t e13 h1) rfl)) rv_geN) fun H4 e4 => k _ (e13.trans e4)
    | mul m =>
      obtain ⟨p, rfl, h1⟩ := ht
      have m0 := M53.pos120 (M53.mem_D.mp (M53.menuK_D m ok))
      refine q_asg (ev_op (ev_var rfl) ev_c (rv_ixT h1 rfl)) fun H1 e1 => ?_
      refine skip rfl (by decide) fun H2 e2 => skip rfl (by decide) fun H3 e3 => hit rfl fun H4 e4 => ?_
      have e14 := ((e1.trans e2).trans e3).trans e4
      exact s_ret (ev_op (ev_op (ev_cb (ea_cons (ev_var rfl) ea_nil) (rc_int (i := (n : Int)))) (ev_op (ev_var rfl) ev_c (rv_ixT (ex_t e14 h1) rfl)) (rv_modN m0)) ev_c (rv_eqN (j := 0))) fun H5 e5 => k _ (e14.trans e5)
    | dvd m =>
      obtain ⟨p, rfl, h1⟩ := ht
      have m0 : 1 ≤ m := (by decide : ∀ q ∈ M53.menuQ, 1 ≤ q) m ok
      refine q_asg (ev_op (ev_var rfl) ev_c (rv_ixT h1 rfl)) fun H1 e1 => ?_
      refine skip rfl (by decide) fun H2 e2 => skip rfl (by decide) fun H3 e3 => skip rfl (by decide) fun H4 e4 => hit rfl fun H5 e5 => ?_
      have e15 := (((e1.trans e2).trans e3).trans e4).trans e5
      have pw : ((1 : Int) * 2 ^ ((n : Nat) : Int).toNat - 1) = ((2 ^ n - 1 : Nat) : Int) := by
        rw [Int.toNat_natCast, Int.one_mul]
        have := Nat.one_le_two_pow (n := n)
        have e : ((2 ^ n : Nat) : Int) = (2 : Int) ^ n := Int.natCast_pow 2 n
        omega
      refine s_ret (ev_op (ev_op (ev_cb (ea_cons (ev_is (ev_op (ev_op ev_c (ev_var rfl) (rv_I (i := 1) (j := (n : Int)) ⟨by omega, by omega, by decide⟩)) ev_c rv_I0) (congrArg V.int pw)) ea_nil) (rc_int (i := ((2 ^ n - 1 : Nat) : Int)))) (ev_op (ev_var rfl) ev_c (rv_ixT (ex_t e15 h1) rfl)) (rv_modN m0)) ev_c (rv_eqN (j := 0))) fun H6 e6 => k _ (e15.trans e6)
    | told m gs =>
      obtain ⟨p, l, rfl, h1, h2⟩ := ht
      refine q_asg (ev_op (ev_var rfl) ev_c (rv_ixT h1 rfl)) fun H1 e1 => ?_
      refine skip rfl (by decide) fun H2 e2 => skip rfl (by decide) fun H3 e3 => skip rfl (by decide) fun H4 e4 => skip rfl (by decide) fun H5 e5 => hit rfl fun H6 e6 => ?_
      have e16 := ((((e1.trans e2).trans e3).trans e4).trans e5).trans e6
      exact s_ret (ev_op (ev_tF (ea_cons (ev_var rfl) (ea_cons (ev_op (ev_var rfl) ev_c (rv_ixT (ex_t e16 h1) rfl)) ea_nil)) spv_gcd) (ev_op (ev_var rfl) ev_c (rv_ixT (ex_t e16 h1) rfl)) (rv_inN (.inl (ex_l e16 h2)))) fun H7 e7 => k _ (e16.trans e7)
    | not t =>
      obtain ⟨p, x, rfl, h1, h2⟩ := ht
      have d1 : t.dep < d := by have : t.dep + 1 < d + 1 := dep; omega
      refine q_asg (ev_op (ev_var rfl) ev_c (rv_ixT h1 rfl)) fun H1 e1 => ?_
      refine skip rfl (by decide) fun H2 e2 => skip rfl (by decide) fun H3 e3 => skip rfl (by decide) fun H4 e4 => skip rfl (by decide) fun H5 e5 => skip rfl (by decide) fun H6 e6 => ?_
      have e16 := ((((e1.trans e2).trans e3).trans e4).trans e5).trans e6
      refine q_asg (ev_tF (ea_cons (ev_op (ev_var rfl) ev_c (rv_ixT (ex_t e16 h1) rfl)) (ea_cons (ev_var rfl) ea_nil)) (spv_meant (h2.ext e16) ok d1 n1 n2)) fun H7 e7 => ?_
      refine hit rfl fun H8 e8 => ?_
      exact s_ret (ev_notV (ev_var rfl)) fun H9 e9 => k _ (((e16.trans e7).trans e8).trans e9)
    | and t u =>
      obtain ⟨p, x, y, rfl, h1, h2, h3⟩ := ht
      have d12 : t.dep < d ∧ u.dep < d := by have : max t.dep u.dep + 1 < d + 1 := dep; omega
      refine q_asg (ev_op (ev_var rfl) ev_c (rv_ixT h1 rfl)) fun H1 e1 => ?_
      refine skip rfl (by decide) fun H2 e2 => skip rfl (by decide) fun H3 e3 => skip rfl (by decide) fun H4 e4 => skip rfl (by decide) fun H5 e5 => skip rfl (by decide) fun H6 e6 => ?_
      have e16 := ((((e1.trans e2).trans e3).trans e4).trans e5).trans e6
      refine q_asg (ev_tF (ea_cons (ev_op (ev_var rfl) ev_c (rv_ixT (ex_t e16 h1) rfl)) (ea_cons (ev_var rfl) ea_nil)) (spv_meant (h2.ext e16) ok.1 d12.1 n1 n2)) fun H7 e7 => ?_
      refine skip rfl (by decide) fun H8 e8 => ?_
      have e18 := (e16.trans e7).trans e8
      refine q_asg (ev_tF (ea_cons (ev_op (ev_var rfl) ev_c (rv_ixT (ex_t e18 h1) rfl)) (ea_cons (ev_var rfl) ea_nil)) (spv_meant (h3.ext e18) ok.2 d12.2 n1 n2)) fun H9 e9 => ?_
      exact s_ret (ev_pick4 (word := "and") (ev_andV (ev_var rfl) fun _ => ev_var rfl) (ev_orV (ev_var rfl) fun _ => ev_var rfl) (ev_andV (ev_var rfl) fun _ => ev_notV (ev_var rfl)) (ev_is (ev_op (ev_var rfl) (ev_var rfl) (rv_ne rfl)) (congrArg V.bl (show _ = (t.mem n != u.mem n) by cases t.mem n <;> cases u.mem n <;> rfl))) (ev_var rfl) (vals4 _ _ _ _).1) fun H10 e10 => k _ ((e18.trans e9).trans e10)
    | or t u =>
      obtain ⟨p, x, y, rfl, h1, h2, h3⟩ := ht
      have d12 : t.dep < d ∧ u.dep < d := by have : max t.dep u.dep + 1 < d + 1 := dep; omega
      refine q_asg (ev_op (ev_var rfl) ev_c (rv_ixT h1 rfl)) fun H1 e1 => ?_
      refine skip rfl (by decide) fun H2 e2 => skip rfl (by decide) fun H3 e3 => skip rfl (by decide) fun H4 e4 => skip rfl (by decide) fun H5 e5 => skip rfl (by decide) fun H6 e6 => ?_
      have e16 := ((((e1.trans e2).trans e3).trans e4).trans e5).trans e6
      refine q_asg (ev_tF (ea_cons (ev_op (ev_var rfl) ev_c (rv_ixT (ex_t e16 h1) rfl)) (ea_cons (ev_var rfl) ea_nil)) (spv_meant (h2.ext e16) ok.1 d12.1 n1 n2)) fun H7 e7 => ?_
      refine skip rfl (by decide) fun H8 e8 => ?_
      have e18 := (e16.trans e7).trans e8
      refine q_asg (ev_tF (ea_cons (ev_op (ev_var rfl) ev_c (rv_ixT (ex_t e18 h1) rfl)) (ea_cons (ev_var rfl) ea_nil)) (spv_meant (h3.ext e18) ok.2 d12.2 n1 n2)) fun H9 e9 => ?_
      exact s_ret (ev_pick4 (word := "or") (ev_andV (ev_var rfl) fun _ => ev_var rfl) (ev_orV (ev_var rfl) fun _ => ev_var rfl) (ev_andV (ev_var rfl) fun _ => ev_notV (ev_var rfl)) (ev_is (ev_op (ev_var rfl) (ev_var rfl) (rv_ne rfl)) (congrArg V.bl (show _ = (t.mem n != u.mem n) by cases t.mem n <;> cases u.mem n <;> rfl))) (ev_var rfl) (vals4 _ _ _ _).2.1) fun H10 e10 => k _ ((e18.trans e9).trans e10)
    | less t u =>
      obtain ⟨p, x, y, rfl, h1, h2, h3⟩ := ht
      have d12 : t.dep < d ∧ u.dep < d := by have : max t.dep u.dep + 1 < d + 1 := dep; omega
      refine q_asg (ev_op (ev_var rfl) ev_c (rv_ixT h1 rfl)) fun H1 e1 => ?_
      refine skip rfl (by decide) fun H2 e2 => skip rfl (by decide) fun H3 e3 => skip rfl (by decide) fun H4 e4 => skip rfl (by decide) fun H5 e5 => skip rfl (by decide) fun H6 e6 => ?_
      have e16 := ((((e1.trans e2).trans e3).trans e4).trans e5).trans e6
      refine q_asg (ev_tF (ea_cons (ev_op (ev_var rfl) ev_c (rv_ixT (ex_t e16 h1) rfl)) (ea_cons (ev_var rfl) ea_nil)) (spv_meant (h2.ext e16) ok.1 d12.1 n1 n2)) fun H7 e7 => ?_
      refine skip rfl (by decide) fun H8 e8 => ?_
      have e18 := (e16.trans e7).trans e8
      refine q_asg (ev_tF (ea_cons (ev_op (ev_var rfl) ev_c (rv_ixT (ex_t e18 h1) rfl)) (ea_cons (ev_var rfl) ea_nil)) (spv_meant (h3.ext e18) ok.2 d12.2 n1 n2)) fun H9 e9 => ?_
      exact s_ret (ev_pick4 (word := "less") (ev_andV (ev_var rfl) fun _ => ev_var rfl) (ev_orV (ev_var rfl) fun _ => ev_var rfl) (ev_andV (ev_var rfl) fun _ => ev_notV (ev_var rfl)) (ev_is (ev_op (ev_var rfl) (ev_var rfl) (rv_ne rfl)) (congrArg V.bl (show _ = (t.mem n != u.mem n) by cases t.mem n <;> cases u.mem n <;> rfl))) (ev_var rfl) (vals4 _ _ _ _).2.2.1) fun H10 e10 => k _ ((e18.trans e9).trans e10)
    | one t u =>
      obtain ⟨p, x, y, rfl, h1, h2, h3⟩ := ht
      have d12 : t.dep < d ∧ u.dep < d := by have : max t.dep u.dep + 1 < d + 1 := dep; omega
      refine q_asg (ev_op (ev_var rfl) ev_c (rv_ixT h1 rfl)) fun H1 e1 => ?_
      refine skip rfl (by decide) fun H2 e2 => skip rfl (by decide) fun H3 e3 => skip rfl (by decide) fun H4 e4 => skip rfl (by decide) fun H5 e5 => skip rfl (by decide) fun H6 e6 => ?_
      have e16 := ((((e1.trans e2).trans e3).trans e4).trans e5).trans e6
      refine q_asg (ev_tF (ea_cons (ev_op (ev_var rfl) ev_c (rv_ixT (ex_t e16 h1) rfl)) (ea_cons (ev_var rfl) ea_nil)) (spv_meant (h2.ext e16) ok.1 d12.1 n1 n2)) fun H7 e7 => ?_
      refine skip rfl (by decide) fun H8 e8 => ?_
      have e18 := (e16.trans e7).trans e8
      refine q_asg (ev_tF (ea_cons (ev_op (ev_var rfl) ev_c (rv_ixT (ex_t e18 h1) rfl)) (ea_cons (ev_var rfl) ea_nil)) (spv_meant (h3.ext e18) ok.2 d12.2 n1 n2)) fun H9 e9 => ?_
      exact s_ret (ev_pick4 (word := "one") (ev_andV (ev_var rfl) fun _ => ev_var rfl) (ev_orV (ev_var rfl) fun _ => ev_var rfl) (ev_andV (ev_var rfl) fun _ => ev_notV (ev_var rfl)) (ev_is (ev_op (ev_var rfl) (ev_var rfl) (rv_ne rfl)) (congrArg V.bl (show _ = (t.mem n != u.mem n) by cases t.mem n <;> cases u.mem n <;> rfl))) (ev_var rfl) (vals4 _ _ _ _).2.2.2) fun H10 e10 => k _ ((e18.trans e9).trans e10)
end
end K53
namespace M53
def tc : Nat → Nat
  | 0 => 21
  | e + 1 => 2 * tc e + 1
end M53
namespace K53
open PySem PySem.Spec PyProof.Rows L2 Evl
open M53 (Tr)
/-- a tree drawn, and its set -/
def DrawnAt (K : PySem.W.Frag) (C : Addr) (H : Hp) (r : V) (t : Tr) : Prop := ∃ p x a, r = .ref p ∧ SqT K H p [x, .ref a] ∧ TreeAt K H t x ∧ WAt K C H a t.mem
def spLeaf (K : PySem.W.Frag) (C : Addr) : Sp := fun vs H Q _ => ∃ (pp cp : Addr) (ns : List Int) (n : Nat), vs = [.ref pp] ∧ PenAt K H pp cp ns n ∧ n + 20 ≤ 2000 ∧ ∀ r t H2, Ex (del H pp) (del H2 pp) → PenAt K H2 pp cp ns (n + 20) → DrawnAt K C H2 r t → t.Ok → t.dep = 0 → Q r H2
def spTree (K : PySem.W.Frag) (C : Addr) (d : Nat) : Sp := fun vs H Q _ => ∃ (pp cp : Addr) (ns : List Int) (e n : Nat), vs = [.ref pp, nv e] ∧ e < d ∧ PenAt K H pp cp ns n ∧ n + M53.tc e ≤ 2000 ∧ ∀ r t H2, Ex (del H pp) (del H2 pp) → PenAt K H2 pp cp ns (n + M53.tc e) → DrawnAt K C H2 r t → t.Ok → t.dep ≤ e → Q r H2
section
variable {K : PySem.W.Frag} {σ : L2.St} {H H' : Hp} {ta tb tc td te tl tl1 ty tv : TE} {t ts : TA} {tt : TT} {x y z v : V} {vs : List Nat} {tu tw tz : TS} {D : Ends} {a b : Addr} {C : Addr} {xs : List V} {pp cp : Addr} {ns : List Int} {n : Nat}
theorem q_raw {i : Nat} (h : te σ H fun v H1 => tz D (σ.set i (some v)) H1) : tSeq (tAsg te (gName i)) tz D σ H := h
theorem b_yes {F G : Hp → Prop} {b : Bool} (hb : b = true) (h : F H) : (fun b H3 => if b = true then F H3 else G H3) b H := by
  subst hb
  show if (true = true) then F H else G H
  rw [if_pos rfl]
  exact h
theorem b_no {F G : Hp → Prop} {b : Bool} (hb : b = false) (h : G H) : (fun b H3 => if b = true then F H3 else G H3) b H := by
  subst hb
  show if (false = true) then F H else G H
  rw [if_neg (by decide)]
  exact h
theorem PenAt.of {B : Hp} {Dl : Addr} {o : HO} (p : PenAt K H pp cp ns n) (hD : Dl ≠ pp) (hs : SqL K B cp (ns.map V.int)) (e : Ex B (del (upd H Dl o) pp)) : PenAt K (upd H Dl o) pp cp ns n := by
  obtain ⟨at_, rest, z1, z2, z3, z4⟩ := p
  exact ⟨at_, rest, by rw [upd_ne hD.symm]; exact z1, ex_l e hs, z3, z4⟩
theorem PenAt.cells (p : PenAt K H pp cp ns n) : SqL K (del H pp) cp (ns.map V.int) := let ⟨_, _, _, h, _⟩ := p; h
/-- a pick out of a list written down -/
theorem te_pick {menu : List Nat} {Q : VK} (h0 : σ[0]? = some (some (.ref pp))) (hm : EvA ts σ H (nvs menu)) (hp : PenAt K H pp cp ns n) (hn : n ≤ 2000) (m1 : 1 ≤ menu.length) (m2 : menu.length ≤ 100) (k : ∀ x H2, x ∈ menu → Ex (del H pp) (del H2 pp) → PenAt K H2 pp cp ns (n + 1) → Q (nv x) H2) :
    tF (spPick K) (tCons (tVar 0) (tCons (tLst ts) tNil)) σ H Q := by
  refine ⟨_, h0, hm H (Ex.refl H) _ fun H1 e1 => ⟨sz_of (by rw [List.length_map]; omega), fun l hl => ?_⟩⟩
  have e2 : Ex H1 (upd H1 l (.lst (nvs menu))) := Ex.new hl
  have hp2 : PenAt K (upd H1 l (.lst (nvs menu))) pp cp ns n := hp.ext (e1.trans e2)
  refine ⟨pp, l, cp, ns, menu, n, rfl, m1, by omega, sql_del hp2 (sq_of upd_same) (nvs_noref menu), hp2, hn, fun x H2 hx e h2 => k x H2 hx ((del_mono (e1.trans e2)).trans e) h2⟩
/-- 1 + a draw below a pick -/
theorem te_one {menu : List Nat} {Q : VK} (h0 : σ[0]? = some (some (.ref pp))) (hm : EvA ts σ H (nvs menu)) (hp : PenAt K H pp cp ns n) (hn : n + 1 ≤ 2000) (m1 : 1 ≤ menu.length) (m2 : menu.length ≤ 100) (mb : ∀ x ∈ menu, 1 ≤ x ∧ x ≤ 600) (k : ∀ v H2, 1 ≤ v → v ≤ 600 → Ex (del H pp) (del H2 pp) → PenAt K H2 pp cp ns (n + 2) → Q (nv v) H2) :
    tOp (rI0 fun i j => .int (i + j)) (tC (.int 1)) (tF (spDraw K) (tCons (tVar 0) (tCons (tF (spPick K) (tCons (tVar 0) (tCons (tLst ts) tNil))) tNil))) σ H Q := by
  refine ⟨_, h0, te_pick h0 hm hp (by omega) m1 m2 fun x H2 hx e hp2 => ?_⟩
  obtain ⟨b1, b2⟩ := mb x hx
  refine ⟨pp, cp, ns, x, n + 1, rfl, b1, by omega, hp2, by omega, fun v H3 hv e3 hp3 => ?_⟩
  refine ⟨1, (v : Int), rfl, rfl, ?_⟩
  have ev : V.int (1 + (v : Int)) = nv (v + 1) := congrArg V.int (by omega)
  show Q (V.int (1 + (v : Int))) H3
  rw [ev]
  exact k (v + 1) H3 (by omega) (by omega) (e.trans e3) hp3
/-- ('word', ..), a set -/
theorem ep_drawn {T : Tr} (h1 : EvP ta σ H fun v H2 => TreeAt K H2 T v) (h2 : EvP tb σ H fun v H2 => ∃ a, v = .ref a ∧ WAt K C H2 a T.mem) : EvP (tTup (tCons ta (tCons tb tNil))) σ H fun v H2 => DrawnAt K C H2 v T := fun H1 e Q q => h1 H1 e _ fun v H2 e2 hv => h2 H2 (e.trans e2) _ fun w H3 e3 hw => by
  obtain ⟨a, rfl, hW⟩ := hw
  refine ⟨sz_of (by simp), fun p hp => ?_⟩
  have e4 : Ex H3 (upd H3 p (.tup [v, .ref a])) := Ex.new hp
  exact q _ _ ((e2.trans e3).trans e4) ⟨p, v, a, rfl, st_of upd_same, hv.ext (e3.trans e4), hW.ext e4⟩
theorem ep_tS {sp : Sp} {S : Nat → Bool} {ws : List V} (h : EvA t σ H ws) (hs : ∀ H1, Ex H H1 → ∀ Q : VK, RetW K C S H1 Q → sp ws H1 Q E0) : EvP (tS C sp (tC (.ref C)) t) σ H fun v H2 => ∃ a, v = .ref a ∧ WAt K C H2 a S := fun H1 e Q q => ⟨rfl, h H1 e _ fun H2 e2 => hs H2 (e.trans e2) _ fun a H3 e3 hW => q _ H3 (e2.trans e3) ⟨a, rfl, hW⟩⟩
theorem ep_inv {S : Nat → Bool} (h : Ev ta σ H (.ref a)) (w : WAt K C H a S) : EvP (tUn (rUn C (spInv K C)) ta) σ H fun v H2 => ∃ b, v = .ref b ∧ WAt K C H2 b fun w => !S w := fun H1 e Q q => h H1 e _ fun H2 e2 => by
  have w2 := w.ext (e.trans e2)
  obtain ⟨_, _, _, _, W, _⟩ := id w2
  obtain ⟨dx, hp, dp, h1, _⟩ := W.ex
  exact ⟨a, dx, _, rfl, h1, a, S, rfl, w2, fun b H3 e3 hW => q _ H3 (e2.trans e3) ⟨b, rfl, hW⟩⟩
theorem ep_bin {S S' : Nat → Bool} {r : Str} (h : Ev ta σ H (.ref a)) (w : WAt K C H a S) (h' : Ev tb σ H (.ref b)) (w' : WAt K C H b S') : EvP (tOp (rBin C (spBin K C r)) ta tb) σ H fun v H2 => ∃ b, v = .ref b ∧ WAt K C H2 b fun w => ruleF r (S w) (S' w) := fun H1 e Q q => h H1 e _ fun H2 e2 => h' H2 (e.trans e2) _ fun H3 e3 => by
  have e13 := (e.trans e2).trans e3
  have w2 := w.ext e13
  have w2' := w'.ext e13
  obtain ⟨_, _, _, _, W, _⟩ := id w2
  obtain ⟨dx, hp, dp, h1, _⟩ := W.ex
  obtain ⟨_, _, _, _, W', _⟩ := id w2'
  obtain ⟨dx', hp', dp', h1', _⟩ := W'.ex
  exact ⟨a, b, dx, dx', _, _, rfl, rfl, h1, h1', a, b, S, S', rfl, w2, w2', fun c H4 e4 hW => q _ H4 ((e2.trans e3).trans e4) ⟨c, rfl, hW⟩⟩
theorem ep_congr {S S' : Nat → Bool} (h : EvP te σ H fun v H2 => ∃ b, v = .ref b ∧ WAt K C H2 b S) (e : ∀ w, 1 ≤ w → S w = S' w) : EvP te σ H fun v H2 => ∃ b, v = .ref b ∧ WAt K C H2 b S' := h.imp fun v H2 _ r => let ⟨b, a, w⟩ := r; ⟨b, a, w.congr e⟩
end
section
variable {P : Program} {w : World} {K : PySem.W.Frag} {mg : Str → Option Value} {base : Heap} {C : Addr}
theorem k__law_leaf (T : Txt K mg C) (c__law_draw : Cl P w K mg base 1 "_law_draw" (spDraw K)) (c__law_pick : Cl P w K mg base 2 "_law_pick" (spPick K)) (c__law_divisors : Cl P w K mg base 1 "_law_divisors" spLDiv) (c_of : Sm P w K mg base 5 C "of" (spOf K C)) (c_from_width : Sm P w K mg base 4 C "from_width" (spFrm K C)) (c_multiples : Sm P w K mg base 3 C "multiples" (spMul K C)) (c_dividing : Sm P w K mg base 3 C "dividing" (spDvd K C)) (c_told : Sm P w K mg base 5 C "told" (spTold K C))
    (F : Fn K mg "_law_leaf" s__law_leaf ["_law_pen_here"]) : Cl P w K mg base 6 "_law_leaf" (spLeaf K C) := by
  refine F.cl sc__law_leaf (fun vs H Q E h => ?_) (fun f cdv A outer s H vs Q E hr h => ?_)
  · obtain ⟨pp, cp, ns, n, rfl, _⟩ := h
    rfl
  · obtain ⟨pp, cp, ns, n, rfl, hp, hn, k⟩ := h
    refine ⟨_, (pss_cons (ps_set (i := 1) sc__law_leaf.nd rfl (Or.inl rfl) (pc c__law_draw hr (by decide) rfl (pa_cons (pv 0) (pa_cons pe_int pa_nil))))
      (pss_cons (ps_if (pt_cmpR op_eq (pv 1) pe_int (nomark _)) (pss_cons (ps_setLc (i := 2) (own := [("_law_k", 8)]) rfl sc__law_leaf.nd rfl rfl (sw_true rfl rfl rfl (by decide +kernel)) (pi_range1 (by rfl) T.range (pa_cons pe_int pa_nil)) (blkOk_by (own := [("_law_k", 8)]) (N := N__law_leaf) (sc := defScope s__law_leaf) (by decide +kernel)) (fun _ _ _ _ _ => (pg_name (i := 8) sc__law_leaf.nd rfl (Or.inl rfl))) (fun _ _ _ _ _ => pts_nil) (fun _ _ _ _ _ => (pe_op op_add pe_int (pc c__law_draw hr (by decide) rfl (pa_cons (pv 0) (pa_cons (pc c__law_pick hr (by decide) rfl (pa_cons (pv 0) (pa_cons (pe_lst (pa_cons pe_int (pa_cons pe_int (pa_cons pe_int pa_nil)))) pa_nil))) pa_nil))))))
      (pss_one (ps_ret (pe_tup (pa_cons (pe_tup (pa_cons pe_str (pa_cons (pv 2) pa_nil))) (pa_cons (psm c_of hr (by decide) (pe_glob (v := .ref C) rfl T.mgC rfl) (pa_cons (pe_ix (k_ixL (K := K) rfl) (pv 2) pe_int (fun _ _ => rfl)) (pa_cons (pe_ix (k_ixL (K := K) rfl) (pv 2) pe_int (fun _ _ => rfl)) (pa_cons (pe_ix (k_ixL (K := K) rfl) (pv 2) pe_int (fun _ _ => rfl)) pa_nil)))) pa_nil)))))) pss_nil)
      (pss_cons (ps_if (pt_cmpR op_eq (pv 1) pe_int (nomark _)) (pss_cons (ps_set (i := 3) sc__law_leaf.nd rfl (Or.inl rfl) (pe_op op_add pe_int (pc c__law_draw hr (by decide) rfl (pa_cons (pv 0) (pa_cons (pc c__law_pick hr (by decide) rfl (pa_cons (pv 0) (pa_cons (pe_lst (pa_cons pe_int (pa_cons pe_int (pa_cons pe_int pa_nil)))) pa_nil))) pa_nil)))))
      (pss_one (ps_ret (pe_tup (pa_cons (pe_tup (pa_cons pe_str (pa_cons (pv 3) pa_nil))) (pa_cons (psm c_from_width hr (by decide) (pe_glob (v := .ref C) rfl T.mgC rfl) (pa_cons (pv 3) pa_nil)) pa_nil)))))) pss_nil)
      (pss_cons (ps_if (pt_cmpR op_eq (pv 1) pe_int (nomark _)) (pss_cons (ps_set (i := 4) sc__law_leaf.nd rfl (Or.inl rfl) (pc c__law_pick hr (by decide) rfl (pa_cons (pv 0) (pa_cons (pe_lst (pa_cons pe_int (pa_cons pe_int (pa_cons pe_int (pa_cons pe_int (pa_cons pe_int (pa_cons pe_int (pa_cons pe_int (pa_cons pe_int (pa_cons pe_int (pa_cons pe_int (pa_cons pe_int pa_nil)))))))))))) pa_nil))))
      (pss_one (ps_ret (pe_tup (pa_cons (pe_tup (pa_cons pe_str (pa_cons (pv 4) pa_nil))) (pa_cons (psm c_multiples hr (by decide) (pe_glob (v := .ref C) rfl T.mgC rfl) (pa_cons (pv 4) pa_nil)) pa_nil)))))) pss_nil)
      (pss_cons (ps_if (pt_cmpR op_eq (pv 1) pe_int (nomark _)) (pss_cons (ps_set (i := 5) sc__law_leaf.nd rfl (Or.inl rfl) (pc c__law_pick hr (by decide) rfl (pa_cons (pv 0) (pa_cons (pe_lst (pa_cons pe_int (pa_cons pe_int (pa_cons pe_int (pa_cons pe_int (pa_cons pe_int (pa_cons pe_int (pa_cons pe_int (pa_cons pe_int (pa_cons pe_int (pa_cons pe_int (pa_cons pe_int (pa_cons pe_int (pa_cons pe_int (pa_cons pe_int (pa_cons pe_int (pa_cons pe_int pa_nil))))))))))))))))) pa_nil))))
      (pss_one (ps_ret (pe_tup (pa_cons (pe_tup (pa_cons pe_str (pa_cons (pv 5) pa_nil))) (pa_cons (psm c_dividing hr (by decide) (pe_glob (v := .ref C) rfl T.mgC rfl) (pa_cons (pv 5) pa_nil)) pa_nil)))))) pss_nil)
      (pss_cons (ps_set (i := 6) sc__law_leaf.nd rfl (Or.inl rfl) (pc c__law_pick hr (by decide) rfl (pa_cons (pv 0) (pa_cons (pe_lst (pa_cons pe_int (pa_cons pe_int (pa_cons pe_int (pa_cons pe_int (pa_cons pe_int pa_nil)))))) pa_nil))))
      (pss_cons (ps_setLc (i := 7) (own := [("_law_part", 4)]) rfl sc__law_leaf.nd rfl rfl (sw_true rfl rfl rfl (by decide +kernel)) (k_pil (K := K) rfl (pc c__law_divisors hr (by decide) rfl (pa_cons (pv 6) pa_nil))) (blkOk_by (own := [("_law_part", 4)]) (N := N__law_leaf) (sc := defScope s__law_leaf) (by decide +kernel)) (fun _ _ _ _ _ => (pg_name (i := 4) sc__law_leaf.nd rfl (Or.inl rfl))) (fun _ _ _ _ _ => (pts_one (pt_cmpR op_eq (pc c__law_draw hr (by decide) rfl (pa_cons (pv 0) (pa_cons pe_int pa_nil))) pe_int (nomark _)))) (fun _ _ _ _ _ => (pv 4)))
      (pss_one (ps_ret (pe_tup (pa_cons (pe_tup (pa_cons pe_str (pa_cons (pv 6) (pa_cons (pv 7) pa_nil)))) (pa_cons (psm c_told hr (by decide) (pe_glob (v := .ref C) rfl T.mgC rfl) (pa_cons (pe_lst pa_nil) (pa_cons pe_int (pa_cons (pv 6) (pa_cons (pv 7) pa_nil))))) pa_nil)))))))))))), ?_⟩
    refine q_raw ⟨_, rfl, pp, cp, ns, 5, n, rfl, by decide, by decide, hp, by omega, fun way H1 hway e1 hp1 => ?_⟩
    refine q_when (b := decide (way = 0)) (et_test (ev_op (ev_var rfl) ev_c (rv_eqN (j := 0)))) (fun _ H2 e2 => ?_) fun _ H2 e2 => ?_
    · have e12 := e1.trans (del_mono e2 (a := pp))
      have hp2 := hp1.ext e2
      refine q_raw ⟨3, rfl, by decide, by decide, fun Dl hD => ?_⟩
      have hDp : Dl ≠ pp := ne_of_new hD hp2.in
      refine lc_range (lo := 0) (n := 3) (fun i H' => ∃ zs : List Nat, zs.length = i ∧ (∀ x ∈ zs, 1 ≤ x ∧ x ≤ 600) ∧ H' Dl = some (.lst (nvs zs)) ∧ Ex (del H2 pp) (del H' pp) ∧ PenAt K H' pp cp ns (n + 1 + 2 * i)) ⟨[], rfl, fun x hx => absurd hx List.not_mem_nil, upd_same, del_mono (Ex.new hD), hp2.ext (Ex.new hD)⟩ (fun i H' hi q => ?_) fun H' q => ?_
      · obtain ⟨zs, l1, l2, l3, l4, l5⟩ := q
        refine ⟨rfl, t_yes ?_⟩
        refine te_one (menu := [9, 60, 600]) rfl (ea_cons ev_c (ea_cons ev_c (ea_cons ev_c ea_nil))) l5 (by omega) (by decide) (by decide) (by decide) fun v H3 v1 v2 e3 hp3 => ?_
        have hDl : H3 Dl = some (.lst (nvs zs)) := del_ex _ _ (e3 _ _ (by rw [del_at hDp]; exact l3))
        have eN : Ex (del H2 pp) (del (upd H3 Dl (.lst (nvs zs ++ [nv v]))) pp) := ex_del (Ex.mut ((l4.trans e3).trans del_ex) (by rw [del_at hDp]; exact hD))
        refine ⟨nvs zs, hDl, sz_lt (by rw [List.length_map]; omega), zs ++ [v], by rw [List.length_append, l1] <;> rfl, fun x hx => ?_, by rw [upd_same, nvs_snoc], eN, hp3.of hDp hp2.cells eN⟩
        rcases List.mem_append.mp hx with hx | hx
        · exact l2 x hx
        · have : x = v := by simpa using hx
          rw [this]
          exact ⟨v1, v2⟩
      · obtain ⟨zs, l1, l2, l3, l4, l5⟩ := q
        match zs, l1 with
        | [a, b, c], _ =>
        have ok : Tr.Ok (.of a b c) := ⟨l2 a (by simp), l2 b (by simp), l2 c (by simp)⟩
        have sq : SqL K H' Dl (nvs [a, b, c]) := sq_of l3
        have hT : EvP (tTup (tCons (tC (.str "of")) (tCons (tVar 2) tNil))) _ H' (fun v H2 => TreeAt K H2 (.of a b c) v) := (ep_tupV (σ := [some (.ref pp), some (nv way), some (.ref Dl), none, none, none, none, none, none]) (ws := [.str "of", .ref Dl]) (ea_cons ev_c (ea_cons (ev_var rfl) ea_nil)) (by simp)).imp fun v H2 e r => let ⟨p, a, h⟩ := r; ⟨p, Dl, a, st_of h, ex_l e sq⟩
        refine s_retP (ep_drawn (K := K) (C := C) (T := .of a b c) hT (ep_tS (S := Tr.mem (.of a b c)) (ea_cons (ev_op (ev_var rfl) ev_c (rv_ixL sq rfl)) (ea_cons (ev_op (ev_var rfl) ev_c (rv_ixL sq rfl)) (ea_cons (ev_op (ev_var rfl) ev_c (rv_ixL sq rfl)) ea_nil))) fun H3 e3 Q' r => ⟨a, b, c, rfl, ok, r⟩)) fun v H3 e3 hv => ?_
        exact k v _ H3 ((e12.trans l4).trans (del_mono e3)) ((l5.ext e3).mono (by omega)) hv ok rfl
    have e12 := e1.trans (del_mono e2 (a := pp))
    have hp2 := hp1.ext e2
    refine q_when (b := decide (way = 1)) (et_test (ev_op (ev_var rfl) ev_c (rv_eqN (j := 1)))) (fun _ H3 e3 => ?_) fun _ H3 e3 => ?_
    · have hp3 := hp2.ext e3
      refine q_raw ?_
      refine te_one (menu := [5, 40, 600]) rfl (ea_cons ev_c (ea_cons ev_c (ea_cons ev_c ea_nil))) hp3 (by omega) (by decide) (by decide) (by decide) fun v H4 v1 v2 e4 hp4 => ?_
      have ok : Tr.Ok (.frm v) := ⟨v1, v2⟩
      have hT : EvP (tTup (tCons (tC (.str "from")) (tCons (tVar 3) tNil))) _ H4 (fun x H2 => TreeAt K H2 (.frm v) x) := (ep_tupV (σ := [some (.ref pp), some (nv way), none, some (nv v), none, none, none, none, none]) (ws := [.str "from", nv v]) (ea_cons ev_c (ea_cons (ev_var rfl) ea_nil)) (by simp)).imp fun x H2 e r => let ⟨p, a, h⟩ := r; ⟨p, a, st_of h⟩
      refine s_retP (ep_drawn (K := K) (C := C) (T := .frm v) hT (ep_tS (S := Tr.mem (.frm v)) (ea_cons (ev_var rfl) ea_nil) fun H3 e3 Q' r => ⟨v, rfl, ok, r⟩)) fun x H5 e5 hv => ?_
      exact k x _ H5 (((e12.trans (del_mono e3)).trans e4).trans (del_mono e5)) ((hp4.ext e5).mono (by omega)) hv ok rfl
    have e13 := e12.trans (del_mono e3 (a := pp))
    have hp3 := hp2.ext e3
    refine q_when (b := decide (way = 2)) (et_test (ev_op (ev_var rfl) ev_c (rv_eqN (j := 2)))) (fun _ H4 e4 => ?_) fun _ H4 e4 => ?_
    · have hp4 := hp3.ext e4
      refine q_raw ?_
      refine te_pick (menu := M53.menuK) rfl (ea_cons ev_c (ea_cons ev_c (ea_cons ev_c (ea_cons ev_c (ea_cons ev_c (ea_cons ev_c (ea_cons ev_c (ea_cons ev_c (ea_cons ev_c (ea_cons ev_c (ea_cons ev_c ea_nil))))))))))) hp4 (by omega) (by decide) (by decide) fun v H5 hv5 e5 hp5 => ?_
      have ok : Tr.Ok (.mul v) := hv5
      have hT : EvP (tTup (tCons (tC (.str "multiples")) (tCons (tVar 4) tNil))) _ H5 (fun x H2 => TreeAt K H2 (.mul v) x) := (ep_tupV (σ := [some (.ref pp), some (nv way), none, none, some (nv v), none, none, none, none]) (ws := [.str "multiples", nv v]) (ea_cons ev_c (ea_cons (ev_var rfl) ea_nil)) (by simp)).imp fun x H2 e r => let ⟨p, a, h⟩ := r; ⟨p, a, st_of h⟩
      refine s_retP (ep_drawn (K := K) (C := C) (T := .mul v) hT (ep_tS (S := Tr.mem (.mul v)) (ea_cons (ev_var rfl) ea_nil) fun H3 e3 Q' r => ⟨v, rfl, ok, r⟩)) fun x H6 e6 hv => ?_
      exact k x _ H6 (((e13.trans (del_mono e4)).trans e5).trans (del_mono e6)) ((hp5.ext e6).mono (by omega)) hv ok rfl
    have e14 := e13.trans (del_mono e4 (a := pp))
    have hp4 := hp3.ext e4
    refine q_when (b := decide (way = 3)) (et_test (ev_op (ev_var rfl) ev_c (rv_eqN (j := 3)))) (fun _ H5 e5 => ?_) fun _ H5 e5 => ?_
    · have hp5 := hp4.ext e5
      refine q_raw ?_
      refine te_pick (menu := M53.menuQ) rfl (ea_cons ev_c (ea_cons ev_c (ea_cons ev_c (ea_cons ev_c (ea_cons ev_c (ea_cons ev_c (ea_cons ev_c (ea_cons ev_c (ea_cons ev_c (ea_cons ev_c (ea_cons ev_c (ea_cons ev_c (ea_cons ev_c (ea_cons ev_c (ea_cons ev_c (ea_cons ev_c ea_nil)))))))))))))))) hp5 (by omega) (by decide) (by decide) fun v H6 hv6 e6 hp6 => ?_
      have ok : Tr.Ok (.dvd v) := hv6
      have hT : EvP (tTup (tCons (tC (.str "dividing")) (tCons (tVar 5) tNil))) _ H6 (fun x H2 => TreeAt K H2 (.dvd v) x) := (ep_tupV (σ := [some (.ref pp), some (nv way), none, none, none, some (nv v), none, none, none]) (ws := [.str "dividing", nv v]) (ea_cons ev_c (ea_cons (ev_var rfl) ea_nil)) (by simp)).imp fun x H2 e r => let ⟨p, a, h⟩ := r; ⟨p, a, st_of h⟩
      refine s_retP (ep_drawn (K := K) (C := C) (T := .dvd v) hT (ep_tS (S := Tr.mem (.dvd v)) (ea_cons (ev_var rfl) ea_nil) fun H3 e3 Q' r => ⟨v, rfl, ok, r⟩)) fun x H7 e7 hv => ?_
      exact k x _ H7 (((e14.trans (del_mono e5)).trans e6).trans (del_mono e7)) ((hp6.ext e7).mono (by omega)) hv ok rfl
    have e15 := e14.trans (del_mono e5 (a := pp))
    have hp5 := hp4.ext e5
    refine q_raw ?_
    refine te_pick (menu := M53.menuP) rfl (ea_cons ev_c (ea_cons ev_c (ea_cons ev_c (ea_cons ev_c (ea_cons ev_c ea_nil))))) hp5 (by omega) (by decide) (by decide) fun m H6 hm e6 hp6 => ?_
    have mD := M53.menuP_D m hm
    have dl := M53.dv_len m
    have e16 := e15.trans e6
    refine q_raw ⟨_, rfl, m, rfl, mD, fun q H7 hq e7 h7 => ⟨q, rfl, ⟨_, sq_of h7⟩, fun Dl hD => ?_⟩⟩
    have hp7 := hp6.ext e7
    have hDp : Dl ≠ pp := ne_of_new hD hp7.in
    have hqp : SqL K (del H7 pp) q (nvs (M53.dv m)) := sql_del hp7 (sq_of h7) (nvs_noref _)
    refine lc_list (xs := nvs (M53.dv m)) (fun i H' => ∃ zs : List Nat, zs.length ≤ i ∧ (∀ x ∈ zs, x ∈ M53.dv m) ∧ H' Dl = some (.lst (nvs zs)) ∧ Ex (del H7 pp) (del H' pp) ∧ PenAt K H' pp cp ns (n + 2 + i)) ⟨[], Nat.le_refl _, fun x hx => absurd hx List.not_mem_nil, upd_same, del_mono (Ex.new hD), hp7.ext (Ex.new hD)⟩ (fun i H' hi q => ex_l del_ex (let ⟨_, _, _, _, l4, _⟩ := q; ex_l l4 hqp)) (fun i x H' hi q => ?_) fun H' q => ?_
    · obtain ⟨zs, l1, l2, l3, l4, l5⟩ := q
      obtain ⟨ex, hil, hmem⟩ := getD_of hi
      generalize (M53.dv m).getD i 0 = g at ex hmem
      subst ex
      refine ⟨rfl, ⟨_, rfl, pp, cp, ns, 2, n + 2 + i, rfl, by decide, by decide, l5, by omega, fun v H3 hv e3 hp3 => ?_⟩⟩
      have hDl : H3 Dl = some (.lst (nvs zs)) := del_ex _ _ (e3 _ _ (by rw [del_at hDp]; exact l3))
      by_cases hv0 : nv v = .int 0
      · refine ⟨rfl, true, congrArg V.bl (decide_eq_true hv0), ?_⟩
        have eN : Ex (del H7 pp) (del (upd H3 Dl (.lst (nvs zs ++ [nv g]))) pp) := ex_del (Ex.mut ((l4.trans e3).trans del_ex) (by rw [del_at hDp]; exact hD))
        refine ⟨nv g, rfl, nvs zs, hDl, sz_lt (by rw [List.length_map]; omega), zs ++ [g], by rw [List.length_append]; exact Nat.succ_le_succ l1, fun x hx => ?_, by rw [upd_same, nvs_snoc], eN, hp3.of hDp hp7.cells eN⟩
        rcases List.mem_append.mp hx with hx | hx
        · exact l2 x hx
        · have : x = g := by simpa using hx
          rw [this]
          exact hmem
      · refine ⟨rfl, false, congrArg V.bl (decide_eq_false hv0), ?_⟩
        exact ⟨zs, by omega, l2, hDl, l4.trans e3, hp3⟩
    · obtain ⟨zs, l1, l2, l3, l4, l5⟩ := q
      rw [List.length_map] at l1 l5
      have ok : Tr.Ok (.told m zs) := ⟨hm, l2⟩
      have sq : SqL K H' Dl (nvs zs) := sq_of l3
      have mL := M53.mem_D.mp mD
      have hT : EvP (tTup (tCons (tC (.str "told")) (tCons (tVar 6) (tCons (tVar 7) tNil)))) _ H' (fun x H2 => TreeAt K H2 (.told m zs) x) := (ep_tupV (σ := [some (.ref pp), some (nv way), none, none, none, none, some (nv m), some (.ref Dl), none]) (ws := [.str "told", nv m, .ref Dl]) (ea_cons ev_c (ea_cons (ev_var rfl) (ea_cons (ev_var rfl) ea_nil))) (by simp)).imp fun x H2 e r => let ⟨p, a, h⟩ := r; ⟨p, Dl, a, st_of h, ex_l e sq⟩
      have hW : EvP (tS C (spTold K C) (tC (.ref C)) (tCons (tLst tNil) (tCons (tC (.int 1)) (tCons (tVar 6) (tCons (tVar 7) tNil))))) [some (.ref pp), some (nv way), none, none, none, none, some (nv m), some (.ref Dl), none] H' (fun v H2 => ∃ a, v = .ref a ∧ WAt K C H2 a (Tr.mem (.told m zs))) := fun H1 e Q' q' =>
        ⟨rfl, epa_L (ws := [.int 1, nv m, .ref Dl]) (el_lst ea_nil (by simp)) (ea_cons ev_c (ea_cons (ev_var rfl) (ea_cons (ev_var rfl) ea_nil))) H1 e _ fun ws H2 e2 hw => by
          obtain ⟨hp0, rfl, h0⟩ := hw
          exact ⟨hp0, Dl, [], zs, 1, m, Tr.mem (.told m zs), rfl, sq_of h0, ex_l (e.trans e2) sq, mL, by decide, by decide, by simp, fun x hx => absurd hx List.not_mem_nil, fun g hg => (M53.mem_dv mL).mp (l2 g hg), fun w w1 w2 => absurd w2 (by omega), fun w _ => rfl, Tr.tail ok, fun a H3 e3 hW => q' _ H3 (e2.trans e3) ⟨a, rfl, hW⟩⟩⟩
      refine s_retP (ep_drawn (K := K) (C := C) (T := .told m zs) hT hW) fun x H8 e8 hv => ?_
      exact k x _ H8 (((e16.trans (del_mono e7)).trans l4).trans (del_mono e8)) ((l5.ext e8).mono (by omega)) hv ok rfl
end
end K53
namespace M53
theorem tc_ge : ∀ e, 21 ≤ tc e
  | 0 => Nat.le_refl _
  | e + 1 => by
    have := tc_ge e
    show 21 ≤ 2 * tc e + 1
    omega
end M53
namespace K53
open PySem PySem.Spec PyProof.Rows L2 Evl
open M53 (Tr)
section
variable {K : PySem.W.Frag} {σ : L2.St} {H H' : Hp} {te : TE} {t : TA} {g : TG} {tz : TS} {D : Ends} {C : Addr} {pp cp : Addr} {ns : List Int} {n e d : Nat}
theorem te_tree {Q : VK} (ht : EvA t σ H [.ref pp, nv e]) (hed : e < d) (hp : PenAt K H pp cp ns n) (hn : n + M53.tc e ≤ 2000) (k : ∀ r t H2, Ex (del H pp) (del H2 pp) → PenAt K H2 pp cp ns (n + M53.tc e) → DrawnAt K C H2 r t → t.Ok → t.dep ≤ e → Q r H2) : tF (spTree K C d) t σ H Q := ht H (Ex.refl H) _ fun H1 e1 =>
  ⟨pp, cp, ns, e, n, rfl, hed, hp.ext e1, hn, fun r t H2 e2 p d o l => k r t H2 ((del_mono e1).trans e2) p d o l⟩
theorem q_rawG (h : te σ H fun v H1 => g v σ H1 fun σ' H' => tz D σ' H') : tSeq (tAsg te g) tz D σ H := h
end
section
variable {P : Program} {w : World} {K : PySem.W.Frag} {mg : Str → Option Value} {base : Heap} {C : Addr}
theorem k__law_tree (d : Nat) (T : Txt K mg C) (c__law_draw : Cl P w K mg base 1 "_law_draw" (spDraw K)) (c__law_leaf : Cl P w K mg base 6 "_law_leaf" (spLeaf K C)) (c__law_tree : Cl P w K mg base (6 + d) "_law_tree" (spTree K C d)) (c_and : OpB P w K mg base 6 C .BitAnd (spBin K C "both")) (c_or : OpB P w K mg base 6 C .BitOr (spBin K C "either")) (c_sub : OpB P w K mg base 6 C .Sub (spBin K C "first")) (c_xor : OpB P w K mg base 6 C .BitXor (spBin K C "one")) (c_invert : OpU P w K mg base 6 C "__invert__" (spInv K C))
   (F : Fn K mg "_law_tree" s__law_tree ["_law_pen_here", "_law_deep"]) : Cl P w K mg base (6 + d + 1) "_law_tree" (spTree K C (d + 1)) := by
  refine F.cl sc__law_tree (fun vs H Q E h => ?_) (fun f cdv A outer s H vs Q E hr h => ?_)
  · obtain ⟨pp, cp, ns, e, n, rfl, _⟩ := h
    rfl
  · obtain ⟨pp, cp, ns, e, n, rfl, hed, hp, hn, k⟩ := h
    have tge := M53.tc_ge e
    refine ⟨_, (pss_cons (ps_set (i := 2) sc__law_tree.nd rfl (Or.inl rfl) (pc c__law_draw hr (by omega) rfl (pa_cons (pv 0) (pa_cons pe_int pa_nil))))
      (pss_cons (ps_if (PW.pt (pw_or (pt_cmpR op_eq (pv 1) pe_int (nomark _)) (pw_or1 (pt_cmpR op_eq (pv 2) pe_int (nomark _))))) (pss_one (ps_ret (pc c__law_leaf hr (by omega) rfl (pa_cons (pv 0) pa_nil)))) pss_nil)
      (pss_cons (ps_asg (pc c__law_tree hr (by omega) rfl (pa_cons (pv 0) (pa_cons (pe_op op_sub (pv 1) pe_int) pa_nil))) (k_pgt (K := K) (n := 2) rfl rfl (pgs_cons (pg_name (i := 3) sc__law_tree.nd rfl (Or.inl rfl)) (pgs_cons (pg_name (i := 4) sc__law_tree.nd rfl (Or.inl rfl)) pgs_nil))))
      (pss_cons (ps_if (pt_cmpR op_eq (pv 2) pe_int (nomark _)) (pss_one (ps_ret (pe_tup (pa_cons (pe_tup (pa_cons pe_str (pa_cons (pv 3) pa_nil))) (pa_cons (pe_un (c_invert.un hr (by omega)) (pv 4)) pa_nil))))) pss_nil)
      (pss_cons (ps_asg (pc c__law_tree hr (by omega) rfl (pa_cons (pv 0) (pa_cons (pe_op op_sub (pv 1) pe_int) pa_nil))) (k_pgt (K := K) (n := 2) rfl rfl (pgs_cons (pg_name (i := 5) sc__law_tree.nd rfl (Or.inl rfl)) (pgs_cons (pg_name (i := 6) sc__law_tree.nd rfl (Or.inl rfl)) pgs_nil))))
      (pss_cons (ps_if (pt_cmpR op_eq (pv 2) pe_int (nomark _)) (pss_one (ps_ret (pe_tup (pa_cons (pe_tup (pa_cons pe_str (pa_cons (pv 3) (pa_cons (pv 5) pa_nil)))) (pa_cons (pe_op (c_and.op hr (by omega)) (pv 4) (pv 6)) pa_nil))))) pss_nil)
      (pss_cons (ps_if (pt_cmpR op_eq (pv 2) pe_int (nomark _)) (pss_one (ps_ret (pe_tup (pa_cons (pe_tup (pa_cons pe_str (pa_cons (pv 3) (pa_cons (pv 5) pa_nil)))) (pa_cons (pe_op (c_or.op hr (by omega)) (pv 4) (pv 6)) pa_nil))))) pss_nil)
      (pss_cons (ps_if (pt_cmpR op_eq (pv 2) pe_int (nomark _)) (pss_one (ps_ret (pe_tup (pa_cons (pe_tup (pa_cons pe_str (pa_cons (pv 3) (pa_cons (pv 5) pa_nil)))) (pa_cons (pe_op (c_sub.op hr (by omega)) (pv 4) (pv 6)) pa_nil))))) pss_nil)
      (pss_one (ps_ret (pe_tup (pa_cons (pe_tup (pa_cons pe_str (pa_cons (pv 3) (pa_cons (pv 5) pa_nil)))) (pa_cons (pe_op (c_xor.op hr (by omega)) (pv 4) (pv 6)) pa_nil))))))))))))), ?_⟩
    refine q_raw ⟨_, rfl, pp, cp, ns, 6, n, rfl, by decide, by decide, hp, by omega, fun way H1 hway e1 hp1 => ?_⟩
    refine q_when (b := decide (e = 0) || decide (way = 0)) (et_or (et_test (ev_op (ev_var rfl) ev_c (rv_eqN (j := 0)))) fun _ => et_test (ev_op (ev_var rfl) ev_c (rv_eqN (j := 0)))) (fun _ H2 e2 => ?_) fun hb H2 e2 => ?_
    · exact ⟨_, rfl, pp, cp, ns, n + 1, rfl, hp1.ext e2, by omega, fun r t H3 e3 hp3 hd ok dep => k r t H3 ((e1.trans (del_mono e2)).trans e3) (hp3.mono (by omega)) hd ok (by omega)⟩
    cases e with
    | zero => exact absurd hb (by simp)
    | succ e =>
    have etc : M53.tc (e + 1) = 2 * M53.tc e + 1 := rfl
    rw [etc] at hn k
    have e12 := e1.trans (del_mono e2 (a := pp))
    have hp2 := hp1.ext e2
    refine q_rawG ?_
    refine te_tree (C := C) (e := e) (ea_cons (ev_var rfl) (ea_cons (ev_op (ev_var rfl) ev_c (rv_subN (i := e + 1) (j := 1) (by omega))) ea_nil)) (by omega) hp2 (by omega) fun r1 t1 H3 e3 hp3 hd1 ok1 dep1 => ?_
    obtain ⟨p1, x1, a1, rfl, hq1, hT1, hW1⟩ := hd1
    refine ⟨p1, _, rfl, hq1, rfl, _, _, rfl, _, _, rfl, rfl, ?_⟩
    have e13 := e12.trans e3
    refine q_when (b := decide (way = 1)) (et_test (ev_op (ev_var rfl) ev_c (rv_eqN (j := 1)))) (fun _ H4 e4 => ?_) fun _ H4 e4 => ?_
    · have hT : EvP (tTup (tCons (tC (.str "not")) (tCons (tVar 3) tNil))) _ H4 (fun x H2 => TreeAt K H2 (.not t1) x) := (ep_tupV (σ := [some (.ref pp), some (nv (e + 1)), some (nv way), some x1, some (.ref a1), none, none]) (ws := [.str "not", x1]) (ea_cons ev_c (ea_cons (ev_var rfl) ea_nil)) (by simp)).imp fun x H2 e r => let ⟨p, a, h⟩ := r; ⟨p, x1, a, st_of h, (hT1.ext e4).ext e⟩
      refine s_retP (ep_drawn (K := K) (C := C) (T := .not t1) hT (ep_inv (ev_var rfl) (hW1.ext e4))) fun x H5 e5 hv => ?_
      exact k x _ H5 (e13.trans (del_mono (e4.trans e5))) ((hp3.ext (e4.trans e5)).mono (by omega)) hv ok1 (Nat.succ_le_succ dep1)
    have hp4 := hp3.ext e4
    refine q_rawG ?_
    refine te_tree (C := C) (e := e) (ea_cons (ev_var rfl) (ea_cons (ev_op (ev_var rfl) ev_c (rv_subN (i := e + 1) (j := 1) (by omega))) ea_nil)) (by omega) hp4 (by omega) fun r2 t2 H5 e5 hp5 hd2 ok2 dep2 => ?_
    obtain ⟨p2, x2, a2, rfl, hq2, hT2, hW2⟩ := hd2
    refine ⟨p2, _, rfl, hq2, rfl, _, _, rfl, _, _, rfl, rfl, ?_⟩
    have e15 := (e13.trans (del_mono e4)).trans e5
    have hT1 := (hT1.ext e4).pen hp4 e5
    have hW1 := (hW1.ext e4).pen hp4 e5
    have hp5 : PenAt K H5 pp cp ns (n + (2 * M53.tc e + 1)) := hp5.mono (by omega)
    have fin : ∀ {H6 : Hp} (c : Tr → Tr → Tr) (word : Str) (r : Str), Ex H5 H6 → (∀ H2 x p, SqT K H2 p [.str word, x1, x2] → TreeAt K H2 t1 x1 → TreeAt K H2 t2 x2 → x = .ref p → TreeAt K H2 (c t1 t2) x) → (∀ w, (c t1 t2).mem w = ruleF r (t1.mem w) (t2.mem w)) → (c t1 t2).Ok → (c t1 t2).dep = max t1.dep t2.dep + 1 → ∀ (D : Ends), D.rt = Q →
        tRet (tTup (tCons (tTup (tCons (tC (.str word)) (tCons (tVar 3) (tCons (tVar 5) tNil)))) (tCons (tOp (rBin C (spBin K C r)) (tVar 4) (tVar 6)) tNil))) D [some (.ref pp), some (nv (e + 1)), some (nv way), some x1, some (.ref a1), some x2, some (.ref a2)] H6 := fun {H6} c word r e6 mk mem ok dep D hD => by
      have hT : EvP (tTup (tCons (tC (.str word)) (tCons (tVar 3) (tCons (tVar 5) tNil)))) _ H6 (fun x H2 => TreeAt K H2 (c t1 t2) x) := (ep_tupV (σ := [some (.ref pp), some (nv (e + 1)), some (nv way), some x1, some (.ref a1), some x2, some (.ref a2)]) (ws := [.str word, x1, x2]) (ea_cons ev_c (ea_cons (ev_var rfl) (ea_cons (ev_var rfl) ea_nil))) (by simp)).imp fun x H2 e r => let ⟨p, a, h⟩ := r; mk H2 x p (st_of h) ((hT1.ext e6).ext e) ((hT2.ext e6).ext e) a
      refine s_retP (ep_drawn (K := K) (C := C) (T := c t1 t2) hT (ep_congr (ep_bin (ev_var rfl) (hW1.ext e6) (ev_var rfl) (hW2.ext e6)) fun w _ => (mem w).symm)) fun x H7 e7 hv => ?_
      rw [hD]
      exact k x _ H7 (e15.trans (del_mono (e6.trans e7))) (hp5.ext (e6.trans e7)) hv ok (by rw [dep]; omega)
    refine q_when (b := decide (way = 2)) (et_test (ev_op (ev_var rfl) ev_c (rv_eqN (j := 2)))) (fun _ H6 e6 => fin .and "and" "both" (e6) (fun H2 x p h h1 h2 ex => ⟨p, x1, x2, ex, h, h1, h2⟩) (fun w => (ruleF_both _ _).symm) ⟨ok1, ok2⟩ rfl _ rfl) fun _ H6 e6 => ?_
    refine q_when (b := decide (way = 3)) (et_test (ev_op (ev_var rfl) ev_c (rv_eqN (j := 3)))) (fun _ H7 e7 => fin .or "or" "either" (e6.trans e7) (fun H2 x p h h1 h2 ex => ⟨p, x1, x2, ex, h, h1, h2⟩) (fun w => (ruleF_either _ _).symm) ⟨ok1, ok2⟩ rfl _ rfl) fun _ H7 e7 => ?_
    refine q_when (b := decide (way = 4)) (et_test (ev_op (ev_var rfl) ev_c (rv_eqN (j := 4)))) (fun _ H8 e8 => fin .less "less" "first" ((e6.trans e7).trans e8) (fun H2 x p h h1 h2 ex => ⟨p, x1, x2, ex, h, h1, h2⟩) (fun w => (ruleF_first _ _).symm) ⟨ok1, ok2⟩ rfl _ rfl) fun _ H8 e8 => ?_
    exact fin .one "one" "one" ((e6.trans e7).trans e8) (fun H2 x p h h1 h2 ex => ⟨p, x1, x2, ex, h, h1, h2⟩) (fun w => (ruleF_one _ _).symm) ⟨ok1, ok2⟩ rfl _ rfl
end
end K53
namespace M53
def rgk (S : Nat → Bool) (k : Nat) : List Nat := ((List.range k).map (601 + ·)).filter S
theorem rgk_succ (S : Nat → Bool) (k : Nat) : rgk S (k + 1) = rgk S k ++ (if S (601 + k) then [601 + k] else []) := by
  unfold rgk
  rw [List.range_succ, List.map_append, List.filter_append]
  congr 1
  show [601 + k].filter S = _
  rw [List.filter_cons]
  split <;> rfl
theorem rgk_cnt (S : Nat → Bool) (t : Nat) : ∀ k, ((rgk S k).filter fun w => decide (w ≤ 600 + t)).length + cnt S 600 = cnt S (600 + min k t)
  | 0 => by
    rw [Nat.zero_min]
    show 0 + cnt S 600 = cnt S 600
    omega
  | k + 1 => by
    have ih := rgk_cnt S t k
    rw [rgk_succ, List.filter_append, List.length_append]
    by_cases q : k + 1 ≤ t
    · rw [show min (k + 1) t = min k t + 1 by omega, show 600 + (min k t + 1) = (600 + min k t) + 1 by omega]
      show _ = cnt S (600 + min k t) + (if S (600 + min k t + 1) then 1 else 0)
      rw [show 600 + min k t + 1 = 601 + k by omega]
      by_cases b : S (601 + k) = true
      · rw [if_pos b, if_pos b, List.filter_cons, decide_eq_true (by omega : 601 + k ≤ 600 + t), if_pos rfl]
        show _ + 1 + _ = _
        omega
      · rw [if_neg b, if_neg b]
        show _ + 0 + _ = _
        omega
    · rw [show min (k + 1) t = min k t by omega]
      have : (List.filter (fun w => decide (w ≤ 600 + t)) (if S (601 + k) = true then [601 + k] else [])).length = 0 := by
        split
        · rw [List.filter_cons, decide_eq_false (by omega : ¬ 601 + k ≤ 600 + t)]
          rfl
        · rfl
      omega
theorem rgk_len (S : Nat → Bool) : (rgk S 120).length + cnt S 600 = cnt S 720 := by
  have h := rgk_cnt S 120 120
  have e : (rgk S 120).filter (fun w => decide (w ≤ 600 + 120)) = rgk S 120 := by
    refine List.filter_eq_self.mpr fun w hw => ?_
    obtain ⟨i, hi, rfl⟩ := List.mem_map.mp (List.mem_filter.mp hw).1
    have := List.mem_range.mp hi
    exact decide_eq_true (by omega)
  rw [e] at h
  exact h
theorem due_eq {S : Nat → Bool} (T : Tail S) {n : Nat} (h : 600 < n) : cnt S 600 + (n - 601) / 120 * (rgk S 120).length + ((rgk S 120).filter fun w => decide (w ≤ n - 120 * ((n - 601) / 120))).length = cnt S n := by
  obtain ⟨r, hr⟩ : ∃ r, (n - 601) / 120 = r := ⟨_, rfl⟩
  rw [hr]
  obtain ⟨t, ht⟩ : ∃ t, n = 600 + 120 * r + t ∧ t ≤ 120 := ⟨n - 600 - 120 * r, by omega, by omega⟩
  have e1 := cnt_per T t r
  have e2 := rgk_cnt S t 120
  have e3 := rgk_len S
  have m1 := cnt_mono S (show 600 ≤ 600 + t by omega)
  rw [show min 120 t = t by omega] at e2
  rw [show n - 120 * r = 600 + t by omega, ht.1, e1]
  have e4 : (rgk S 120).length = cnt S 720 - cnt S 600 := by omega
  rw [e4]
  omega
end M53
namespace K53
open PySem PySem.Spec PyProof.Rows L2 Evl
/-- the truths, by place -/
def trV (S : Nat → Bool) : List V := V.bl false :: (List.range 1400).map fun i => V.bl (S (i + 1))
theorem trV_at (S : Nat → Bool) {w : Nat} (h1 : 1 ≤ w) (h2 : w ≤ 1400) : atI (trV S) (w : Int) = some (.bl (S w)) := by
  obtain ⟨i, rfl⟩ : ∃ i, w = i + 1 := ⟨w - 1, by omega⟩
  have l : (trV S).length = 1401 := by unfold trV; rw [List.length_cons, List.length_map, List.length_range]
  unfold atI
  rw [ixN_nat (by rw [l]; omega)]
  show (trV S)[i + 1]? = _
  unfold trV
  rw [List.getElem?_cons_succ, List.getElem?_map, List.getElem?_range (by omega)]
  rfl
theorem trV_noref (S : Nat → Bool) : ∀ a y, trV S ≠ .ref a :: y := fun a y e => by
  unfold trV at e
  cases e
def spCounted (K : PySem.W.Frag) (C : Addr) : Sp := fun vs H Q _ => ∃ (pp cp a tp : Addr) (ns : List Int) (n : Nat) (S : Nat → Bool), vs = [.ref pp, .ref a, .ref tp, nv 1400] ∧ PenAt K H pp cp ns n ∧ n + 3 ≤ 2000 ∧ WAt K C H a S ∧ SqL K H tp (trV S) ∧
  ∀ H2, Ex (del H pp) (del H2 pp) → PenAt K H2 pp cp ns (n + 3) → Q (.bl true) H2
section
variable {K : PySem.W.Frag} {σ : L2.St} {H H' : Hp} {ta tb tc td te tl tl1 ty tv : TE} {t ts : TA} {tt : TT} {x y z v : V} {vs : List Nat} {tu tw tz : TS} {D : Ends} {a b : Addr} {C : Addr} {xs : List V} {pp cp : Addr} {ns : List Int} {n : Nat}
theorem rv_mulR {i j : Nat} (h : j < 2 ^ 64) : RV (rI CMul fun i j => .int (i * j)) (nv i) (nv j) H (nv (i * j)) := by
  have e : nv (i * j) = .int ((i : Int) * (j : Int)) := congrArg V.int (Int.natCast_mul i j)
  rw [e]
  exact rv_I (.inr ⟨by omega, by omega⟩)
/-- [w for w in range(lo, hi) if f(w)] -/
theorem el_range {ta' : TA} {j lo hi : Nat} {S : Nat → Bool} (h : EvA ta' σ H [nv lo, nv hi]) (hn : lo ≤ 20000 ∧ hi ≤ 40000 ∧ lo ≤ hi) (hw : ∀ x, wipe ((wipe σ vs).set j (some x)) vs = wipe σ vs) (hv : ∀ x, ((wipe σ vs).set j (some x))[j]? = some (some x))
    (ht : ∀ (w : Nat) H1, Ex H H1 → lo ≤ w → w < hi → EvT tt ((wipe σ vs).set j (some (nv w))) H1 (S w)) : EvL (tLc (iRng2 ta') (gName j) tt (tVar j) vs) σ H (nvs (((List.range (hi - lo)).map (lo + ·)).filter S)) := by
  have g : given ((hi : Int) - (lo : Int)).toNat (fun i => S (lo + i)) (fun i => nv (lo + i)) = nvs (((List.range (hi - lo)).map (lo + ·)).filter S) := by
    rw [show ((hi : Int) - (lo : Int)).toNat = hi - lo by omega]
    unfold given
    rw [List.filter_map, nvs, List.map_map]
    rfl
  rw [← g]
  refine el_lcR2 _ _ h ⟨by omega, by omega, by omega, by omega⟩ hw (fun i H1 e hi => ?_) fun i H1 e hi _ => ?_
  · have e2 : V.int ((lo : Int) + (i : Int)) = nv (lo + i) := congrArg V.int (by omega)
    rw [e2]
    exact ht _ H1 e (by omega) (by omega)
  · have e2 : V.int ((lo : Int) + (i : Int)) = nv (lo + i) := congrArg V.int (by omega)
    rw [e2]
    exact ev_var (hv _)
theorem el_keepL {xs : List Nat} {j : Nat} (f : Nat → Bool) (h : Ev tl σ H (.ref a)) (hx : SqL K H a (nvs xs)) (hz : xs.length ≤ 40000) (hw : ∀ x, wipe ((wipe σ vs).set j (some x)) vs = wipe σ vs) (hv : ∀ x, ((wipe σ vs).set j (some x))[j]? = some (some x))
    (ht : ∀ (x : Nat) H1, Ex H H1 → x ∈ xs → EvT tt ((wipe σ vs).set j (some (nv x))) H1 (f x)) : EvL (tLc (iList K tl) (gName j) tt (tVar j) vs) σ H (nvs (xs.filter f)) := by
  have l : (nvs xs).length = xs.length := List.length_map _
  rw [← given_nvs xs f, ← l]
  refine el_lcL _ _ h hx (by rw [l]; exact hz) hw (fun i x H1 e hi => ?_) fun i x H1 e hi _ => ?_
  · obtain ⟨ex, _, hm⟩ := getD_of hi
    subst ex
    exact ht _ H1 e hm
  · obtain ⟨ex, _, hm⟩ := getD_of hi
    subst ex
    exact ev_var (hv _)
theorem ev_lenNv {xs : List Nat} (h : EvL te σ H (nvs xs)) : Ev (tCB (rLenS K) (tCons te tNil)) σ H (nv xs.length) := ev_is (ev_lenN h) (congrArg V.int (congrArg Int.ofNat (List.length_map _)))
theorem ev_lenVv {xs : List Nat} (h : Ev te σ H (.ref a)) (hx : SqL K H a (nvs xs)) : Ev (tCB (rLenS K) (tCons te tNil)) σ H (nv xs.length) := ev_is (ev_len h hx) (congrArg V.int (congrArg Int.ofNat (List.length_map _)))
/-- a.m(..), a a set -/
theorem ev_mt {m : Str} {sp : Sp} {S : Nat → Bool} {ws : List V} (h : Ev ta σ H (.ref a)) (w : WAt K C H a S) (h1 : ¬ m = "divisors") (h2 : ¬ m = "length") (h3 : ¬ m = "start") (h4 : ¬ m = "head") (ha : EvA t σ H ws) (hs : SpV sp (.ref a :: ws) H z) : Ev (tM C m sp ta t) σ H z := fun H1 e Q q => h H1 e _ fun H2 e2 => by
  obtain ⟨_, _, _, _, W, _⟩ := w.ext (e.trans e2)
  obtain ⟨dx, hp, dp, g1, _⟩ := W.ex
  exact ⟨a, dx, _, rfl, g1, wf_no _ _ _ _ h1 h2 h3 h4, ha H2 (e.trans e2) _ fun H3 e3 => hs H3 ((e.trans e2).trans e3) Q (fun H4 e4 => q H4 ((e2.trans e3).trans e4)) E0⟩
theorem spv_up {S : Nat → Bool} (w : WAt K C H a S) : SpV (spUp K C) [.ref a, nv n] H (nv (M53.cnt S n)) := fun H1 e Q k E => ⟨a, n, S, rfl, w.ext e, k⟩
theorem spv_kth {S : Nat → Bool} {k x : Nat} (w : WAt K C H a S) (h1 : k < M53.cnt S 1400) (h2 : 1 ≤ x) (h3 : S x = true) (h4 : M53.cnt S x = k + 1) : SpV (spKth K C) [.ref a, nv k] H (nv x) := fun H1 e Q q E => ⟨a, k, x, S, rfl, w.ext e, h1, h2, h3, h4, q⟩
end
section
variable {P : Program} {w : World} {K : PySem.W.Frag} {mg : Str → Option Value} {base : Heap} {C : Addr}
theorem k__law_counted_right (T : Txt K mg C) (c__law_draw : Cl P w K mg base 1 "_law_draw" (spDraw K)) (c_up_to : Mt P w K mg base 3 C "up_to" (spUp K C)) (c_kth : Mt P w K mg base 3 C "kth" (spKth K C)) (F : Fn K mg "_law_counted_right" s__law_counted_right ["_law_pen_here", "_law_made", "_law_truths", "_law_most"]) : Cl P w K mg base 4 "_law_counted_right" (spCounted K C) := by
  refine F.cl sc__law_counted_right (fun vs H Q E h => ?_) (fun f cdv A outer s H vs Q E hr h => ?_)
  · obtain ⟨pp, cp, a, tp, ns, n, S, rfl, _⟩ := h
    rfl
  · obtain ⟨pp, cp, a, tp, ns, n, S, rfl, hp, hn, hW, hT, k⟩ := h
    refine ⟨_, (pss_cons (ps_setLc (i := 4) (own := [("_law_w", 11)]) rfl sc__law_counted_right.nd rfl rfl (sw_true rfl rfl rfl (by decide +kernel)) (pi_range2 (by rfl) T.range (pa_cons pe_int (pa_cons pe_int pa_nil))) (blkOk_by (own := [("_law_w", 11)]) (N := N__law_counted_right) (sc := defScope s__law_counted_right) (by decide +kernel)) (fun _ _ _ _ _ => (pg_name (i := 11) sc__law_counted_right.nd rfl (Or.inl rfl))) (fun _ _ _ _ _ => (pts_one (pt_val (pe_ix (k_ixL (K := K) rfl) (pv 2) (pv 11) (fun _ _ => rfl))))) (fun _ _ _ _ _ => (pv 11)))
      (pss_cons (ps_setLc (i := 5) (own := [("_law_w", 11)]) rfl sc__law_counted_right.nd rfl rfl (sw_true rfl rfl rfl (by decide +kernel)) (pi_range2 (by rfl) T.range (pa_cons pe_int (pa_cons pe_int pa_nil))) (blkOk_by (own := [("_law_w", 11)]) (N := N__law_counted_right) (sc := defScope s__law_counted_right) (by decide +kernel)) (fun _ _ _ _ _ => (pg_name (i := 11) sc__law_counted_right.nd rfl (Or.inl rfl))) (fun _ _ _ _ _ => (pts_one (pt_val (pe_ix (k_ixL (K := K) rfl) (pv 2) (pv 11) (fun _ _ => rfl))))) (fun _ _ _ _ _ => (pv 11)))
      (pss_cons (ps_for PassesOwn.never rfl (k_pil (K := K) rfl (pe_lst (pa_cons (pe_op op_pow pe_int pe_int) (pa_cons (pe_op op_add pe_int (pc c__law_draw hr (by decide) rfl (pa_cons (pv 0) (pa_cons (pe_op op_pow pe_int pe_int) pa_nil)))) (pa_cons (pv 3) (pa_cons (pc c__law_draw hr (by decide) rfl (pa_cons (pv 0) (pa_cons pe_int pa_nil))) pa_nil)))))) (pg_name (i := 6) sc__law_counted_right.nd rfl (Or.inr rfl))
        (pss_cons (ps_set (i := 7) sc__law_counted_right.nd rfl (Or.inl rfl) (pe_callB (k_len (K := K) rfl) (by rfl) T.len bt_len (pa_cons (pe_lc (own := [("_law_w", 11)]) rfl sc__law_counted_right.nd (k_pil (K := K) rfl (pv 5)) (blkOk_by (own := [("_law_w", 11)]) (N := N__law_counted_right) (sc := defScope s__law_counted_right) (by decide +kernel)) (fun _ _ _ _ _ => (pg_name (i := 11) sc__law_counted_right.nd rfl (Or.inl rfl))) (fun _ _ _ _ _ => (pts_one (pt_cmpR op_le (pv 11) (pv 6) (nomark _)))) (fun _ _ _ _ _ => (pv 11))) pa_nil)))
      (pss_cut (ps_if (pt_cmpR op_gt (pv 6) pe_int (nomark _)) (pss_cons (ps_set (i := 8) sc__law_counted_right.nd rfl (Or.inr rfl) (pe_op op_fdiv (pe_callTy call_int1 (by rfl) T.int bt_int (pa_cons (pe_op op_sub (pv 6) pe_int) pa_nil)) pe_int))
      (pss_one (ps_set (i := 7) sc__law_counted_right.nd rfl (Or.inl rfl) (pe_op op_add (pe_op op_add (pv 7) (pe_op op_mul (pv 8) (pe_callB (k_len (K := K) rfl) (by rfl) T.len bt_len (pa_cons (pv 4) pa_nil)))) (pe_callB (k_len (K := K) rfl) (by rfl) T.len bt_len (pa_cons (pe_lc (own := [("_law_w", 11)]) rfl sc__law_counted_right.nd (k_pil (K := K) rfl (pv 4)) (blkOk_by (own := [("_law_w", 11)]) (N := N__law_counted_right) (sc := defScope s__law_counted_right) (by decide +kernel)) (fun _ _ _ _ _ => (pg_name (i := 11) sc__law_counted_right.nd rfl (Or.inl rfl))) (fun _ _ _ _ _ => (pts_one (pt_cmpR op_le (pv 11) (pe_op op_sub (pv 6) (pe_op op_mul pe_int (pv 8))) (nomark _)))) (fun _ _ _ _ _ => (pv 11))) pa_nil)))))) pss_nil)
      (pss_one (ps_if (pt_cmpR op_ne (pm c_up_to T.cl hr (by decide) (pv 1) (pa_cons (pe_callTy call_int1 (by rfl) T.int bt_int (pa_cons (pv 6) pa_nil)) pa_nil)) (pv 7) (nomark _)) (pss_one (ps_ret pe_bl)) pss_nil)))))
      (pss_cons (ps_setLc (i := 9) (own := [("_law_w", 11)]) rfl sc__law_counted_right.nd rfl rfl (sw_true rfl rfl rfl (by decide +kernel)) (pi_range2 (by rfl) T.range (pa_cons pe_int (pa_cons (pe_op op_add (pv 3) pe_int) pa_nil))) (blkOk_by (own := [("_law_w", 11)]) (N := N__law_counted_right) (sc := defScope s__law_counted_right) (by decide +kernel)) (fun _ _ _ _ _ => (pg_name (i := 11) sc__law_counted_right.nd rfl (Or.inl rfl))) (fun _ _ _ _ _ => (pts_one (pt_val (pe_ix (k_ixL (K := K) rfl) (pv 2) (pv 11) (fun _ _ => rfl))))) (fun _ _ _ _ _ => (pv 11)))
      (pss_cons (ps_set (i := 10) sc__law_counted_right.nd rfl (Or.inl rfl) (pc c__law_draw hr (by decide) rfl (pa_cons (pv 0) (pa_cons (pe_op op_add (pe_callB (k_len (K := K) rfl) (by rfl) T.len bt_len (pa_cons (pv 9) pa_nil)) pe_int) pa_nil))))
      (pss_one (ps_ret (pe_ifExp (pt_cmpR op_lt (pv 10) (pe_callB (k_len (K := K) rfl) (by rfl) T.len bt_len (pa_cons (pv 9) pa_nil)) (nomark _)) (pe_cmpR op_eq (pm c_kth T.cl hr (by decide) (pv 1) (pa_cons (pv 10) pa_nil)) (pe_ix (k_ixL (K := K) rfl) (pv 9) (pv 10) (fun _ _ => rfl)) (nomark _)) pe_bl)))))))), ?_⟩
    have tl : M53.Tail S := let ⟨_, _, _, _, _, Fo⟩ := hW; Fo.toTail
    have trB : ∀ {σ : L2.St} {H1 : Hp} {w : Nat} {te : TE}, SqL K H1 tp (trV S) → σ[2]? = some (some (.ref tp)) → Ev te σ H1 (nv w) → 1 ≤ w → w ≤ 1400 → EvT (tB (tOp (rIxL K) (tVar 2) te)) σ H1 (S w) := fun h h2 hw w1 w2 => et_B (ev_op (ev_var h2) hw (rv_ixL h (trV_at S w1 w2)))
    refine q_asgL (el_range (lo := 601) (hi := 721) (S := S) (ea_cons ev_c (ea_cons ev_c ea_nil)) (by decide) (fun _ => rfl) (fun _ => rfl) fun w H1 e h1 h2 => trB (ex_l e hT) rfl (ev_var rfl) (by omega) (by omega)) fun rp H1 _ e1 hr1 => ?_
    have hr1 : H1 rp = some (.lst (nvs (M53.rgk S 120))) := hr1
    have hT1 := ex_l e1 hT
    refine q_asgL (el_range (lo := 1) (hi := 601) (S := S) (ea_cons ev_c (ea_cons ev_c ea_nil)) (by decide) (fun _ => rfl) (fun _ => rfl) fun w H1 e h1 h2 => trB (ex_l e hT1) rfl (ev_var rfl) (by omega) (by omega)) fun lp H2 _ e2 hl2 => ?_
    have elow : ((List.range (601 - 1)).map (1 + ·)).filter S = M53.hd S 601 := by
      refine M53.sorted_ext (List.Pairwise.sublist List.filter_sublist ?_) (M53.hd_sorted S 601) fun x => ?_
      · rw [List.pairwise_map]
        exact List.pairwise_lt_range.imp fun {a b} h => by omega
      · rw [List.mem_filter, M53.mem_hd, List.mem_map]
        constructor
        · rintro ⟨⟨i, hi, rfl⟩, hs⟩
          have := List.mem_range.mp hi
          exact ⟨by omega, by omega, hs⟩
        · rintro ⟨h1, h2, h3⟩
          exact ⟨⟨x - 1, List.mem_range.mpr (by omega), by omega⟩, h3⟩
    rw [elow] at hl2
    have e12 := e1.trans e2
    have hp2 := hp.ext e12
    have lr : (M53.rgk S 120).length ≤ 120 := Nat.le_trans (List.length_filter_le _ _) (by rw [List.length_map, List.length_range]; exact Nat.le_refl _)
    have ll : (M53.hd S 601).length ≤ 601 := Nat.le_trans (List.length_filter_le _ _) (by rw [List.length_range]; exact Nat.le_refl _)
    refine ⟨10, 30, rfl, rfl, ⟨by decide, by decide, by decide⟩, _, rfl, 10, 12, rfl, rfl, ⟨by decide, by decide, by decide⟩, pp, cp, ns, 10 ^ 12, n, rfl, by decide, by decide, hp2, by omega, fun v1 H3 hv1 e3 hp3 => ?_⟩
    refine ⟨601, (v1 : Int), rfl, rfl, _, rfl, _, rfl, pp, cp, ns, 700, n + 1, rfl, by decide, by decide, hp3, by omega, fun v2 H4 hv2 e4 hp4 => ⟨sz_of (by simp), fun l hl => ?_⟩⟩
    have e24 := e3.trans e4
    have e5 : Ex H4 (upd H4 l (.lst [.int ((10 : Int) ^ (30 : Int).toNat), .int (601 + (v1 : Int)), nv 1400, nv v2])) := Ex.new hl
    have eB : Ex (del H2 pp) (upd H4 l (.lst [.int ((10 : Int) ^ (30 : Int).toNat), .int (601 + (v1 : Int)), nv 1400, nv v2])) := (e24.trans del_ex).trans e5
    have hp5 := hp4.ext e5
    have exs : ([.int ((10 : Int) ^ (30 : Int).toNat), .int (601 + (v1 : Int)), nv 1400, nv v2] : List V) = nvs [10 ^ 30, 601 + v1, 1400, v2] := by
      show _ = [nv (10 ^ 30), nv (601 + v1), nv 1400, nv v2]
      rw [show ((10 : Int) ^ (30 : Int).toNat) = ((10 ^ 30 : Nat) : Int) by decide, show (601 + (v1 : Int)) = ((601 + v1 : Nat) : Int) by omega]
      rfl
    rw [exs] at e5 eB hp5
    show ∃ b, V.ref l = V.ref b ∧ (∃ xs, SqL K (upd H4 l (.lst [.int ((10 : Int) ^ (30 : Int).toNat), .int (601 + (v1 : Int)), nv 1400, nv v2])) b xs) ∧ _
    rw [exs]
    obtain ⟨H5, hH5⟩ : ∃ H5, upd H4 l (.lst (nvs [10 ^ 30, 601 + v1, 1400, v2])) = H5 := ⟨_, rfl⟩
    have hl5 : H5 l = some (.lst (nvs [10 ^ 30, 601 + v1, 1400, v2])) := by rw [← hH5]; exact upd_same
    rw [hH5] at e5 eB hp5 ⊢
    have hW5 : WAt K C H5 a S := ((hW.ext e12).pen hp2 e24).ext e5
    have hT5 : SqL K H5 tp (trV S) := ex_l e5 (sql_pen (ex_l e12 hT) hp2 (trV_noref S) e24)
    have hr5 : SqL K H5 rp (nvs (M53.rgk S 120)) := ex_l e5 (sql_pen (sq_of (e2 _ _ hr1)) hp2 (nvs_noref _) e24)
    have hl5' : SqL K H5 lp (nvs (M53.hd S 601)) := ex_l e5 (sql_pen (sq_of hl2) hp2 (nvs_noref _) e24)
    refine ⟨l, rfl, ⟨_, sq_of hl5⟩, for_list (xs := nvs [10 ^ 30, 601 + v1, 1400, v2]) (fun i σ H' => ∃ o6 o7 o8, σ = [some (.ref pp), some (.ref a), some (.ref tp), some (nv 1400), some (.ref rp), some (.ref lp), o6, o7, o8, none, none, none] ∧ Ex H5 H') ⟨_, _, _, rfl, Ex.refl _⟩ (fun i σ' H' hi q => let ⟨_, _, _, _, e⟩ := q; sq_of (e _ _ hl5)) (fun i x σ' H' hi q => ?_) fun σ' H' q => ?_⟩
    · obtain ⟨o6, o7, o8, rfl, e6⟩ := q
      obtain ⟨ex, _, _⟩ := getD_of hi
      subst ex
      generalize ([10 ^ 30, 601 + v1, 1400, v2] : List Nat).getD i 0 = m
      refine q_asg (σ := [some (.ref pp), some (.ref a), some (.ref tp), some (nv 1400), some (.ref rp), some (.ref lp), some (nv m), o7, o8, none, none, none]) (ev_lenNv (el_keepL (K := K) (fun w => decide (w ≤ m)) (ev_var rfl) (ex_l e6 hl5') (by omega) (fun _ => rfl) (fun _ => rfl) fun x H1 e hx => et_test (ev_op (ev_var rfl) (ev_var rfl) rv_leN))) fun H7 e7 => ?_
      rw [M53.hd_upto S (by decide : 1 ≤ 601) m]
      have e57 := e6.trans e7
      refine q_cut (M := fun σ H' => ∃ o8, σ = [some (.ref pp), some (.ref a), some (.ref tp), some (nv 1400), some (.ref rp), some (.ref lp), some (nv m), some (nv (M53.cnt S m)), o8, none, none, none] ∧ Ex H5 H') ?_ ?_
      · refine s_when (b := decide (600 < m)) (et_test (ev_op (ev_var rfl) ev_c (rv_gtN (j := 600)))) (fun hb H8 e8 => ?_) (fun hb H8 e8 => ?_)
        · have hb := of_decide_eq_true hb
          have due := M53.due_eq tl hb
          refine q_asg (ev_op (ev_cb (ea_cons (ev_op (ev_var rfl) ev_c (rv_subN (j := 601) (by omega))) ea_nil) (rc_int (i := ((m - 601 : Nat) : Int)))) ev_c (rv_divN (i := m - 601) (j := 120) (by decide) (by decide))) fun H9 e9 => ?_
          have e59 := (e57.trans e8).trans e9
          refine s_asg (v := nv (M53.cnt S m)) (ev_is (ev_op (ev_op (ev_var rfl) (ev_op (ev_var rfl) (ev_lenVv (ev_var rfl) (ex_l e59 hr5)) (rv_mulR (by omega))) rv_addN) (ev_lenNv (el_keepL (K := K) (fun w => decide (w ≤ m - 120 * ((m - 601) / 120))) (ev_var rfl) (ex_l e59 hr5) (by omega) (fun _ => rfl) (fun _ => rfl) fun x H1 e hx => et_test (ev_op (ev_var rfl) (ev_op (ev_var rfl) (ev_op ev_c (ev_var rfl) (rv_mulN (i := 120) (by decide))) (rv_subN (by omega))) rv_leN))) rv_addN) ?_) fun H10 e10 => ⟨_, rfl, e59.trans e10⟩
          rw [show min (601 - 1) m = 600 by omega, due]
        · have hb := of_decide_eq_false hb
          refine ⟨o8, ?_, e57.trans e8⟩
          rw [show min (601 - 1) m = m by omega]
          rfl
      · rintro σ8 H8 ⟨o8, rfl, e8⟩
        refine s_when (b := false) (et_is (et_test (ev_op (ev_mt (ev_var rfl) (hW5.ext e8) (by decide) (by decide) (by decide) (by decide) (ea_cons (ev_cb (ea_cons (ev_var rfl) ea_nil) (rc_int (i := (m : Int)))) ea_nil) (spv_up (n := m) (hW5.ext e8))) (ev_var rfl) (rv_ne rfl))) ?_) (fun h => nomatch h) fun _ H9 e9 => ⟨_, _, _, rfl, e8.trans e9⟩
        rw [decide_eq_true rfl]
        rfl
    · obtain ⟨o6, o7, o8, rfl, e6⟩ := q
      have hT6 := ex_l e6 hT5
      refine q_asgL (el_range (lo := 1) (hi := 1401) (S := S) (ea_cons ev_c (ea_cons (ev_op (ev_var rfl) ev_c (rv_addN (i := 1400) (j := 1))) ea_nil)) (by decide) (fun _ => rfl) (fun _ => rfl) fun w H1 e h1 h2 => trB (ex_l e hT6) rfl (ev_var rfl) (by omega) (by omega)) fun fp H7 _ e7 hf7 => ?_
      have efound : ((List.range (1401 - 1)).map (1 + ·)).filter S = M53.hd S 1401 := by
        refine M53.sorted_ext (List.Pairwise.sublist List.filter_sublist ?_) (M53.hd_sorted S 1401) fun x => ?_
        · rw [List.pairwise_map]
          exact List.pairwise_lt_range.imp fun {a b} h => by omega
        · rw [List.mem_filter, M53.mem_hd, List.mem_map]
          constructor
          · rintro ⟨⟨i, hi, rfl⟩, hs⟩
            have := List.mem_range.mp hi
            exact ⟨by omega, by omega, hs⟩
          · rintro ⟨h1, h2, h3⟩
            exact ⟨⟨x - 1, List.mem_range.mpr (by omega), by omega⟩, h3⟩
      rw [efound] at hf7
      have lf : (M53.hd S 1401).length = M53.cnt S 1400 := M53.hd_length S (by decide)
      have lf2 : M53.cnt S 1400 ≤ 1400 := M53.cnt_le S 1400
      have hp7 := (hp5.ext e6).ext e7
      refine q_raw ⟨_, rfl, ?_⟩
      refine (ea_cons (ev_op (ev_lenVv (K := K) (ev_var rfl) (sq_of hf7)) ev_c (rv_addN (j := 1))) ea_nil) H7 (Ex.refl _) _ fun H8 e8 => ?_
      refine ⟨pp, cp, ns, (M53.hd S 1401).length + 1, n + 2, rfl, by omega, by omega, hp7.ext e8, by omega, fun kk H9 hk9 e9 hp9 => ?_⟩
      have hf8 := e8 _ _ hf7
      have hp8 := hp7.ext e8
      have hf9 : SqL K H9 fp (nvs (M53.hd S 1401)) := sql_pen (sq_of hf8) hp8 (nvs_noref _) e9
      have hW9 : WAt K C H9 a S := (((hW5.ext e6).ext e7).ext e8).pen hp8 e9
      have eAll : Ex (del H pp) (del H9 pp) := ((((del_mono e12).trans e24).trans (del_mono ((e5.trans e6).trans (e7.trans e8)))).trans e9)
      refine s_ret (ev_if (v := .bl true) (b := decide (kk < (M53.hd S 1401).length)) (et_test (ev_op (ev_var rfl) (ev_lenVv (ev_var rfl) hf9) rv_ltN)) (fun hb => ?_) (fun hb => ev_c)) fun H10 e10 => k H10 (eAll.trans (del_mono e10)) (hp9.ext e10)
      have hb := of_decide_eq_true hb
      have hx : (M53.hd S 1401)[kk]? = some (M53.hd S 1401)[kk] := List.getElem?_eq_getElem hb
      obtain ⟨x1, _, xS, xk⟩ := M53.hd_nth hx
      exact ev_is (ev_op (ev_mt (ev_var rfl) hW9 (by decide) (by decide) (by decide) (by decide) (ea_cons (ev_var rfl) ea_nil) (spv_kth hW9 (by omega) x1 xS xk)) (ev_op (ev_var rfl) (ev_var rfl) (rv_ixL hf9 (atI_nvs hx))) (rv_eq rfl)) (congrArg V.bl (decide_eq_true rfl))
end
end K53
namespace M53
theorem range_hd (S : Nat → Bool) {s : Nat} (h : 1 ≤ s) : ((List.range (s - 1)).map (1 + ·)).filter S = hd S s := by
  refine sorted_ext (List.Pairwise.sublist List.filter_sublist ?_) (hd_sorted S s) fun x => ?_
  · rw [List.pairwise_map]
    exact List.pairwise_lt_range.imp fun {a b} h => by omega
  · rw [List.mem_filter, mem_hd, List.mem_map]
    constructor
    · rintro ⟨⟨i, hi, rfl⟩, hs⟩
      have := List.mem_range.mp hi
      exact ⟨by omega, by omega, hs⟩
    · rintro ⟨h1, h2, h3⟩
      exact ⟨⟨x - 1, List.mem_range.mpr (by omega), by omega⟩, h3⟩
/-- the truths told under a key -/
def bsA (S : Nat → Bool) (g0 i g : Nat) : List Bool := ((List.range i).filter fun j => decide (Nat.gcd (720 + j) g0 = g)).map fun j => S (720 + j)
theorem bsA_succ (S : Nat → Bool) (g0 i g : Nat) : bsA S g0 (i + 1) g = bsA S g0 i g ++ (if Nat.gcd (720 + i) g0 = g then [S (720 + i)] else []) := by
  unfold bsA
  rw [List.range_succ, List.filter_append, List.map_append]
  congr 1
  rw [List.filter_cons]
  by_cases h : Nat.gcd (720 + i) g0 = g
  · rw [if_pos h, decide_eq_true h, if_pos rfl]
    rfl
  · rw [if_neg h, decide_eq_false h, if_neg (by decide)]
    rfl
theorem bsA_len (S : Nat → Bool) (g0 i g : Nat) : (bsA S g0 i g).length ≤ i := by
  unfold bsA
  rw [List.length_map]
  exact Nat.le_trans (List.length_filter_le _ _) (by rw [List.length_range]; exact Nat.le_refl _)
theorem bsA_nil {S : Nat → Bool} {g0 i g : Nat} (h : ∀ j < i, Nat.gcd (720 + j) g0 ≠ g) : bsA S g0 i g = [] := by
  unfold bsA
  rw [List.filter_eq_nil_iff.mpr fun j hj => ?_]
  · rfl
  · have := h j (List.mem_range.mp hj)
    rw [decide_eq_false this]
    decide
theorem mem_bsA {S : Nat → Bool} {g0 i g j : Nat} (hj : j < i) (h : Nat.gcd (720 + j) g0 = g) : S (720 + j) ∈ bsA S g0 i g := by
  unfold bsA
  exact List.mem_map.mpr ⟨j, List.mem_filter.mpr ⟨List.mem_range.mpr hj, decide_eq_true h⟩, rfl⟩
theorem proper : ∀ L ∈ D, ∀ g ∈ (dv L).dropLast, g ∈ D ∧ g ∣ L ∧ g ≠ L := by decide +kernel
/-- two truths under one key -/
theorem two_truths {S : Nat → Bool} {h : List Nat} {s L : Nat} {d : List Nat} (F : Form S h s L d) {g0 : Nat} (hD : g0 ∈ D) (hd : g0 ∣ L) (ne : g0 ≠ L) : ∃ j1 j2, j1 < L ∧ j2 < L ∧ Nat.gcd (720 + j1) g0 = Nat.gcd (720 + j2) g0 ∧ S (720 + j1) = true ∧ S (720 + j2) = false := by
  obtain ⟨p, hp, hdp⟩ := low_prime L (mem_D.mpr F.len) g0 hD hd ne
  obtain ⟨a, b, ha, hb, e, nv⟩ := F.irr p hp
  have L0 := pos120 F.len
  obtain ⟨c, hc⟩ := F.len
  have at_ : ∀ x, x ∣ L → (x % L) < L ∧ S (720 + x % L) = decide (x ∈ d) ∧ Nat.gcd (720 + x % L) g0 = Nat.gcd x g0 := fun x hx => by
    have g1 : Nat.gcd (720 + x % L) L = x := by
      have e1 : 720 + x % L = x % L + L * (6 * c) := by
        have : L * (6 * c) = 720 := by
          rw [Nat.mul_left_comm, ← hc]
        omega
      rw [e1, gcd_add_mul _ (Nat.dvd_refl L), ← Nat.gcd_rec, Nat.gcd_comm, Nat.gcd_eq_left hx]
    refine ⟨Nat.mod_lt _ L0, ?_, ?_⟩
    · rw [F.tail _ (by have := F.s2; omega), g1]
    · rw [← gcd_of_gcd (w := 720 + x % L) hd, g1]
  obtain ⟨a1, a2, a3⟩ := at_ a ha
  obtain ⟨b1, b2, b3⟩ := at_ b hb
  have eg := gcd_mono hdp e
  have nv : decide (a ∈ d) ≠ decide (b ∈ d) := nv
  cases ha2 : decide (a ∈ d) with
  | true =>
    refine ⟨a % L, b % L, a1, b1, by rw [a3, b3, eg], by rw [a2, ha2], ?_⟩
    rw [b2]
    cases hb2 : decide (b ∈ d) with
    | false => rfl
    | true => rw [ha2, hb2] at nv; exact absurd rfl nv
  | false =>
    refine ⟨b % L, a % L, b1, a1, by rw [a3, b3, eg], ?_, by rw [a2, ha2]⟩
    rw [b2]
    cases hb2 : decide (b ∈ d) with
    | true => rfl
    | false => rw [ha2, hb2] at nv; exact absurd rfl nv
end M53
namespace K53
open PySem PySem.Spec PyProof.Rows L2 Evl
def refV (f : Nat → V) (ms : List Nat) : List (Key × V) := ms.map fun (g : Nat) => ((Sum.inl (g : Int) : Key), f g)
theorem valV_ref (f : Nat → V) (d : Nat) : ∀ ms : List Nat, valV (refV f ms) (Sum.inl (d : Int)) = if d ∈ ms then some (f d) else none
  | [] => rfl
  | e :: ds => by
    have ih := valV_ref f d ds
    show valV (((Sum.inl (e : Int) : Key), f e) :: refV f ds) _ = _
    by_cases h : e = d
    · subst h
      rw [valV_pos rfl, if_pos List.mem_cons_self]
    · rw [valV_neg (fun z => h (by have := Sum.inl.inj z; omega)), ih]
      have : (d ∈ e :: ds) ↔ d ∈ ds := by
        rw [List.mem_cons]
        exact ⟨fun z => z.resolve_left fun q => h q.symm, Or.inr⟩
      simp only [this]
theorem refV_snoc (f f' : Nat → V) (ms : List Nat) (d : Nat) (h : ¬ d ∈ ms) (hf : ∀ g ∈ ms, f' g = f g) : putK (refV f ms) (Sum.inl (d : Int)) (f' d) = refV f' (ms ++ [d]) := by
  rw [putK_new]
  · unfold refV
    rw [List.map_append]
    have : ms.map (fun (g : Nat) => ((Sum.inl (g : Int) : Key), f g)) = ms.map (fun (g : Nat) => ((Sum.inl (g : Int) : Key), f' g)) := List.map_congr_left fun g hg => by rw [hf g hg]
    rw [this]
    rfl
  · rw [valV_ref, if_neg h]
theorem refV_at {f : Nat → V} {ms : List Nat} {i : Nat} {k : Key} {y : V} (h : (refV f ms)[i]? = some (k, y)) : ∃ d, ms[i]? = some d ∧ k = Sum.inl (d : Int) ∧ y = f d := by
  unfold refV at h
  rw [List.getElem?_map] at h
  cases hd : ms[i]? with
  | none => rw [hd] at h; cases h
  | some d => rw [hd] at h; cases h; exact ⟨d, rfl, rfl, rfl⟩
theorem refV_len (f : Nat → V) (ms : List Nat) : (refV f ms).length = ms.length := List.length_map _
theorem cut_last : ∀ L ∈ M53.D, cutV (nvs (M53.dv L)) none (some (-1)) = nvs (M53.dv L).dropLast := by decide +kernel
theorem cntB_two {l : List Bool} (h1 : true ∈ l) (h2 : false ∈ l) : K53S.cntB l = 2 := by
  unfold K53S.cntB
  rw [if_pos (List.contains_iff_mem.mpr h1), if_pos (List.contains_iff_mem.mpr h2)]
def spLeastR (K : PySem.W.Frag) (C : Addr) : Sp := fun vs H Q _ => ∃ (a tp : Addr) (S : Nat → Bool), vs = [.ref a, .ref tp] ∧ WAt K C H a S ∧ SqL K H tp (trV S) ∧ RetV (.bl true) H Q
section
variable {K : PySem.W.Frag} {σ : L2.St} {H H' : Hp} {ta tb tc td te tl tl1 ty tv : TE} {t ts : TA} {tt : TT} {x y z v : V} {vs : List Nat} {tu tw tz : TS} {D : Ends} {a b : Addr} {C : Addr} {xs : List V}
theorem el_slN {tl th : TO} {lo hi : Option Int} (h : EvL te σ H xs) (h1 : EvO tl σ H lo) (h2 : EvO th σ H hi) : EvL (tSl (rSlL K) te tl th) σ H (cutV xs lo hi) := fun H1 e Q q =>
  h H1 e _ fun a H2 ha e2 hx => h1 H2 (e.trans e2) _ fun H3 e3 => h2 H3 ((e.trans e2).trans e3) _ fun H4 e4 =>
    ⟨a, xs, rfl, sq_of (e4 _ _ (e3 _ _ hx)), fun p hp => q p _ (fresh_back ((e2.trans e3).trans e4) hp) (((e2.trans e3).trans e4).trans (Ex.new hp)) upd_same⟩
theorem el_listT {p : Addr} (ha : Ev ta σ H (.ref p)) (h : SqT K H p xs) : EvL (tCB (rListS K) (tCons ta tNil)) σ H xs := fun H1 e Q q => ha H1 e _ fun H2 e2 => ⟨p, xs, rfl, .inr (ex_t (e.trans e2) h), fun l hl => q l _ (fresh_back e2 hl) (e2.trans (Ex.new hl)) upd_same⟩
theorem ev_lenSetB {bs : List Bool} (h : Ev te σ H (.ref a)) (hx : SqL K H a (bs.map V.bl)) : Ev (tLenSetB K te) σ H (nv (K53S.cntB bs)) := fun H1 e Q q => h H1 e _ fun H2 e2 => ⟨a, bs, rfl, ex_l (e.trans e2) hx, q H2 e2⟩
theorem ev_eqNN {xs ys : List Nat} (h1 : EvL ta σ H (nvs xs)) (h2 : EvL tb σ H (nvs ys)) : Ev (tOp (rEqD K) ta tb) σ H (.bl (decide (xs = ys))) := ev_opLL h1 h2 fun p q H1 hp hq e => by
  have key : decide (xs = ys) = decide ((xs.map fun n : Nat => (n : Int)) = ys.map fun n : Nat => (n : Int)) := decide_eq_decide.mpr ⟨fun h => by rw [h], fun h => by
    have := congrArg (List.map Int.toNat) h
    simpa [List.map_map, Function.comp_def] using this⟩
  rw [key]
  rw [← nvs_int] at hp hq
  exact rv_eqZ (sq_of hp) (sq_of hq)
end
section
variable {P : Program} {w : World} {K : PySem.W.Frag} {mg : Str → Option Value} {base : Heap} {C : Addr}
theorem k__law_least_right (T : Txt K mg C) (c__law_gcd : Cl P w K mg base 1 "_law_gcd" spGcd) (c__law_divisors : Cl P w K mg base 1 "_law_divisors" spLDiv) (F : Fn K mg "_law_least_right" s__law_least_right ["_law_made", "_law_truths"]) : Cl P w K mg base 2 "_law_least_right" (spLeastR K C) := by
  refine F.cl sc__law_least_right (fun vs H Q E h => ?_) (fun f cdv A outer s H vs Q E hr h => ?_)
  · obtain ⟨a, tp, S, rfl, _⟩ := h
    rfl
  · obtain ⟨a, tp, S, rfl, ⟨h, s, L, d, W, Fo⟩, hT, k⟩ := h
    have hu := hr.units
    refine ⟨_, (pss_cut (ps_if (pt_cmpR op_gt (k_fld (K := K) rfl (pv 0) rfl) pe_int (nomark _)) (pss_cons (ps_set (i := 2) sc__law_least_right.nd rfl (Or.inl rfl) (pe_op op_sub (k_fld (K := K) rfl (pv 0) rfl) pe_int))
      (pss_one (ps_if (pt_cmpR op_eq (pe_ix (k_ixL (K := K) rfl) (pv 1) (pv 2) (fun _ _ => rfl)) (pe_cmpR (k_in (K := K) rfl) (pc c__law_gcd hr (by decide) rfl (pa_cons (pv 2) (pa_cons (k_fld (K := K) rfl (pv 0) rfl) pa_nil))) (k_fld (K := K) rfl (pv 0) rfl) (by rfl)) (nomark _)) (pss_one (ps_ret pe_bl)) pss_nil))) pss_nil)
      (pss_cons (ps_for PassesOwn.never rfl (k_pil (K := K) rfl (pe_slice (k_sl (K := K) rfl) (pc c__law_divisors hr (by decide) rfl (pa_cons (k_fld (K := K) rfl (pv 0) rfl) pa_nil)) po_none (po_some (pe_un un_neg pe_int)))) (pg_name (i := 3) sc__law_least_right.nd rfl (Or.inl rfl))
        (pss_cons (ps_set (i := 4) sc__law_least_right.nd rfl (Or.inr rfl) pe_dnewK)
      (pss_cons (ps_for PassesOwn.never rfl (pi_range2 (by rfl) T.range (pa_cons pe_int (pa_cons (pe_op op_add pe_int (k_fld (K := K) rfl (pv 0) rfl)) pa_nil))) (pg_name (i := 2) sc__law_least_right.nd rfl (Or.inl rfl))
        (pss_one (ps_expr (k_app (K := K) rfl (pe_dsetd (pv 4) (pc c__law_gcd hr (by decide) rfl (pa_cons (pv 2) (pa_cons (pv 3) pa_nil))) (pe_lst pa_nil) ⟨rfl, rfl, rfl, rfl⟩) (pe_ix (k_ixL (K := K) rfl) (pv 1) (pv 2) (fun _ _ => rfl))))))
      (pss_one (ps_if (pt_cmpR (k_eqD (K := K) hr.units rfl) (pe_lock (pe_lc (own := [("_law_key", 5)]) rfl sc__law_least_right.nd (pi_keys (pv 4)) (blkOk_by (own := [("_law_key", 5)]) (N := N__law_least_right) (sc := defScope s__law_least_right) (by decide +kernel)) (fun _ _ _ _ _ => (pg_name (i := 5) sc__law_least_right.nd rfl (Or.inl rfl))) (fun _ _ _ _ _ => (pts_one (pt_cmpR op_gt (pe_lenSetB (K := K) rfl rfl T.len rfl T.set (pe_dget (hu_of hr) (pv 4) (pv 5) (fun _ _ => rfl))) pe_int (nomark _)))) (fun _ _ _ _ _ => (pv 5)))) (pe_lst pa_nil) (nomark _)) (pss_one (ps_ret pe_bl)) pss_nil)))))
      (pss_one (ps_ret (pe_cmpR (k_eqD (K := K) hr.units rfl) (pe_callTy (k_list (K := K) rfl) (by rfl) T.list bt_list (pa_cons (k_fld (K := K) rfl (pv 0) rfl) pa_nil)) (pe_lc (own := [("_law_w", 2)]) rfl sc__law_least_right.nd (pi_range2 (by rfl) T.range (pa_cons pe_int (pa_cons (k_fld (K := K) rfl (pv 0) rfl) pa_nil))) (blkOk_by (own := [("_law_w", 2)]) (N := N__law_least_right) (sc := defScope s__law_least_right) (by decide +kernel)) (fun _ _ _ _ _ => (pg_name (i := 2) sc__law_least_right.nd rfl (Or.inl rfl))) (fun _ _ _ _ _ => (pts_one (pt_val (pe_ix (k_ixL (K := K) rfl) (pv 1) (pv 2) (fun _ _ => rfl))))) (fun _ _ _ _ _ => (pv 2))) (nomark _)))))), ?_⟩
    obtain ⟨dx, hp, dp, h1, h2, h3⟩ := W.ex
    have s1 := Fo.s1
    have s2 := Fo.s2
    have L0 := M53.pos120 Fo.len
    have L120 := M53.le120 Fo.len
    have LD := M53.mem_D.mpr Fo.len
    have f0 : ∀ {σ : L2.St} {H1 : Hp}, Ex H H1 → σ[0]? = some (some (.ref a)) → Ev (tFld K (tVar 0) "head") σ H1 (.ref hp) := fun e hv => ev_fld (ev_var hv) (e _ _ h1) T.cl T.nH (wf_head hp s L dp)
    have f1 : ∀ {σ : L2.St} {H1 : Hp}, Ex H H1 → σ[0]? = some (some (.ref a)) → Ev (tFld K (tVar 0) "start") σ H1 (nv s) := fun e hv => ev_fld (ev_var hv) (e _ _ h1) T.cl T.nS (wf_start hp s L dp)
    have f2 : ∀ {σ : L2.St} {H1 : Hp}, Ex H H1 → σ[0]? = some (some (.ref a)) → Ev (tFld K (tVar 0) "length") σ H1 (nv L) := fun e hv => ev_fld (ev_var hv) (e _ _ h1) T.cl T.nL (wf_length hp s L dp)
    have f3 : ∀ {σ : L2.St} {H1 : Hp}, Ex H H1 → σ[0]? = some (some (.ref a)) → Ev (tFld K (tVar 0) "divisors") σ H1 (.ref dp) := fun e hv => ev_fld (ev_var hv) (e _ _ h1) T.cl T.nD (wf_divisors hp s L dp)
    refine q_cut (M := fun σ H' => ∃ o, σ = [some (.ref a), some (.ref tp), o, none, none, none] ∧ Ex H H') ?_ ?_
    · refine s_when (b := decide (1 < s)) (et_test (ev_op (f1 (Ex.refl H) rfl) ev_c (rv_gtN (j := 1)))) (fun hb H1 e1 => ?_) (fun hb H1 e1 => ⟨_, rfl, e1⟩)
      have hb := of_decide_eq_true hb
      refine q_asg (ev_op (f1 e1 rfl) ev_c (rv_subN (j := 1) s1)) fun H2 e2 => ?_
      have e12 := e1.trans e2
      refine s_when (b := false) (et_is (et_test (ev_op (ev_op (ev_var rfl) (ev_var rfl) (rv_ixL (ex_l e12 hT) (trV_at S (w := s - 1) (by omega) (by omega)))) (ev_op (ev_tF (ea_cons (ev_var rfl) (ea_cons (f2 e12 rfl) ea_nil)) spv_gcd) (f3 e12 rfl) (rv_inN (.inr (ex_t e12 h3)))) (rv_eq rfl))) (decide_eq_false fun z => Fo.least hb (V.bl.inj z))) (fun h => nomatch h) fun _ H3 e3 => ⟨_, rfl, e12.trans e3⟩
    · rintro σ1 H1 ⟨o, rfl, e1⟩
      have dlen := M53.dv_len L
      refine q_forNLn (xs := nvs (M53.dv L).dropLast) (fun H2 e2 Q' q' => by
        have E := el_slN (K := K) (σ := [some (.ref a), some (.ref tp), o, none, none, none]) (te := tF spLDiv (tCons (tFld K (tVar 0) "length") tNil)) (el_tF (xs := nvs (M53.dv L)) (ea_cons (f2 e1 rfl) ea_nil) (fun H3 e3 Q3 k3 E3 => ⟨L, rfl, LD, k3⟩)) eo_none (eo_some (ev_un ev_c (ru_neg (i := 1)))) H2 e2 Q'
        rw [cut_last L LD] at E
        exact E q') (fun pp i σ H' => ∃ o2 o3 o4 o5, σ = [some (.ref a), some (.ref tp), o2, o3, o4, o5] ∧ Ex H H' ∧ H' pp = some (.lst (nvs (M53.dv L).dropLast))) (fun pp H2 _ e2 h2 => ⟨_, _, _, _, rfl, e1.trans e2, h2⟩) (fun pp i σ' H' hi q => let ⟨_, _, _, _, _, _, h⟩ := q; sq_of h) (fun pp i x σ' H' hi q => ?_) (fun pp σ' H' q => ?_)
      · obtain ⟨o2, o3, o4, o5, rfl, e2, hpp⟩ := q
        obtain ⟨ex, _, hm⟩ := getD_of hi
        subst ex
        generalize (M53.dv L).dropLast.getD i 0 = g0 at hm
        obtain ⟨gD, gL, gne⟩ := M53.proper L LD g0 hm
        obtain ⟨j1, j2, j1L, j2L, eg, t1, t2⟩ := M53.two_truths Fo gD gL gne
        refine q_dnew fun dpt H3 hdpt e3 hd3 => ?_
        have hT0 : SqL K H' tp (trV S) := ex_l e2 hT
        refine q_forR2 (lo := 720) (n := 720 + (L : Int)) (ea_cons ev_c (ea_cons (ev_op ev_c (f2 (e2.trans e3) rfl) rv_I0) ea_nil)) ⟨by omega, by omega, by omega, by omega⟩ (fun i σ H4 => ∃ (o2 : Option V) (ms : List Nat) (ls : Nat → Addr), σ = [some (.ref a), some (.ref tp), o2, some (nv g0), some (.ref dpt), o5] ∧ Ex H' H4 ∧ H4 dpt = some (.dK (refV (fun g => .ref (ls g)) ms)) ∧ ms.Nodup ∧ ms.length ≤ i ∧
            (∀ g ∈ ms, H' (ls g) = none ∧ ls g ≠ dpt ∧ H4 (ls g) = some (.lst ((M53.bsA S g0 i g).map V.bl))) ∧ (∀ g ∈ ms, ∀ g' ∈ ms, ls g = ls g' → g = g') ∧ (∀ j < i, Nat.gcd (720 + j) g0 ∈ ms))
          (fun H4 e4 => ⟨_, [], fun _ => 0, rfl, e3.trans e4, e4 _ _ hd3, List.nodup_nil, Nat.le_refl _, fun g hg => absurd hg List.not_mem_nil, fun g hg => absurd hg List.not_mem_nil, fun j hj => absurd hj (by omega)⟩) (fun i σ' H4 hi q => ?_) (fun σ' H4 q => ?_)
        · obtain ⟨o2, ms, ls, rfl, e4, hd4, mn, ml, hls, hinj, hcov⟩ := q
          have iL : i < L := by omega
          have ew : (.int (720 + (i : Int)) : V) = nv (720 + i) := congrArg V.int (by omega)
          rw [ew]
          refine ⟨_, rfl, dpt, rfl, .inl ⟨_, .inl hd4⟩, ?_⟩
          refine (ev_tF (ea_cons (ev_var rfl) (ea_cons (ev_var rfl) ea_nil)) (spv_gcd (a := 720 + i) (b := g0))) H4 (Ex.refl _) _ fun H5 e5 => ?_
          refine (el_lst ea_nil (by simp)) H5 (Ex.refl _) _ fun z H6 hz e6 hz6 => ⟨refV (fun g => .ref (ls g)) ms, Sum.inl ((Nat.gcd (720 + i) g0 : Nat) : Int), e6 _ _ (e5 _ _ hd4), rfl, sz_lt (by rw [refV_len]; omega), fun v hv => ?_, fun hnone => ?_⟩
          · rw [valV_ref] at hv
            by_cases hk : Nat.gcd (720 + i) g0 ∈ ms
            · rw [if_pos hk] at hv
              have hv : .ref (ls (Nat.gcd (720 + i) g0)) = v := Option.some.inj hv
              subst hv
              obtain ⟨n1, n2, n3⟩ := hls _ hk
              have hl6 := e6 _ _ (e5 _ _ n3)
              have e46 := e5.trans e6
              refine ⟨Or.inl ⟨rfl, _, sq_of hl6⟩, (ea_cons (ev_op (ev_var rfl) (ev_var rfl) (rv_ixL (ex_l (e4.trans e46) hT0) (trV_at S (w := 720 + i) (by omega) (by omega)))) ea_nil) H6 (Ex.refl _) _ fun H7 e7 => ⟨_, _, _, rfl, rfl, e7 _ _ hl6, sz_lt (by rw [List.length_map]; have := M53.bsA_len S g0 i (Nat.gcd (720 + i) g0); omega), ?_⟩⟩
              refine ⟨_, ms, ls, rfl, Ex.mut ((e4.trans e46).trans e7) n1, ?_, mn, by omega, fun g hg => ?_, hinj, fun j hj => ?_⟩
              · rw [upd_ne n2.symm]
                exact e7 _ _ (e46 _ _ hd4)
              · obtain ⟨m1, m2, m3⟩ := hls g hg
                refine ⟨m1, m2, ?_⟩
                rw [M53.bsA_succ]
                by_cases q : Nat.gcd (720 + i) g0 = g
                · rw [if_pos q, ← q, upd_same, List.map_append]
                  rfl
                · rw [if_neg q, List.append_nil, upd_ne fun z => q (hinj _ hg _ hk z).symm]
                  exact e7 _ _ (e46 _ _ m3)
              · by_cases q : j = i
                · rw [q]
                  exact hk
                · exact hcov j (by omega)
            · rw [if_neg hk] at hv
              cases hv
          · rw [valV_ref] at hnone
            have hk : ¬ Nat.gcd (720 + i) g0 ∈ ms := fun hk => by
              rw [if_pos hk] at hnone
              cases hnone
            have hzd : z ≠ dpt := fun e => by rw [e, e5 _ _ hd4] at hz; cases hz
            have e46 := e5.trans e6
            have hzH : H' z = none := fresh_back (e4.trans e5) hz
            have hz4 : ∀ g ∈ ms, ls g ≠ z := fun g hg e => by
              have := e5 _ _ (hls g hg).2.2
              rw [e, hz] at this
              cases this
            have es := refV_snoc (fun g => .ref (ls g)) (fun g => .ref (if g = Nat.gcd (720 + i) g0 then z else ls g)) ms (Nat.gcd (720 + i) g0) hk fun g hg => by rw [if_neg fun e => hk (by rw [← e]; exact hg)]
            rw [if_pos rfl] at es
            rw [es]
            obtain ⟨H7, hH7⟩ : ∃ H7, upd H6 dpt (.dK (refV (fun g => .ref (if g = Nat.gcd (720 + i) g0 then z else ls g)) (ms ++ [Nat.gcd (720 + i) g0]))) = H7 := ⟨_, rfl⟩
            have hz7 : H7 z = some (.lst []) := by rw [← hH7, upd_ne hzd]; exact hz6
            have hd7 : H7 dpt = some (.dK (refV (fun g => .ref (if g = Nat.gcd (720 + i) g0 then z else ls g)) (ms ++ [Nat.gcd (720 + i) g0]))) := by rw [← hH7]; exact upd_same
            have e7 : Ex H' H7 := by rw [← hH7]; exact Ex.mut (e4.trans e46) hdpt
            have hl7 : ∀ g ∈ ms, H7 (ls g) = some (.lst ((M53.bsA S g0 i g).map V.bl)) := fun g hg => by
              obtain ⟨m1, m2, m3⟩ := hls g hg
              rw [← hH7, upd_ne m2]
              exact e46 _ _ m3
            rw [hH7]
            refine ⟨Or.inl ⟨rfl, _, sq_of hz7⟩, (ea_cons (ev_op (ev_var rfl) (ev_var rfl) (rv_ixL (ex_l e7 hT0) (trV_at S (w := 720 + i) (by omega) (by omega)))) ea_nil) H7 (Ex.refl _) _ fun H8 e8 => ⟨_, _, _, rfl, rfl, e8 _ _ hz7, sz_lt (by simp), ?_⟩⟩
            refine ⟨_, ms ++ [Nat.gcd (720 + i) g0], fun g => if g = Nat.gcd (720 + i) g0 then z else ls g, rfl, Ex.mut (e7.trans e8) hzH, ?_, ?_, by rw [List.length_append]; exact Nat.succ_le_succ ml, fun g hg => ?_, fun g hg g' hg' e => ?_, fun j hj => ?_⟩
            · rw [upd_ne hzd.symm]
              exact e8 _ _ hd7
            · rw [List.nodup_append]
              refine ⟨mn, by simp, fun x hx y hy => ?_⟩
              have : y = Nat.gcd (720 + i) g0 := by simpa using hy
              rw [this]
              exact fun e => hk (by rw [← e]; exact hx)
            · by_cases q : g = Nat.gcd (720 + i) g0
              · rw [q]
                show H' (if Nat.gcd (720 + i) g0 = Nat.gcd (720 + i) g0 then z else _) = none ∧ (if Nat.gcd (720 + i) g0 = Nat.gcd (720 + i) g0 then z else _) ≠ dpt ∧ upd H8 z _ (if Nat.gcd (720 + i) g0 = Nat.gcd (720 + i) g0 then z else _) = _
                rw [if_pos rfl]
                refine ⟨hzH, hzd, ?_⟩
                rw [upd_same, M53.bsA_succ, if_pos rfl, M53.bsA_nil fun j hj e => hk (by rw [← e]; exact hcov j hj)]
                rfl
              · have hg : g ∈ ms := by
                  rcases List.mem_append.mp hg with hg | hg
                  · exact hg
                  · exact absurd (by simpa using hg) q
                show H' (if g = Nat.gcd (720 + i) g0 then z else ls g) = none ∧ (if g = Nat.gcd (720 + i) g0 then z else ls g) ≠ dpt ∧ upd H8 z _ (if g = Nat.gcd (720 + i) g0 then z else ls g) = _
                rw [if_neg q]
                obtain ⟨m1, m2, m3⟩ := hls g hg
                refine ⟨m1, m2, ?_⟩
                rw [upd_ne (hz4 g hg), M53.bsA_succ, if_neg fun e => q e.symm, List.append_nil]
                exact e8 _ _ (hl7 g hg)
            · have e : (if g = Nat.gcd (720 + i) g0 then z else ls g) = (if g' = Nat.gcd (720 + i) g0 then z else ls g') := e
              have un : ∀ g, g ∈ ms ++ [Nat.gcd (720 + i) g0] → ¬ g = Nat.gcd (720 + i) g0 → g ∈ ms := fun g hg q => by
                rcases List.mem_append.mp hg with hg | hg
                · exact hg
                · exact absurd (by simpa using hg) q
              by_cases q : g = Nat.gcd (720 + i) g0
              · by_cases q' : g' = Nat.gcd (720 + i) g0
                · rw [q, q']
                · rw [if_pos q, if_neg q'] at e
                  exact absurd e.symm (hz4 g' (un g' hg' q'))
              · by_cases q' : g' = Nat.gcd (720 + i) g0
                · rw [if_neg q, if_pos q'] at e
                  exact absurd e (hz4 g (un g hg q))
                · rw [if_neg q, if_neg q'] at e
                  exact hinj g (un g hg q) g' (un g' hg' q') e
            · by_cases q : j = i
              · rw [q]
                exact List.mem_append_right _ List.mem_cons_self
              · exact List.mem_append_left _ (hcov j (by omega))
        · obtain ⟨o2, ms, ls, rfl, e4, hd4, mn, ml, hls, hinj, hcov⟩ := q
          have eL : ((720 : Int) + (L : Int) - 720).toNat = L := by omega
          rw [eL] at ml hls hcov
          have hkey := hcov j1 j1L
          have E : EvL (tLockE (tLc (iKeys (tVar 4)) (gName 5) (tTest (tOp (rI0 fun i j => V.bl (decide (j < i))) (tLenSetB K (tDGet (tVar 4) (tVar 5))) (tC (V.int 1)))) (tVar 5) [5])) [some (.ref a), some (.ref tp), o2, some (nv g0), some (.ref dpt), o5] H4 (nvs (ms.filter fun g => decide (1 < K53S.cntB (M53.bsA S g0 L g)))) := by
            have g := given_nvs ms fun g => decide (1 < K53S.cntB (M53.bsA S g0 L g))
            rw [← g, ← refV_len (fun g => .ref (ls g)) ms]
            refine el_lcK _ _ hd4 (fun _ => ev_var rfl) (by rw [refV_len]; omega) (fun _ => rfl) (fun i k y o H5 e5 hi => ?_) fun i k y o H5 e5 hi _ => ?_
            · obtain ⟨gg, hgg, rfl, rfl⟩ := refV_at hi
              have hm := List.mem_of_getElem? hgg
              obtain ⟨m1, m2, m3⟩ := hls gg hm
              rw [getD_at 0 hgg]
              have hl5 : H5 (ls gg) = some (.lst ((M53.bsA S g0 L gg).map V.bl)) := e5 _ _ (by rw [upd_ne m2]; exact m3)
              exact et_test (ev_op (ev_lenSetB (ev_dget (k := Sum.inl ((gg : Nat) : Int)) (ev_var rfl) (ev_var rfl) (.inr ⟨o, e5 _ _ upd_same⟩) (by rw [valV_ref, if_pos hm])) (sq_of hl5)) ev_c (rv_gtN (j := 1)))
            · obtain ⟨gg, hgg, rfl, rfl⟩ := refV_at hi
              rw [getD_at 0 hgg]
              exact ev_var rfl
          refine s_when (b := false) (et_is (et_test (ev_eqNN (ys := []) E (el_lst ea_nil (by simp)))) (decide_eq_false fun z => ?_)) (fun h => nomatch h) fun _ H5 e5 => ⟨_, _, _, _, rfl, (e2.trans e4).trans e5, e5 _ _ (e4 _ _ hpp)⟩
          have : Nat.gcd (720 + j1) g0 ∈ ms.filter fun g => decide (1 < K53S.cntB (M53.bsA S g0 L g)) := by
            refine List.mem_filter.mpr ⟨hkey, decide_eq_true ?_⟩
            have b1 : true ∈ M53.bsA S g0 L (Nat.gcd (720 + j1) g0) := by rw [← t1]; exact M53.mem_bsA j1L rfl
            have b2 : false ∈ M53.bsA S g0 L (Nat.gcd (720 + j1) g0) := by rw [← t2]; exact M53.mem_bsA j2L eg.symm
            rw [cntB_two b1 b2]
            decide
          rw [z] at this
          exact absurd this List.not_mem_nil
      · obtain ⟨o2, o3, o4, o5, rfl, e2, hpp⟩ := q
        have hT2 := ex_l e2 hT
        refine s_ret (ev_is (ev_eqNN (ys := ((List.range (s - 1)).map (1 + ·)).filter S) (el_listT (f0 e2 rfl) (ex_t e2 h2)) (el_range (lo := 1) (hi := s) (S := S) (ea_cons ev_c (ea_cons (f1 e2 rfl) ea_nil)) ⟨by decide, by omega, s1⟩ (fun _ => rfl) (fun _ => rfl) fun w H3 e w1 w2 => et_B (ev_op (ev_var rfl) (ev_var rfl) (rv_ixL (ex_l e hT2) (trV_at S w1 (by omega)))))) ?_) fun H3 e3 => k _ (e2.trans e3)
        rw [M53.range_hd S s1, decide_eq_true Fo.head]
end
end K53
namespace K53
open PySem PySem.Spec PyProof.Rows L2 Evl
open M53 (Tr)
def spLaw (K : PySem.W.Frag) : Sp := fun vs H Q _ => ∃ (sp : Addr) (ns : List Int), vs = [.ref sp] ∧ SqL K H sp (ns.map V.int) ∧ RetV (.bl true) H Q
/-- what a turn knows -/
structure Kn (K : PySem.W.Frag) (C : Addr) (H : Hp) (t : Tr) (x : V) (a tp : Addr) : Prop where
  tree : TreeAt K H t x
  made : WAt K C H a t.mem
  tru : SqL K H tp (trV t.mem)
theorem Kn.ext {K : PySem.W.Frag} {C : Addr} {H H' : Hp} {t : Tr} {x : V} {a tp : Addr} (k : Kn K C H t x a tp) (e : Ex H H') : Kn K C H' t x a tp := ⟨k.tree.ext e, k.made.ext e, ex_l e k.tru⟩
theorem Kn.pen {K : PySem.W.Frag} {C : Addr} {H H2 : Hp} {t : Tr} {x : V} {a tp pp cp : Addr} {ns : List Int} {n : Nat} (k : Kn K C H t x a tp) (w : PenAt K H pp cp ns n) (e : Ex (del H pp) (del H2 pp)) : Kn K C H2 t x a tp := ⟨k.tree.pen w e, k.made.pen w e, sql_pen k.tru w (trV_noref _) e⟩
section
variable {K : PySem.W.Frag} {σ : L2.St} {H H' : Hp} {ta tb tc td te tl tl1 ty tv : TE} {t ts : TA} {tt : TT} {x y z v : V} {vs : List Nat} {tu tw tz : TS} {D : Ends} {a b : Addr} {C : Addr} {xs ys : List V} {pp cp : Addr} {ns : List Int} {n : Nat} {S S' : Nat → Bool} {g : TG}
/-- a test that goes false and leaves R -/
theorem q_skip {R : Hp → Prop} (h : ∀ Q : Bool → Hp → Prop, (∀ H2, R H2 → Q false H2) → tt σ H Q) (k : ∀ H2, R H2 → tz D σ H2) : tSeq (tIfS tt tu tNext) tz D σ H := h _ fun H2 r => k H2 r
theorem tt_orF {te1 : TE} {t2 : TT} {R1 R : Hp → Prop} (h1 : ∀ Q : VK, (∀ H2, R1 H2 → Q (.bl true) H2) → te1 σ H Q) (h2 : ∀ H2, R1 H2 → ∀ Q : Bool → Hp → Prop, (∀ H3, R H3 → Q false H3) → t2 σ H2 Q) : ∀ Q : Bool → Hp → Prop, (∀ H3, R H3 → Q false H3) → tOr (tNot (tB te1)) t2 σ H Q := fun Q q => h1 _ fun H2 r => ⟨true, rfl, h2 H2 r Q q⟩
theorem tF_go {sp : Sp} {Q : VK} {ws : List V} (h : EvA t σ H ws) (k : ∀ H1, Ex H H1 → sp ws H1 Q E0) : tF sp t σ H Q := h H (Ex.refl H) _ k
theorem el_cat (h1 : EvL ta σ H xs) (h2 : EvL tb σ H ys) (hl : xs.length + ys.length ≤ 100000) : EvL (tOp rCat ta tb) σ H (xs ++ ys) := fun H1 e Q q => h1 H1 e _ fun p H2 hp e2 h2' => h2 H2 (e.trans e2) _ fun r H3 hr e3 h3 =>
  ⟨p, r, xs, ys, rfl, rfl, e3 _ _ h2', h3, sz_of hl, fun l hl => q l _ (fresh_back (e2.trans e3) hl) ((e2.trans e3).trans (Ex.new hl)) upd_same⟩
theorem ev_neNN {xs ys : List Nat} (h1 : EvL ta σ H (nvs xs)) (h2 : EvL tb σ H (nvs ys)) : Ev (tOp (rNeD K) ta tb) σ H (.bl (!decide (xs = ys))) := ev_opLL h1 h2 fun p q H1 hp hq e => by
  have key : decide (xs = ys) = decide ((xs.map fun n : Nat => (n : Int)) = ys.map fun n : Nat => (n : Int)) := decide_eq_decide.mpr ⟨fun h => by rw [h], fun h => by
    have := congrArg (List.map Int.toNat) h
    simpa [List.map_map, Function.comp_def] using this⟩
  rw [key]
  rw [← nvs_int] at hp hq
  exact rv_neZ (sq_of hp) (sq_of hq)
theorem rv_cont (h : WAt K C H a S) (w1 : 1 ≤ n) : RV (rCont C (spCont K C)) (nv n) (.ref a) H (.bl (S n)) := fun H1 e Q q => by
  have h := h.ext e
  obtain ⟨_, _, _, _, W, _⟩ := id h
  obtain ⟨dx, hp, dp, g1, _⟩ := W.ex
  exact ⟨a, dx, _, rfl, g1, a, n, S, rfl, w1, h, fun H2 e2 => ⟨S n, rfl, q H2 e2⟩⟩
/-- sets that are the same are not unequal -/
theorem ev_neW (h1 : EvP ta σ H fun v H2 => ∃ a, v = .ref a ∧ WAt K C H2 a S) (h2 : EvP tb σ H fun v H2 => ∃ a, v = .ref a ∧ WAt K C H2 a S') (e : ∀ w, 1 ≤ w → S w = S' w) : Ev (tOp (rNeO C (spEq K C)) ta tb) σ H (.bl false) := fun H1 e1 Q q => h1 H1 e1 _ fun v H2 e2 hv => h2 H2 (e1.trans e2) _ fun v' H3 e3 hv' => by
  obtain ⟨a, rfl, w⟩ := hv
  obtain ⟨b, rfl, w'⟩ := hv'
  have w := w.ext e3
  obtain ⟨_, _, _, _, W, _⟩ := id w
  obtain ⟨dx, hp, dp, g1, _⟩ := W.ex
  obtain ⟨_, _, _, _, W', _⟩ := id w'
  obtain ⟨dx', hp', dp', g1', _⟩ := W'.ex
  exact ⟨a, b, dx, dx', _, _, rfl, rfl, g1, g1', a, b, S, S', rfl, w, w', e, fun H4 e4 => ⟨true, rfl, q H4 ((e2.trans e3).trans e4)⟩⟩
theorem ev_w (h : Ev te σ H (.ref a)) (w : WAt K C H a S) : EvP te σ H fun v H2 => ∃ a, v = .ref a ∧ WAt K C H2 a S := Ev.p h fun H2 e => ⟨a, rfl, w.ext e⟩
theorem ep_binP {r : Str} (h : EvP ta σ H fun v H2 => ∃ a, v = .ref a ∧ WAt K C H2 a S) (h' : EvP tb σ H fun v H2 => ∃ a, v = .ref a ∧ WAt K C H2 a S') : EvP (tOp (rBin C (spBin K C r)) ta tb) σ H fun v H2 => ∃ b, v = .ref b ∧ WAt K C H2 b fun w => ruleF r (S w) (S' w) := fun H1 e Q q => h H1 e _ fun v H2 e2 hv => h' H2 (e.trans e2) _ fun v' H3 e3 hv' => by
  obtain ⟨a, rfl, w⟩ := hv
  obtain ⟨b, rfl, w'⟩ := hv'
  have w := w.ext e3
  obtain ⟨_, _, _, _, W, _⟩ := id w
  obtain ⟨dx, hp, dp, h1, _⟩ := W.ex
  obtain ⟨_, _, _, _, W', _⟩ := id w'
  obtain ⟨dx', hp', dp', h1', _⟩ := W'.ex
  exact ⟨a, b, dx, dx', _, _, rfl, rfl, h1, h1', a, b, S, S', rfl, w, w', fun c H4 e4 hW => q _ H4 ((e2.trans e3).trans e4) ⟨c, rfl, hW⟩⟩
theorem ev_le {b' : Bool} (h : Ev ta σ H (.ref a)) (w : WAt K C H a S) (h' : Ev tb σ H (.ref b)) (w' : WAt K C H b S') (hb : b' = true ↔ ∀ w, 1 ≤ w → w ≤ 840 → (S w && !S' w) = false) : Ev (tOp (rBin C (spLe K C)) ta tb) σ H (.bl b') := fun H1 e Q q => h H1 e _ fun H2 e2 => h' H2 (e.trans e2) _ fun H3 e3 => by
  have e13 := (e.trans e2).trans e3
  have w := w.ext e13
  have w' := w'.ext e13
  obtain ⟨_, _, _, _, W, _⟩ := id w
  obtain ⟨dx, hp, dp, h1, _⟩ := W.ex
  obtain ⟨_, _, _, _, W', _⟩ := id w'
  obtain ⟨dx', hp', dp', h1', _⟩ := W'.ex
  exact ⟨a, b, dx, dx', _, _, rfl, rfl, h1, h1', a, b, S, S', rfl, w, w', fun b2 hb2 H4 e4 => by
    have : b2 = b' := by rw [Bool.eq_iff_iff, hb2, hb]
    rw [this]
    exact q H4 ((e2.trans e3).trans e4)⟩
/-- Widths.read(str(o)) -/
theorem ep_read (h : Ev ta σ H (.ref a)) (w : WAt K C H a S) : EvP (tC' C (spRead K C) (tC (.ref C)) (tCons (tCB (rStrOwn C (spStr K C)) (tCons ta tNil)) tNil)) σ H fun v H2 => ∃ b, v = .ref b ∧ WAt K C H2 b S := fun H1 e Q q => by
  obtain ⟨h', s, L, d, W, Fo⟩ := id w
  exact ⟨rfl, ev_strW h w Fo H1 e _ fun H2 e2 => ⟨h', s, L, d, S, rfl, Fo, fun b H3 e3 hW => q _ H3 (e2.trans e3) ⟨b, rfl, hW⟩⟩⟩
theorem te_pickJ {menu : List Nat} {j : Nat} {Q : VK} (h0 : σ[j]? = some (some (.ref pp))) (hm : EvA ts σ H (nvs menu)) (hp : PenAt K H pp cp ns n) (hn : n ≤ 2000) (m1 : 1 ≤ menu.length) (m2 : menu.length ≤ 100) (k : ∀ x H2, x ∈ menu → Ex (del H pp) (del H2 pp) → PenAt K H2 pp cp ns (n + 1) → Q (nv x) H2) :
    tF (spPick K) (tCons (tVar j) (tCons (tLst ts) tNil)) σ H Q := by
  refine ⟨_, h0, hm H (Ex.refl H) _ fun H1 e1 => ⟨sz_of (by rw [List.length_map]; omega), fun l hl => ?_⟩⟩
  have e2 : Ex H1 (upd H1 l (.lst (nvs menu))) := Ex.new hl
  have hp2 : PenAt K (upd H1 l (.lst (nvs menu))) pp cp ns n := hp.ext (e1.trans e2)
  refine ⟨pp, l, cp, ns, menu, n, rfl, m1, by omega, sql_del hp2 (sq_of upd_same) (nvs_noref menu), hp2, hn, fun x H2 hx e h2 => k x H2 hx ((del_mono (e1.trans e2)).trans e) h2⟩
end
theorem del_base {B H : Hp} {pp : Addr} (e : Ex B H) (h : B pp = none) : Ex B (del H pp) := fun b o hb => by
  rw [del_at fun z => by rw [z, h] at hb; cases hb]
  exact e b o hb
theorem told_tail {S : Nat → Bool} (T : M53.Tail S) {w : Nat} (h : 601 ≤ w) : S w = decide (Nat.gcd w 120 ∈ (M53.dv 120).filter fun g => S (720 + g)) := by
  have hd : Nat.gcd w 120 ∣ 120 := Nat.gcd_dvd_right _ _
  rw [M53.mem_dvf (Nat.dvd_refl 120) hd]
  have e : Nat.gcd (720 + Nat.gcd w 120) 120 = Nat.gcd w 120 := by
    have := M53.gcd_add_mul (w := Nat.gcd w 120) 6 (Nat.dvd_refl 120)
    rw [show 720 + Nat.gcd w 120 = Nat.gcd w 120 + 120 * 6 by omega, this, Nat.gcd_eq_left hd]
  exact T _ _ h (by omega) e.symm
theorem pick_tail {S : Nat → Bool} (T : M53.Tail S) {x g : Nat} (hx : x ∈ [600, 720, 840]) (hg : g ∣ 120) : S (x + g) = S (720 + g) := by
  have g0 := M53.pos120 hg
  have key : ∀ k : Nat, Nat.gcd (120 * k + g) 120 = g := fun k => by rw [Nat.add_comm, M53.gcd_add_mul k (Nat.dvd_refl 120), Nat.gcd_eq_left hg]
  simp only [List.mem_cons, List.not_mem_nil, or_false] at hx
  rcases hx with rfl | rfl | rfl
  · exact T _ _ (by omega) (by omega) ((key 5).trans (key 6).symm)
  · rfl
  · exact T _ _ (by omega) (by omega) ((key 7).trans (key 6).symm)
theorem le_tail {T : Nat → Bool} (h : M53.Tail T) : (∀ w, 1 ≤ w → w < 1400 → T w = false) ↔ ∀ w, 1 ≤ w → w ≤ 840 → T w = false := by
  constructor
  · intro q w w1 w2
    exact q w w1 (by omega)
  · intro q w w1 _
    by_cases z : w ≤ 840
    · exact q w w1 z
    · have e : T w = T (601 + (w - 601) % 120) := by
        refine h _ _ (by omega) (by omega) ?_
        have := M53.gcd_add_mul (w := 601 + (w - 601) % 120) ((w - 601) / 120) (Nat.dvd_refl 120)
        rw [← this]
        congr 1
        omega
      rw [e]
      exact q _ (by omega) (by omega)
section
variable {P : Program} {w : World} {K : PySem.W.Frag} {mg : Str → Option Value} {base : Heap} {C : Addr}
theorem k_law (T : Txt K mg C) (c__law_pen : Cl P w K mg base 1 "_law_pen" (spPen K)) (c__law_tree : Cl P w K mg base 10 "_law_tree" (spTree K C 4)) (c__law_meant : Cl P w K mg base 5 "_law_meant" (spMeant K 4)) (c__law_pick : Cl P w K mg base 2 "_law_pick" (spPick K)) (c__law_divisors : Cl P w K mg base 1 "_law_divisors" spLDiv) (c__law_counted_right : Cl P w K mg base 4 "_law_counted_right" (spCounted K C)) (c__law_least_right : Cl P w K mg base 2 "_law_least_right" (spLeastR K C))
   (c_told : Sm P w K mg base 5 C "told" (spTold K C)) (c_read : Cm P w K mg base 5 C "read" (spRead K C)) (c_str : OpU P w K mg base 2 C "__str__" (spStr K C)) (c_contains : OpU P w K mg base 3 C "__contains__" (spCont K C)) (c_ne : OpN P w K mg base 2 C (spEq K C)) (c_le : OpC P w K mg base 5 C .LtE (spLe K C)) (c_and : OpB P w K mg base 6 C .BitAnd (spBin K C "both")) (c_or : OpB P w K mg base 6 C .BitOr (spBin K C "either")) (c_sub : OpB P w K mg base 6 C .Sub (spBin K C "first"))
   {f : Addr} {fd : FuncData} (F : Fun K "law" "law" s_law f fd) : FnOk P w K mg base CX0 11 f fd ["_law_script"] (spLaw K) := by
  refine F.ok sc_law (fun vs H Q E h => ?_) (fun cdv A outer s H vs Q E hr h => ?_)
  · obtain ⟨sp, ns, rfl, _⟩ := h
    rfl
  · obtain ⟨sp, ns, rfl, hs, k⟩ := h
    refine ⟨_, (pss_cons (ps_set (i := 1) sc_law.nd rfl (Or.inr rfl) (pc c__law_pen hr (by decide) rfl (pa_cons (pv 0) pa_nil)))
      (pss_cons (ps_set (i := 2) sc_law.nd rfl (Or.inl rfl) pe_int)
      (pss_cons (ps_for PassesOwn.never rfl (pi_range1 (by rfl) T.range (pa_cons pe_int pa_nil)) (pg_name (i := 3) sc_law.nd rfl (Or.inl rfl))
        (pss_cons (ps_asg (pc c__law_tree hr (by decide) rfl (pa_cons (pv 1) (pa_cons pe_int pa_nil))) (k_pgt (K := K) (n := 2) rfl rfl (pgs_cons (pg_name (i := 4) sc_law.nd rfl (Or.inr rfl)) (pgs_cons (pg_name (i := 5) sc_law.nd rfl (Or.inr rfl)) pgs_nil))))
      (pss_cons (ps_set (i := 6) sc_law.nd rfl (Or.inr rfl) (pe_op op_cat (pe_lst (pa_cons pe_bl pa_nil)) (pe_lc (own := [("_law_w", 12)]) rfl sc_law.nd (pi_range2 (by rfl) T.range (pa_cons pe_int (pa_cons (pe_op op_add (pv 2) pe_int) pa_nil))) (blkOk_by (own := [("_law_w", 12)]) (N := N_law) (sc := defScope s_law) (by decide +kernel)) (fun _ _ _ _ _ => (pg_name (i := 12) sc_law.nd rfl (Or.inl rfl))) (fun _ _ _ _ _ => pts_nil) (fun _ _ _ _ _ => (pc c__law_meant hr (by decide) rfl (pa_cons (pv 4) (pa_cons (pv 12) pa_nil)))))))
      (pss_cons (ps_if (pt_cmpR (k_neD (K := K) hr.units rfl) (pe_lc (own := [("_law_w", 12)]) rfl sc_law.nd (pi_range2 (by rfl) T.range (pa_cons pe_int (pa_cons (pe_op op_add (pv 2) pe_int) pa_nil))) (blkOk_by (own := [("_law_w", 12)]) (N := N_law) (sc := defScope s_law) (by decide +kernel)) (fun _ _ _ _ _ => (pg_name (i := 12) sc_law.nd rfl (Or.inl rfl))) (fun _ _ _ _ _ => (pts_one (pt_cmpR op_ne (pe_cmpR (c_contains.op hr (by decide)) (pv 12) (pv 5) (by rfl)) (pe_ix (k_ixL (K := K) rfl) (pv 6) (pv 12) (fun _ _ => rfl)) (nomark _)))) (fun _ _ _ _ _ => (pv 12))) (pe_lst pa_nil) (nomark _)) (pss_one (ps_ret pe_bl)) pss_nil)
      (pss_cons (ps_if (PW.pt (pw_or (pt_not (pt_val (pc c__law_counted_right hr (by decide) rfl (pa_cons (pv 1) (pa_cons (pv 5) (pa_cons (pv 6) (pa_cons (pv 2) pa_nil))))))) (pw_or1 (pt_not (pt_val (pc c__law_least_right hr (by decide) rfl (pa_cons (pv 5) (pa_cons (pv 6) pa_nil)))))))) (pss_one (ps_ret pe_bl)) pss_nil)
      (pss_cons (ps_if (PW.pt (pw_or (pt_cmpR (c_ne.op hr (by decide)) (pcm c_read hr (by decide) (pe_glob (v := .ref C) rfl T.mgC rfl) (pa_cons (pe_callTy (c_str.call hr (by decide)) (by rfl) T.str bt_str (pa_cons (pv 5) pa_nil)) pa_nil)) (pv 5) (nomark _)) (pw_or (pt_cmpR op_gt (k_fld (K := K) rfl (pv 5) rfl) pe_int (nomark _)) (pw_or1 (pt_cmpR op_gt (pe_op op_mod (pe_callTy call_int1 (by rfl) T.int bt_int (pa_cons pe_int pa_nil)) (k_fld (K := K) rfl (pv 5) rfl)) pe_int (nomark _)))))) (pss_one (ps_ret pe_bl)) pss_nil)
      (pss_cons (ps_setLc (i := 7) (own := [("_law_part", 11)]) rfl sc_law.nd rfl rfl (sw_true rfl rfl rfl (by decide +kernel)) (k_pil (K := K) rfl (pc c__law_divisors hr (by decide) rfl (pa_cons pe_int pa_nil))) (blkOk_by (own := [("_law_part", 11)]) (N := N_law) (sc := defScope s_law) (by decide +kernel)) (fun _ _ _ _ _ => (pg_name (i := 11) sc_law.nd rfl (Or.inl rfl))) (fun _ _ _ _ _ => (pts_one (pt_val (pe_ix (k_ixL (K := K) rfl) (pv 6) (pe_op op_add (pc c__law_pick hr (by decide) rfl (pa_cons (pv 1) (pa_cons (pe_lst (pa_cons pe_int (pa_cons pe_int (pa_cons pe_int pa_nil)))) pa_nil))) (pv 11)) (fun _ _ => rfl))))) (fun _ _ _ _ _ => (pv 11)))
      (pss_cons (ps_set (i := 8) sc_law.nd rfl (Or.inl rfl) (psm c_told hr (by decide) (pe_glob (v := .ref C) rfl T.mgC rfl) (pa_cons (pe_lc (own := [("_law_w", 12)]) rfl sc_law.nd (pi_range2 (by rfl) T.range (pa_cons pe_int (pa_cons pe_int pa_nil))) (blkOk_by (own := [("_law_w", 12)]) (N := N_law) (sc := defScope s_law) (by decide +kernel)) (fun _ _ _ _ _ => (pg_name (i := 12) sc_law.nd rfl (Or.inl rfl))) (fun _ _ _ _ _ => (pts_one (pt_val (pe_ix (k_ixL (K := K) rfl) (pv 6) (pv 12) (fun _ _ => rfl))))) (fun _ _ _ _ _ => (pv 12))) (pa_cons pe_int (pa_cons pe_int (pa_cons (pv 7) pa_nil))))))
      (pss_cons (ps_if (PW.pt (pw_or (pt_cmpR (c_ne.op hr (by decide)) (pv 8) (pv 5) (nomark _)) (pw_or1 (pt_cmpR op_ne (pe_callTy (c_str.call hr (by decide)) (by rfl) T.str bt_str (pa_cons (pv 8) pa_nil)) (pe_callTy (c_str.call hr (by decide)) (by rfl) T.str bt_str (pa_cons (pv 5) pa_nil)) (nomark _))))) (pss_one (ps_ret pe_bl)) pss_nil)
      (pss_cons (ps_asg (pc c__law_tree hr (by decide) rfl (pa_cons (pv 1) (pa_cons pe_int pa_nil))) (k_pgt (K := K) (n := 2) rfl rfl (pgs_cons (pg_name (i := 9) sc_law.nd rfl (Or.inr rfl)) (pgs_cons (pg_name (i := 10) sc_law.nd rfl (Or.inl rfl)) pgs_nil))))
      (pss_cons (ps_if (PW.pt (pw_or (pt_cmpR (c_ne.op hr (by decide)) (pe_op (c_sub.op hr (by decide)) (pe_op (c_or.op hr (by decide)) (pv 5) (pv 10)) (pv 10)) (pe_op (c_sub.op hr (by decide)) (pv 5) (pv 10)) (nomark _)) (pw_or1 (pt_cmpR (c_ne.op hr (by decide)) (pe_op (c_or.op hr (by decide)) (pe_op (c_and.op hr (by decide)) (pv 5) (pv 10)) (pe_op (c_sub.op hr (by decide)) (pv 5) (pv 10))) (pv 5) (nomark _))))) (pss_one (ps_ret pe_bl)) pss_nil)
      (pss_one (ps_if (pt_cmpR op_ne (pe_cmpR (c_le.op hr (by decide)) (pv 5) (pv 10) (nomark _)) (pe_cmpR (k_eqD (K := K) hr.units rfl) (pe_lc (own := [("_law_w", 12)]) rfl sc_law.nd (pi_range2 (by rfl) T.range (pa_cons pe_int (pa_cons (pv 2) pa_nil))) (blkOk_by (own := [("_law_w", 12)]) (N := N_law) (sc := defScope s_law) (by decide +kernel)) (fun _ _ _ _ _ => (pg_name (i := 12) sc_law.nd rfl (Or.inl rfl))) (fun _ _ _ _ _ => (pts_one (PW.pt (pw_and (pt_val (pe_ix (k_ixL (K := K) rfl) (pv 6) (pv 12) (fun _ _ => rfl))) (pw_and1 (pt_not (pt_val (pc c__law_meant hr (by decide) rfl (pa_cons (pv 9) (pa_cons (pv 12) pa_nil)))))))))) (fun _ _ _ _ _ => (pv 12))) (pe_lst pa_nil) (nomark _)) (nomark _)) (pss_one (ps_ret pe_bl)) pss_nil)))))))))))))
      (pss_one (ps_ret pe_bl))))), ?_⟩
    refine q_raw ⟨_, rfl, sp, ns, rfl, hs, fun pp cp ms H1 hpp e1 hp1 => ?_⟩
    refine q_asg ev_c fun H2 e2 => ?_
    refine q_forR1 (n := 2) (ea_cons ev_c ea_nil) (by decide) (fun i σ H' => ∃ o3 o4 o5 o6 o7 o8 o9 o10 : Option V, σ = [some (.ref sp), some (.ref pp), some (nv 1400), o3, o4, o5, o6, o7, o8, o9, o10, none, none] ∧ Ex H H' ∧ PenAt K H' pp cp ms (400 * i))
      (fun H3 e3 => ⟨_, _, _, _, _, _, _, _, rfl, (e1.trans e2).trans e3, hp1.ext (e2.trans e3)⟩) (fun i σ' H' hi q => ?_) (fun σ' H' q => ?_)
    · obtain ⟨o3, o4, o5, o6, o7, o8, o9, o10, rfl, e0, hp0⟩ := q
      have i2 : i < 2 := by omega
      have hB : ∀ {H1 : Hp}, Ex (del H' pp) (del H1 pp) → Ex H H1 := fun e => ((del_base e0 hpp).trans e).trans del_ex
      have c3 : M53.tc 3 = 175 := rfl
      have c2 : M53.tc 2 = 87 := rfl
      refine q_rawG ?_
      refine te_tree (C := C) (e := 3) (ea_cons (ev_var rfl) (ea_cons ev_c ea_nil)) (by decide) hp0 (by omega) fun r t H3 e3 hp3 hd ok dep => ?_
      obtain ⟨tq, x, a, rfl, hq, hT, hW⟩ := hd
      refine ⟨tq, _, rfl, hq, rfl, _, _, rfl, _, _, rfl, rfl, ?_⟩
      have tl := Tr.tail ok
      -- the truths
      have Etr : EvL (tOp rCat (tLst (tCons (tC (V.bl false)) tNil)) (tLc (iRng2 (tCons (tC (V.int 1)) (tCons (tOp (rI0 fun i j => V.int (i + j)) (tVar 2) (tC (V.int 1))) tNil))) (gName 12) tYes (tF (spMeant K 4) (tCons (tVar 4) (tCons (tVar 12) tNil))) [12])) [some (.ref sp), some (.ref pp), some (nv 1400), some (.int (i : Int)), some x, some (.ref a), o6, o7, o8, o9, o10, none, none] H3 (trV t.mem) := by
        have g : given ((1401 : Int) - 1).toNat (fun _ => true) (fun i => V.bl (t.mem (i + 1))) = (List.range 1400).map fun i => V.bl (t.mem (i + 1)) := by
          unfold given
          rw [List.filter_eq_self.mpr fun _ _ => rfl]
          rfl
        have E := el_lcR2 (ta := tCons (tC (V.int 1)) (tCons (tOp (rI0 fun i j => V.int (i + j)) (tVar 2) (tC (V.int 1))) tNil)) (j := 12) (vs := [12]) (tt := tYes) (te := tF (spMeant K 4) (tCons (tVar 4) (tCons (tVar 12) tNil))) (σ := [some (.ref sp), some (.ref pp), some (nv 1400), some (.int (i : Int)), some x, some (.ref a), o6, o7, o8, o9, o10, none, none]) (H := H3) (lo := 1) (n := 1401) (fun _ => true) (fun i => V.bl (t.mem (i + 1)))
          (ea_cons ev_c (ea_cons (ev_op (ev_var rfl) ev_c (rv_addN (i := 1400) (j := 1))) ea_nil)) (by decide) (fun _ => rfl) (fun i H4 e hi => et_yes) (fun i H4 e hi _ => by
            have ew : (.int (1 + (i : Int)) : V) = nv (i + 1) := congrArg V.int (by omega)
            rw [ew]
            exact ev_tF (ea_cons (ev_var rfl) (ea_cons (ev_var rfl) ea_nil)) (spv_meant (hT.ext e) ok (by omega) (by omega) (by omega)))
        rw [g] at E
        exact el_cat (xs := [V.bl false]) (ys := (List.range 1400).map fun i => V.bl (t.mem (i + 1))) (el_lst (ea_cons ev_c ea_nil) (by simp)) E (by simp)
      refine q_asgL Etr fun tp H4 _ e4 h4 => ?_
      have kn : Kn K C H4 t x a tp := ⟨hT.ext e4, hW.ext e4, sq_of h4⟩
      have hp4 := hp3.ext e4
      have b4 : Ex (del H' pp) (del H4 pp) := e3.trans (del_mono e4)
      have trB : ∀ {σ : L2.St} {H1 : Hp} {w : Nat} {te : TE}, Kn K C H1 t x a tp → σ[6]? = some (some (.ref tp)) → Ev te σ H1 (nv w) → 1 ≤ w → w ≤ 1400 → Ev (tOp (rIxL K) (tVar 6) te) σ H1 (.bl (t.mem w)) := fun h h2 hw w1 w2 => ev_op (ev_var h2) hw (rv_ixL h.tru (trV_at _ w1 w2))
      -- in made, and meant
      refine q_when (b := false) (et_is (et_test (ev_neNN (ys := []) (el_range (lo := 1) (hi := 1401) (S := fun _ => false) (ea_cons ev_c (ea_cons (ev_op (ev_var rfl) ev_c (rv_addN (i := 1400) (j := 1))) ea_nil)) (by decide) (fun _ => rfl) (fun _ => rfl) fun w H5 e w1 w2 => et_is (et_test (ev_op (ev_op (ev_var rfl) (ev_var rfl) (rv_cont (kn.ext e).made w1)) (trB (kn.ext e) rfl (ev_var rfl) w1 (by omega)) (rv_ne rfl))) (by rw [decide_eq_true rfl]; rfl)) (el_lst ea_nil (by simp)))) ?_) (fun h => nomatch h) fun _ H5 e5 => ?_
      · have : ((List.range (1401 - 1)).map (1 + ·)).filter (fun _ => false) = [] := List.filter_eq_nil_iff.mpr fun _ _ => by decide
        rw [this]
        rfl
      have kn5 := kn.ext e5
      have hp5 := hp4.ext e5
      have b5 : Ex (del H' pp) (del H5 pp) := b4.trans (del_mono e5)
      -- counted, least
      refine q_skip (R := fun H6 => Ex (del H5 pp) (del H6 pp) ∧ PenAt K H6 pp cp ms (400 * i + 178)) (fun Q' q' => ?_) fun H6 r6 => ?_
      · refine tt_orF (R1 := fun H6 => Ex (del H5 pp) (del H6 pp) ∧ PenAt K H6 pp cp ms (400 * i + 178)) (fun Q1 q1 => tF_go (ea_cons (ev_var rfl) (ea_cons (ev_var rfl) (ea_cons (ev_var rfl) (ea_cons (ev_var rfl) ea_nil)))) fun H6 e6 => ?_) (fun H7 r7 Q2 q2 => ?_) Q' q'
        · exact ⟨pp, cp, a, tp, ms, 400 * i + 175, t.mem, rfl, hp5.ext e6, by omega, (kn5.ext e6).made, (kn5.ext e6).tru, fun H7 e7 hp7 => q1 H7 ⟨(del_mono e6).trans e7, hp7⟩⟩
        · obtain ⟨e7, hp7⟩ := r7
          have kn7 := kn5.pen hp5 e7
          exact et_not (a := true) (et_B (ev_tF (ea_cons (ev_var rfl) (ea_cons (ev_var rfl) ea_nil)) (fun H8 e8 Q8 k8 E8 => ⟨a, tp, t.mem, rfl, (kn7.ext e8).made, (kn7.ext e8).tru, k8⟩))) H7 (Ex.refl _) _ fun H8 e8 => q2 H8 ⟨e7.trans (del_mono e8), hp7.ext e8⟩
      obtain ⟨e6, hp6⟩ := r6
      have kn6 := kn5.pen hp5 e6
      have b6 := b5.trans e6
      -- read back; the bounds
      obtain ⟨hh, s, L, d, W, Fo⟩ := id kn6.made
      obtain ⟨dx, hpA, dpA, g1, g2, g3⟩ := W.ex
      have L0 := M53.pos120 Fo.len
      refine q_when (b := false) (et_is (et_or (et_test (ev_neW (ep_read (ev_var rfl) kn6.made) (ev_w (ev_var rfl) kn6.made) fun _ _ => rfl)) fun _ => et_or (et_test (ev_op (ev_fld (ev_var rfl) g1 T.cl T.nS (wf_start hpA s L dpA)) ev_c (rv_gtN (j := 601)))) fun _ => et_test (ev_op (ev_op (ev_cb (ea_cons ev_c ea_nil) (rc_int (i := 120))) (ev_fld (ev_var rfl) g1 T.cl T.nL (wf_length hpA s L dpA)) (rv_modN (i := 120) L0)) ev_c (rv_gtN (j := 0)))) ?_) (fun h => nomatch h) fun _ H7 e7 => ?_
      · have := Fo.s2
        rw [decide_eq_false (by omega), Nat.mod_eq_zero_of_dvd Fo.len]
        rfl
      have kn7 := kn6.ext e7
      have hp7 := hp6.ext e7
      have b7 : Ex (del H' pp) (del H7 pp) := b6.trans (del_mono e7)
      -- the goals
      refine q_raw ⟨120, rfl, by decide, fun gq H8 hgq e8 h8 => ⟨gq, rfl, ⟨_, sq_of h8⟩, fun Dl hD => ?_⟩⟩
      have hp8 := hp7.ext e8
      have kn8 := kn7.ext e8
      have b8 : Ex (del H' pp) (del H8 pp) := b7.trans (del_mono e8)
      have hDp : Dl ≠ pp := ne_of_new hD hp8.in
      have hgp : SqL K (del H8 pp) gq (nvs (M53.dv 120)) := sql_del hp8 (sq_of h8) (nvs_noref _)
      have dl := M53.dv_len 120
      refine lc_list (xs := nvs (M53.dv 120)) (fun j H9 => H9 Dl = some (.lst (nvs (((M53.dv 120).take j).filter fun g => t.mem (720 + g)))) ∧ Ex (del H8 pp) (del H9 pp) ∧ PenAt K H9 pp cp ms (400 * i + 178 + j)) ⟨upd_same, del_mono (Ex.new hD), hp8.ext (Ex.new hD)⟩ (fun j H9 hj q => ex_l del_ex (ex_l q.2.1 hgp)) (fun j xg H9 hj q => ?_) fun H9 q => ?_
      · obtain ⟨l3, l4, l5⟩ := q
        obtain ⟨ex, hil, hmem⟩ := getD_of hj
        have hg0 : (M53.dv 120)[j]? = some ((M53.dv 120).getD j 0) := by rw [List.getD_eq_getElem?_getD, List.getElem?_eq_getElem hil] <;> rfl
        generalize (M53.dv 120).getD j 0 = g at ex hmem hg0
        subst ex
        have gD := (M53.mem_dv (Nat.dvd_refl 120)).mp hmem
        have g0 := M53.pos120 gD
        have g120 := M53.le120 gD
        have sn := M53.filter_snoc (fun g => t.mem (720 + g)) hg0
        have kn9 : Kn K C H9 t x a tp := kn8.pen hp8 l4
        refine ⟨rfl, ⟨_, rfl, ?_⟩⟩
        refine te_pickJ (menu := [600, 720, 840]) (j := 1) rfl (ea_cons ev_c (ea_cons ev_c (ea_cons ev_c ea_nil))) l5 (by omega) (by decide) (by decide) fun pk H10 hpk e10 hp10 => ?_
        have pkb : pk ≤ 840 ∧ 600 ≤ pk := by
          simp only [List.mem_cons, List.not_mem_nil, or_false] at hpk
          omega
        have kn10 := kn9.pen l5 e10
        refine ⟨_, rfl, (pk : Int), (g : Int), rfl, rfl, ?_⟩
        refine ⟨tp, trV t.mem, (pk : Int) + (g : Int), .bl (t.mem (720 + g)), rfl, rfl, kn10.tru, ?_, ?_⟩
        · rw [show (pk : Int) + (g : Int) = ((pk + g : Nat) : Int) by omega, trV_at t.mem (by omega) (by omega), pick_tail tl hpk gD]
        have hDl : H10 Dl = some (.lst (nvs (((M53.dv 120).take j).filter fun g => t.mem (720 + g)))) := del_ex _ _ (e10 _ _ (by rw [del_at hDp]; exact l3))
        cases hb : t.mem (720 + g) with
        | true =>
          refine ⟨true, rfl, ?_⟩
          have eN : Ex (del H8 pp) (del (upd H10 Dl (.lst (nvs (((M53.dv 120).take j).filter fun g => t.mem (720 + g)) ++ [nv g]))) pp) := ex_del (Ex.mut ((l4.trans e10).trans del_ex) (by rw [del_at hDp]; exact hD))
          refine ⟨nv g, rfl, _, hDl, sz_lt ?_, ?_, eN, (hp10.mono (by omega)).of hDp hp8.cells eN⟩
          · rw [List.length_map]
            have := List.length_filter_le (fun g => t.mem (720 + g)) ((M53.dv 120).take j)
            have := List.length_take_le' j (M53.dv 120)
            omega
          · rw [sn, hb, if_pos rfl, upd_same, nvs_snoc]
        | false =>
          refine ⟨false, rfl, ?_⟩
          refine ⟨?_, l4.trans e10, hp10.mono (by omega)⟩
          rw [sn, hb, if_neg (by decide), List.append_nil]
          exact hDl
      · obtain ⟨l3, l4, l5⟩ := q
        rw [List.length_map, List.take_length] at l3
        have kn9 : Kn K C H9 t x a tp := kn8.pen hp8 l4
        have b9 := b8.trans l4
        have hp9 : PenAt K H9 pp cp ms (400 * i + 194) := l5.mono (by rw [List.length_map]; omega)
        -- told again
        have hTold : EvP (tS C (spTold K C) (tC (.ref C)) (tCons (tLc (iRng2 (tCons (tC (V.int 1)) (tCons (tC (V.int 605)) tNil))) (gName 12) (tB (tOp (rIxL K) (tVar 6) (tVar 12))) (tVar 12) [12]) (tCons (tC (.int 605)) (tCons (tC (.int 120)) (tCons (tVar 7) tNil))))) [some (.ref sp), some (.ref pp), some (nv 1400), some (.int (i : Int)), some x, some (.ref a), some (.ref tp), some (.ref Dl), o8, o9, o10, none, none] H9 (fun v H2 => ∃ b, v = .ref b ∧ WAt K C H2 b t.mem) := fun H10 e10 Q' q' =>
          ⟨rfl, epa_L (ws := [nv 605, nv 120, .ref Dl]) (el_range (lo := 1) (hi := 605) (S := t.mem) (ea_cons ev_c (ea_cons ev_c ea_nil)) (by decide) (fun _ => rfl) (fun _ => rfl) fun w H11 e w1 w2 => et_B (trB (kn9.ext e) rfl (ev_var rfl) w1 (by omega))) (ea_cons ev_c (ea_cons ev_c (ea_cons (ev_var rfl) ea_nil))) H10 e10 _ fun ws H11 e11 hw => by
            obtain ⟨hq0, rfl, h0⟩ := hw
            rw [M53.range_hd t.mem (by decide)] at h0
            refine ⟨hq0, Dl, M53.hd t.mem 605, (M53.dv 120).filter (fun g => t.mem (720 + g)), 605, 120, t.mem, rfl, sq_of h0, ex_l (e10.trans e11) (sq_of l3), Nat.dvd_refl 120, by decide, by decide, ?_, fun y hy => let z := M53.mem_hd.mp hy; ⟨z.1, z.2.1⟩, fun g hg => (M53.mem_dv (Nat.dvd_refl 120)).mp (List.mem_filter.mp hg).1, fun w w1 w2 => ?_, fun w hw => told_tail tl (by omega), tl, fun b H12 e12 hW => q' _ H12 (e11.trans e12) ⟨b, rfl, hW⟩⟩
            · exact Nat.le_trans (List.length_filter_le _ _) (by rw [List.length_range]; decide)
            · rw [Bool.eq_iff_iff, decide_eq_true_iff, M53.mem_hd]
              exact ⟨fun z => ⟨w1, w2, z⟩, fun z => z.2.2⟩⟩
        refine q_asgP hTold fun v H10 e10 hv => ?_
        obtain ⟨ag, rfl, hAg⟩ := hv
        have kn10 := kn9.ext e10
        refine q_when (b := false) (et_is (et_or (et_test (ev_neW (ev_w (ev_var rfl) hAg) (ev_w (ev_var rfl) kn10.made) fun _ _ => rfl)) fun _ => et_test (ev_op (ev_strW (ev_var rfl) hAg Fo) (ev_strW (ev_var rfl) kn10.made Fo) (rv_ne rfl))) (by rw [decide_eq_true rfl]; rfl)) (fun h => nomatch h) fun _ H11 e11 => ?_
        have kn11 := kn10.ext e11
        have hp11 := (hp9.ext e10).ext e11
        have b11 : Ex (del H' pp) (del H11 pp) := b9.trans (del_mono (e10.trans e11))
        -- the other tree
        refine q_rawG ?_
        refine te_tree (C := C) (e := 2) (ea_cons (ev_var rfl) (ea_cons ev_c ea_nil)) (by decide) hp11 (by omega) fun r2 u H12 e12 hp12 hd2 ok2 dep2 => ?_
        obtain ⟨uq, x2, a2, rfl, hq2, hT2, hW2⟩ := hd2
        refine ⟨uq, _, rfl, hq2, rfl, _, _, rfl, _, _, rfl, rfl, ?_⟩
        have kn12 := kn11.pen hp11 e12
        have b12 := b11.trans e12
        have tl2 := Tr.tail ok2
        have m5 : ∀ {H1 : Hp}, Ex H12 H1 → EvP (tVar 5) [some (.ref sp), some (.ref pp), some (nv 1400), some (.int (i : Int)), some x, some (.ref a), some (.ref tp), some (.ref Dl), some (.ref ag), some x2, some (.ref a2), none, none] H1 (fun v H2 => ∃ a, v = .ref a ∧ WAt K C H2 a t.mem) := fun e => ev_w (ev_var rfl) (kn12.ext e).made
        have m10 : ∀ {H1 : Hp}, Ex H12 H1 → EvP (tVar 10) [some (.ref sp), some (.ref pp), some (nv 1400), some (.int (i : Int)), some x, some (.ref a), some (.ref tp), some (.ref Dl), some (.ref ag), some x2, some (.ref a2), none, none] H1 (fun v H2 => ∃ a, v = .ref a ∧ WAt K C H2 a u.mem) := fun e => ev_w (ev_var rfl) (hW2.ext e)
        refine q_when (b := false) (et_is (et_or (et_test (ev_neW (ep_binP (ep_binP (m5 (Ex.refl _)) (m10 (Ex.refl _))) (m10 (Ex.refl _))) (ep_binP (m5 (Ex.refl _)) (m10 (Ex.refl _))) fun w _ => ?_)) fun _ => et_test (ev_neW (ep_binP (ep_binP (m5 (Ex.refl _)) (m10 (Ex.refl _))) (ep_binP (m5 (Ex.refl _)) (m10 (Ex.refl _)))) (m5 (Ex.refl _)) fun w _ => ?_)) rfl) (fun h => nomatch h) fun _ H13 e13 => ?_
        · rw [ruleF_first, ruleF_first, ruleF_either]
          cases t.mem w <;> cases u.mem w <;> rfl
        · rw [ruleF_first, ruleF_either, ruleF_both]
          cases t.mem w <;> cases u.mem w <;> rfl
        have kn13 := kn12.ext e13
        have hp13 := hp12.ext e13
        have tT : M53.Tail fun w => t.mem w && !u.mem w := tl.op tl2 fun a b => a && !b
        have E := el_range (ta' := tCons (tC (V.int 1)) (tCons (tVar 2) tNil)) (tt := tAnd (tB (tOp (rIxL K) (tVar 6) (tVar 12))) (tNot (tB (tF (spMeant K 4) (tCons (tVar 9) (tCons (tVar 12) tNil)))))) (vs := [12]) (j := 12) (σ := [some (.ref sp), some (.ref pp), some (nv 1400), some (.int (i : Int)), some x, some (.ref a), some (.ref tp), some (.ref Dl), some (.ref ag), some x2, some (.ref a2), none, none]) (H := H13) (lo := 1) (hi := 1400) (S := fun w => t.mem w && !u.mem w) (ea_cons ev_c (ea_cons (ev_var rfl) ea_nil)) (by decide) (fun _ => rfl) (fun _ => rfl) (fun w H14 e w1 w2 => et_and (et_B (trB (kn13.ext e) rfl (ev_var rfl) w1 (by omega))) fun _ => et_not (et_B (ev_tF (ea_cons (ev_var rfl) (ea_cons (ev_var rfl) ea_nil)) (spv_meant ((hT2.ext e13).ext e) ok2 (by omega) w1 (by omega)))))
        rw [M53.range_hd _ (by decide)] at E
        have hbb : decide (M53.hd (fun w => t.mem w && !u.mem w) 1400 = []) = true ↔ ∀ w, 1 ≤ w → w ≤ 840 → (t.mem w && !u.mem w) = false := by
          rw [decide_eq_true_iff, ← le_tail tT, List.eq_nil_iff_forall_not_mem]
          constructor
          · intro q w w1 w2
            cases hb : t.mem w && !u.mem w with
            | false => rfl
            | true => exact absurd (M53.mem_hd.mpr ⟨w1, w2, hb⟩) (q w)
          · intro q w hw
            obtain ⟨w1, w2, w3⟩ := M53.mem_hd.mp hw
            have := q w w1 w2
            rw [this] at w3
            cases w3
        refine s_when (b := false) (et_is (et_test (ev_op (ev_le (ev_var rfl) kn13.made (ev_var rfl) (hW2.ext e13) hbb) (ev_eqNN (ys := []) E (el_lst ea_nil (by simp))) (rv_ne rfl))) (by rw [decide_eq_true rfl]; rfl)) (fun h => nomatch h) fun _ H14 e14 => ⟨_, _, _, _, _, _, _, _, rfl, hB (b12.trans (del_mono (e13.trans e14))), (hp13.ext e14).mono (by omega)⟩
    · obtain ⟨o3, o4, o5, o6, o7, o8, o9, o10, rfl, e0, hp0⟩ := q
      exact s_ret ev_c fun H3 e3 => k _ (e0.trans e3)
end
end K53
/-! the facts of the top, joined -/
namespace K53
open PySem PySem.Spec PyProof.Rows L2 Evl
theorem Fn.cl0 {P : Program} {w : World} {K : PySem.W.Frag} {mg : Str → Option Value} {base : Heap} {k : Nat} {x : Str} {st : Stmt} {ps : List Str} {sp : Sp} (F : Fn K mg x st ps) (h : ∀ vs H Q E, ¬ sp vs H Q E) : Cl P w K mg base k x sp := by
  obtain ⟨f, fd, F0, hm, b⟩ := F.ex
  exact ⟨f, fun A outer s H us vs Q E hr e0 r hsp => absurd hsp (h vs H Q E), hm, F0.kp⟩
theorem all_mk {l : PySem.W.OpenLaw} {w : World} {K : PySem.W.Frag} {h : Heap} {mg : Str → Option Value} {fa C : Addr} (X : K.In h) (G : h.Ns mainGlobals mg) (hfa : mg "law" = some (.ref fa))
    {f1 f2 f3 f4 f5 f6 f7 f8 f9 f10 f11 f12 f13 f14 f15 f16 f17 f18 f19 f20 f21 f22 f23 f24 f25 f26 f27 f28 f29 f30 f31 f32 f33 f34 f35 f36 f37 f38 f39 f40 f41 f42 f43 f44 f45 f46 f47 f48 f49 f50 f51 f52 f53 : Addr} {od1 an1 od2 an2 od3 an3 od4 an4 od5 an5 od6 an6 od7 an7 od8 an8 od9 an9 od10 an10 od11 an11 od12 an12 od13 an13 od14 an14 od15 an15 od16 an16 od17 an17 od18 an18 od19 an19 od20 an20 od21 an21 od22 an22 od23 an23 od24 an24 od25 an25 od26 an26 od27 an27 od28 an28 od29 an29 od30 an30 od31 an31 od32 an32 od33 an33 od34 an34 od35 an35 od36 an36 od37 an37 od38 an38 od39 an39 od40 an40 od41 an41 od42 an42 od43 an43 od44 an44 od45 an45 od46 an46 od47 an47 od48 an48 od49 an49 od50 an50 od51 an51 od52 an52 od53 an53 : Option Addr} {sl1 sl2 sl3 sl4 sl5 sl6 sl7 sl8 sl9 sl10 sl11 sl12 sl13 sl14 sl15 sl16 sl17 sl18 sl19 sl20 sl21 sl22 sl23 sl24 sl25 sl26 sl27 sl28 sl29 sl30 sl31 sl32 sl33 sl34 sl35 sl36 sl37 sl38 sl39 sl40 sl41 sl42 sl43 sl44 sl45 sl46 sl47 sl48 sl49 sl50 sl51 sl52 sl53 : Array (Option Value)} {oc1 kV1 dc1 pm1 cd1 ct1 oc2 kV2 dc2 pm2 cd2 ct2 oc3 kV3 dc3 pm3 cd3 ct3 oc4 kV4 dc4 pm4 cd4 ct4 oc5 kV5 dc5 pm5 cd5 ct5 oc6 kV6 dc6 pm6 cd6 ct6 oc7 kV7 dc7 pm7 cd7 ct7 oc8 kV8 dc8 pm8 cd8 ct8 oc9 kV9 dc9 pm9 cd9 ct9 oc10 kV10 dc10 pm10 cd10 ct10 oc11 kV11 dc11 pm11 cd11 ct11 oc12 kV12 dc12 pm12 cd12 ct12 oc13 kV13 dc13 pm13 cd13 ct13 oc14 kV14 dc14 pm14 cd14 ct14 oc15 kV15 dc15 pm15 cd15 ct15 oc16 kV16 dc16 pm16 cd16 ct16 oc17 kV17 dc17 pm17 cd17 ct17 oc18 kV18 dc18 pm18 cd18 ct18 oc19 kV19 dc19 pm19 cd19 ct19 oc20 kV20 dc20 pm20 cd20 ct20 oc21 kV21 dc21 pm21 cd21 ct21 oc22 kV22 dc22 pm22 cd22 ct22 oc23 kV23 dc23 pm23 cd23 ct23 oc24 kV24 dc24 pm24 cd24 ct24 oc25 kV25 dc25 pm25 cd25 ct25 oc26 kV26 dc26 pm26 cd26 ct26 oc27 kV27 dc27 pm27 cd27 ct27 oc28 kV28 dc28 pm28 cd28 ct28 oc29 kV29 dc29 pm29 cd29 ct29 oc30 kV30 dc30 pm30 cd30 ct30 oc31 kV31 dc31 pm31 cd31 ct31 oc32 kV32 dc32 pm32 cd32 ct32 oc33 kV33 dc33 pm33 cd33 ct33 oc34 kV34 dc34 pm34 cd34 ct34 oc35 kV35 dc35 pm35 cd35 ct35 oc36 kV36 dc36 pm36 cd36 ct36 oc37 kV37 dc37 pm37 cd37 ct37 oc38 kV38 dc38 pm38 cd38 ct38 oc39 kV39 dc39 pm39 cd39 ct39 oc40 kV40 dc40 pm40 cd40 ct40 oc41 kV41 dc41 pm41 cd41 ct41 oc42 kV42 dc42 pm42 cd42 ct42 oc43 kV43 dc43 pm43 cd43 ct43 oc44 kV44 dc44 pm44 cd44 ct44 oc45 kV45 dc45 pm45 cd45 ct45 oc46 kV46 dc46 pm46 cd46 ct46 oc47 kV47 dc47 pm47 cd47 ct47 oc48 kV48 dc48 pm48 cd48 ct48 oc49 kV49 dc49 pm49 cd49 ct49 oc50 kV50 dc50 pm50 cd50 ct50 oc51 kV51 dc51 pm51 cd51 ct51 oc52 kV52 dc52 pm52 cd52 ct52 oc53 kV53 dc53 pm53 cd53 ct53 : Value} {p48 p49 p50 p51 p52 p53 : Addr} {rest48 rest49 rest50 rest51 rest52 rest53 : List Value} {t_MOST_LENGTH t_MOST_WIDTH t_MOST_TOLD t_LONGEST_NUMBER : Tok}
    (aC : PySem.W.nsIn K mainGlobals "Widths" = some (some (.ref C)))
    (a1 : PySem.W.nsIn K mainGlobals "is_integer" = some (some (.ref f1)))
    (l1 : K.lookup f1 = some ⟨oc1, od1, .func (PySem.W.fnOf "is_integer" "is_integer" (defArgs s_is_integer) (defBody s_is_integer) (defScope s_is_integer) .none kV1 dc1 pm1 an1 cd1 ct1), sl1⟩)
    (c1 : PySem.W.codeIn K cd1 "is_integer" = true)
    (k1 : PySem.W.keepIn K (.ref f1) = true)
    (a2 : PySem.W.nsIn K mainGlobals "is_between" = some (some (.ref f2)))
    (l2 : K.lookup f2 = some ⟨oc2, od2, .func (PySem.W.fnOf "is_between" "is_between" (defArgs s_is_between) (defBody s_is_between) (defScope s_is_between) .none kV2 dc2 pm2 an2 cd2 ct2), sl2⟩)
    (c2 : PySem.W.codeIn K cd2 "is_between" = true)
    (k2 : PySem.W.keepIn K (.ref f2) = true)
    (a3 : PySem.W.nsIn K mainGlobals "gcd" = some (some (.ref f3)))
    (l3 : K.lookup f3 = some ⟨oc3, od3, .func (PySem.W.fnOf "gcd" "gcd" (defArgs s_gcd) (defBody s_gcd) (defScope s_gcd) .none kV3 dc3 pm3 an3 cd3 ct3), sl3⟩)
    (c3 : PySem.W.codeIn K cd3 "gcd" = true)
    (k3 : PySem.W.keepIn K (.ref f3) = true)
    (a4 : PySem.W.nsIn K mainGlobals "lcm" = some (some (.ref f4)))
    (l4 : K.lookup f4 = some ⟨oc4, od4, .func (PySem.W.fnOf "lcm" "lcm" (defArgs s_lcm) (defBody s_lcm) (defScope s_lcm) .none kV4 dc4 pm4 an4 cd4 ct4), sl4⟩)
    (c4 : PySem.W.codeIn K cd4 "lcm" = true)
    (k4 : PySem.W.keepIn K (.ref f4) = true)
    (a5 : PySem.W.nsIn K mainGlobals "primes_of" = some (some (.ref f5)))
    (l5 : K.lookup f5 = some ⟨oc5, od5, .func (PySem.W.fnOf "primes_of" "primes_of" (defArgs s_primes_of) (defBody s_primes_of) (defScope s_primes_of) .none kV5 dc5 pm5 an5 cd5 ct5), sl5⟩)
    (c5 : PySem.W.codeIn K cd5 "primes_of" = true)
    (k5 : PySem.W.keepIn K (.ref f5) = true)
    (a6 : PySem.W.nsIn K mainGlobals "divisors_of" = some (some (.ref f6)))
    (l6 : K.lookup f6 = some ⟨oc6, od6, .func (PySem.W.fnOf "divisors_of" "divisors_of" (defArgs s_divisors_of) (defBody s_divisors_of) (defScope s_divisors_of) .none kV6 dc6 pm6 an6 cd6 ct6), sl6⟩)
    (c6 : PySem.W.codeIn K cd6 "divisors_of" = true)
    (k6 : PySem.W.keepIn K (.ref f6) = true)
    (a7 : PySem.W.nsIn K mainGlobals "coprimes_up_to" = some (some (.ref f7)))
    (l7 : K.lookup f7 = some ⟨oc7, od7, .func (PySem.W.fnOf "coprimes_up_to" "coprimes_up_to" (defArgs s_coprimes_up_to) (defBody s_coprimes_up_to) (defScope s_coprimes_up_to) .none kV7 dc7 pm7 an7 cd7 ct7), sl7⟩)
    (c7 : PySem.W.codeIn K cd7 "coprimes_up_to" = true)
    (k7 : PySem.W.keepIn K (.ref f7) = true)
    (a8 : PySem.W.nsIn K mainGlobals "order_up_to" = some (some (.ref f8)))
    (l8 : K.lookup f8 = some ⟨oc8, od8, .func (PySem.W.fnOf "order_up_to" "order_up_to" (defArgs s_order_up_to) (defBody s_order_up_to) (defScope s_order_up_to) .none kV8 dc8 pm8 an8 cd8 ct8), sl8⟩)
    (c8 : PySem.W.codeIn K cd8 "order_up_to" = true)
    (k8 : PySem.W.keepIn K (.ref f8) = true)
    (a9 : PySem.W.nsIn K mainGlobals "merged" = some (some (.ref f9)))
    (l9 : K.lookup f9 = some ⟨oc9, od9, .func (PySem.W.fnOf "merged" "merged" (defArgs s_merged) (defBody s_merged) (defScope s_merged) .none kV9 dc9 pm9 an9 cd9 ct9), sl9⟩)
    (c9 : PySem.W.codeIn K cd9 "merged" = true)
    (k9 : PySem.W.keepIn K (.ref f9) = true)
    (a10 : PySem.W.nsIn K mainGlobals "least_table" = some (some (.ref f10)))
    (l10 : K.lookup f10 = some ⟨oc10, od10, .func (PySem.W.fnOf "least_table" "least_table" (defArgs s_least_table) (defBody s_least_table) (defScope s_least_table) .none kV10 dc10 pm10 an10 cd10 ct10), sl10⟩)
    (c10 : PySem.W.codeIn K cd10 "least_table" = true)
    (k10 : PySem.W.keepIn K (.ref f10) = true)
    (a11 : PySem.W.nsIn K mainGlobals "formed" = some (some (.ref f11)))
    (l11 : K.lookup f11 = some ⟨oc11, od11, .func (PySem.W.fnOf "formed" "formed" (defArgs s_formed) (defBody s_formed) (defScope s_formed) .none kV11 dc11 pm11 an11 cd11 ct11), sl11⟩)
    (c11 : PySem.W.codeIn K cd11 "formed" = true)
    (k11 : PySem.W.keepIn K (.ref f11) = true)
    (a12 : PySem.W.nsIn K mainGlobals "first_out_of" = some (some (.ref f12)))
    (l12 : K.lookup f12 = some ⟨oc12, od12, .func (PySem.W.fnOf "first_out_of" "first_out_of" (defArgs s_first_out_of) (defBody s_first_out_of) (defScope s_first_out_of) .none kV12 dc12 pm12 an12 cd12 ct12), sl12⟩)
    (c12 : PySem.W.codeIn K cd12 "first_out_of" = true)
    (k12 : PySem.W.keepIn K (.ref f12) = true)
    (a13 : PySem.W.nsIn K mainGlobals "is_chosen" = some (some (.ref f13)))
    (l13 : K.lookup f13 = some ⟨oc13, od13, .func (PySem.W.fnOf "is_chosen" "is_chosen" (defArgs s_is_chosen) (defBody s_is_chosen) (defScope s_is_chosen) .none kV13 dc13 pm13 an13 cd13 ct13), sl13⟩)
    (c13 : PySem.W.codeIn K cd13 "is_chosen" = true)
    (k13 : PySem.W.keepIn K (.ref f13) = true)
    (a14 : PySem.W.nsIn K mainGlobals "greater" = some (some (.ref f14)))
    (l14 : K.lookup f14 = some ⟨oc14, od14, .func (PySem.W.fnOf "greater" "greater" (defArgs s_greater) (defBody s_greater) (defScope s_greater) .none kV14 dc14 pm14 an14 cd14 ct14), sl14⟩)
    (c14 : PySem.W.codeIn K cd14 "greater" = true)
    (k14 : PySem.W.keepIn K (.ref f14) = true)
    (a15 : PySem.W.nsIn K mainGlobals "is_member" = some (some (.ref f15)))
    (l15 : K.lookup f15 = some ⟨oc15, od15, .func (PySem.W.fnOf "is_member" "is_member" (defArgs s_is_member) (defBody s_is_member) (defScope s_is_member) .none kV15 dc15 pm15 an15 cd15 ct15), sl15⟩)
    (c15 : PySem.W.codeIn K cd15 "is_member" = true)
    (k15 : PySem.W.keepIn K (.ref f15) = true)
    (a16 : PySem.W.nsIn K mainGlobals "joined_parts" = some (some (.ref f16)))
    (l16 : K.lookup f16 = some ⟨oc16, od16, .func (PySem.W.fnOf "joined_parts" "joined_parts" (defArgs s_joined_parts) (defBody s_joined_parts) (defScope s_joined_parts) .none kV16 dc16 pm16 an16 cd16 ct16), sl16⟩)
    (c16 : PySem.W.codeIn K cd16 "joined_parts" = true)
    (k16 : PySem.W.keepIn K (.ref f16) = true)
    (a17 : PySem.W.nsIn K mainGlobals "joined_sets" = some (some (.ref f17)))
    (l17 : K.lookup f17 = some ⟨oc17, od17, .func (PySem.W.fnOf "joined_sets" "joined_sets" (defArgs s_joined_sets) (defBody s_joined_sets) (defScope s_joined_sets) .none kV17 dc17 pm17 an17 cd17 ct17), sl17⟩)
    (c17 : PySem.W.codeIn K cd17 "joined_sets" = true)
    (k17 : PySem.W.keepIn K (.ref f17) = true)
    (a18 : PySem.W.nsIn K mainGlobals "is_nothing" = some (some (.ref f18)))
    (l18 : K.lookup f18 = some ⟨oc18, od18, .func (PySem.W.fnOf "is_nothing" "is_nothing" (defArgs s_is_nothing) (defBody s_is_nothing) (defScope s_is_nothing) .none kV18 dc18 pm18 an18 cd18 ct18), sl18⟩)
    (c18 : PySem.W.codeIn K cd18 "is_nothing" = true)
    (k18 : PySem.W.keepIn K (.ref f18) = true)
    (a19 : PySem.W.nsIn K mainGlobals "classes_of" = some (some (.ref f19)))
    (l19 : K.lookup f19 = some ⟨oc19, od19, .func (PySem.W.fnOf "classes_of" "classes_of" (defArgs s_classes_of) (defBody s_classes_of) (defScope s_classes_of) .none kV19 dc19 pm19 an19 cd19 ct19), sl19⟩)
    (c19 : PySem.W.codeIn K cd19 "classes_of" = true)
    (k19 : PySem.W.keepIn K (.ref f19) = true)
    (a20 : PySem.W.nsIn K mainGlobals "members_up_to" = some (some (.ref f20)))
    (l20 : K.lookup f20 = some ⟨oc20, od20, .func (PySem.W.fnOf "members_up_to" "members_up_to" (defArgs s_members_up_to) (defBody s_members_up_to) (defScope s_members_up_to) .none kV20 dc20 pm20 an20 cd20 ct20), sl20⟩)
    (c20 : PySem.W.codeIn K cd20 "members_up_to" = true)
    (k20 : PySem.W.keepIn K (.ref f20) = true)
    (a21 : PySem.W.nsIn K mainGlobals "number_in" = some (some (.ref f21)))
    (l21 : K.lookup f21 = some ⟨oc21, od21, .func (PySem.W.fnOf "number_in" "number_in" (defArgs s_number_in) (defBody s_number_in) (defScope s_number_in) .none kV21 dc21 pm21 an21 cd21 ct21), sl21⟩)
    (c21 : PySem.W.codeIn K cd21 "number_in" = true)
    (k21 : PySem.W.keepIn K (.ref f21) = true)
    (a22 : PySem.W.nsIn K mainGlobals "numbers_in" = some (some (.ref f22)))
    (l22 : K.lookup f22 = some ⟨oc22, od22, .func (PySem.W.fnOf "numbers_in" "numbers_in" (defArgs s_numbers_in) (defBody s_numbers_in) (defScope s_numbers_in) .none kV22 dc22 pm22 an22 cd22 ct22), sl22⟩)
    (c22 : PySem.W.codeIn K cd22 "numbers_in" = true)
    (k22 : PySem.W.keepIn K (.ref f22) = true)
    (a23 : PySem.W.nsIn K mainGlobals "numbers_text" = some (some (.ref f23)))
    (l23 : K.lookup f23 = some ⟨oc23, od23, .func (PySem.W.fnOf "numbers_text" "numbers_text" (defArgs s_numbers_text) (defBody s_numbers_text) (defScope s_numbers_text) .none kV23 dc23 pm23 an23 cd23 ct23), sl23⟩)
    (c23 : PySem.W.codeIn K cd23 "numbers_text" = true)
    (k23 : PySem.W.keepIn K (.ref f23) = true)
    (a24 : PySem.W.nsIn K mainGlobals "_law_pen" = some (some (.ref f24)))
    (l24 : K.lookup f24 = some ⟨oc24, od24, .func (PySem.W.fnOf "_law_pen" "_law_pen" (defArgs s__law_pen) (defBody s__law_pen) (defScope s__law_pen) .none kV24 dc24 pm24 an24 cd24 ct24), sl24⟩)
    (c24 : PySem.W.codeIn K cd24 "_law_pen" = true)
    (k24 : PySem.W.keepIn K (.ref f24) = true)
    (a25 : PySem.W.nsIn K mainGlobals "_law_draw" = some (some (.ref f25)))
    (l25 : K.lookup f25 = some ⟨oc25, od25, .func (PySem.W.fnOf "_law_draw" "_law_draw" (defArgs s__law_draw) (defBody s__law_draw) (defScope s__law_draw) .none kV25 dc25 pm25 an25 cd25 ct25), sl25⟩)
    (c25 : PySem.W.codeIn K cd25 "_law_draw" = true)
    (k25 : PySem.W.keepIn K (.ref f25) = true)
    (a26 : PySem.W.nsIn K mainGlobals "_law_pick" = some (some (.ref f26)))
    (l26 : K.lookup f26 = some ⟨oc26, od26, .func (PySem.W.fnOf "_law_pick" "_law_pick" (defArgs s__law_pick) (defBody s__law_pick) (defScope s__law_pick) .none kV26 dc26 pm26 an26 cd26 ct26), sl26⟩)
    (c26 : PySem.W.codeIn K cd26 "_law_pick" = true)
    (k26 : PySem.W.keepIn K (.ref f26) = true)
    (a27 : PySem.W.nsIn K mainGlobals "_law_gcd" = some (some (.ref f27)))
    (l27 : K.lookup f27 = some ⟨oc27, od27, .func (PySem.W.fnOf "_law_gcd" "_law_gcd" (defArgs s__law_gcd) (defBody s__law_gcd) (defScope s__law_gcd) .none kV27 dc27 pm27 an27 cd27 ct27), sl27⟩)
    (c27 : PySem.W.codeIn K cd27 "_law_gcd" = true)
    (k27 : PySem.W.keepIn K (.ref f27) = true)
    (a28 : PySem.W.nsIn K mainGlobals "_law_divisors" = some (some (.ref f28)))
    (l28 : K.lookup f28 = some ⟨oc28, od28, .func (PySem.W.fnOf "_law_divisors" "_law_divisors" (defArgs s__law_divisors) (defBody s__law_divisors) (defScope s__law_divisors) .none kV28 dc28 pm28 an28 cd28 ct28), sl28⟩)
    (c28 : PySem.W.codeIn K cd28 "_law_divisors" = true)
    (k28 : PySem.W.keepIn K (.ref f28) = true)
    (a29 : PySem.W.nsIn K mainGlobals "_law_leaf" = some (some (.ref f29)))
    (l29 : K.lookup f29 = some ⟨oc29, od29, .func (PySem.W.fnOf "_law_leaf" "_law_leaf" (defArgs s__law_leaf) (defBody s__law_leaf) (defScope s__law_leaf) .none kV29 dc29 pm29 an29 cd29 ct29), sl29⟩)
    (c29 : PySem.W.codeIn K cd29 "_law_leaf" = true)
    (k29 : PySem.W.keepIn K (.ref f29) = true)
    (a30 : PySem.W.nsIn K mainGlobals "_law_tree" = some (some (.ref f30)))
    (l30 : K.lookup f30 = some ⟨oc30, od30, .func (PySem.W.fnOf "_law_tree" "_law_tree" (defArgs s__law_tree) (defBody s__law_tree) (defScope s__law_tree) .none kV30 dc30 pm30 an30 cd30 ct30), sl30⟩)
    (c30 : PySem.W.codeIn K cd30 "_law_tree" = true)
    (k30 : PySem.W.keepIn K (.ref f30) = true)
    (a31 : PySem.W.nsIn K mainGlobals "_law_meant" = some (some (.ref f31)))
    (l31 : K.lookup f31 = some ⟨oc31, od31, .func (PySem.W.fnOf "_law_meant" "_law_meant" (defArgs s__law_meant) (defBody s__law_meant) (defScope s__law_meant) .none kV31 dc31 pm31 an31 cd31 ct31), sl31⟩)
    (c31 : PySem.W.codeIn K cd31 "_law_meant" = true)
    (k31 : PySem.W.keepIn K (.ref f31) = true)
    (a32 : PySem.W.nsIn K mainGlobals "_law_counted_right" = some (some (.ref f32)))
    (l32 : K.lookup f32 = some ⟨oc32, od32, .func (PySem.W.fnOf "_law_counted_right" "_law_counted_right" (defArgs s__law_counted_right) (defBody s__law_counted_right) (defScope s__law_counted_right) .none kV32 dc32 pm32 an32 cd32 ct32), sl32⟩)
    (c32 : PySem.W.codeIn K cd32 "_law_counted_right" = true)
    (k32 : PySem.W.keepIn K (.ref f32) = true)
    (a33 : PySem.W.nsIn K mainGlobals "_law_least_right" = some (some (.ref f33)))
    (l33 : K.lookup f33 = some ⟨oc33, od33, .func (PySem.W.fnOf "_law_least_right" "_law_least_right" (defArgs s__law_least_right) (defBody s__law_least_right) (defScope s__law_least_right) .none kV33 dc33 pm33 an33 cd33 ct33), sl33⟩)
    (c33 : PySem.W.codeIn K cd33 "_law_least_right" = true)
    (k33 : PySem.W.keepIn K (.ref f33) = true)
    (a34 : PySem.W.nsIn K mainGlobals "law" = some (some (.ref f34)))
    (l34 : K.lookup f34 = some ⟨oc34, od34, .func (PySem.W.fnOf "law" "law" (defArgs s_law) (defBody s_law) (defScope s_law) .none kV34 dc34 pm34 an34 cd34 ct34), sl34⟩)
    (c34 : PySem.W.codeIn K cd34 "law" = true)
    (k34 : PySem.W.keepIn K (.ref f34) = true)
    (a35 : PySem.W.findIn K (.ref C) "__init__" = some (some (.ref f35)))
    (i35 : PySem.W.isFn K (.ref f35) = true)
    (l35 : K.lookup f35 = some ⟨oc35, od35, .func (PySem.W.fnOf "__init__" "Widths.__init__" (defArgs s_w_init) (defBody s_w_init) (defScope s_w_init) .none kV35 dc35 pm35 an35 cd35 ct35), sl35⟩)
    (c35 : PySem.W.codeIn K cd35 "Widths.__init__" = true)
    (k35 : PySem.W.keepIn K (.ref f35) = true)
    (a36 : PySem.W.findIn K (.ref C) "__contains__" = some (some (.ref f36)))
    (i36 : PySem.W.isFn K (.ref f36) = true)
    (l36 : K.lookup f36 = some ⟨oc36, od36, .func (PySem.W.fnOf "__contains__" "Widths.__contains__" (defArgs s_w_contains) (defBody s_w_contains) (defScope s_w_contains) .none kV36 dc36 pm36 an36 cd36 ct36), sl36⟩)
    (c36 : PySem.W.codeIn K cd36 "Widths.__contains__" = true)
    (k36 : PySem.W.keepIn K (.ref f36) = true)
    (a37 : PySem.W.findIn K (.ref C) "described" = some (some (.ref f37)))
    (i37 : PySem.W.isFn K (.ref f37) = true)
    (l37 : K.lookup f37 = some ⟨oc37, od37, .func (PySem.W.fnOf "described" "Widths.described" (defArgs s_w_described) (defBody s_w_described) (defScope s_w_described) .none kV37 dc37 pm37 an37 cd37 ct37), sl37⟩)
    (c37 : PySem.W.codeIn K cd37 "Widths.described" = true)
    (k37 : PySem.W.keepIn K (.ref f37) = true)
    (a38 : PySem.W.findIn K (.ref C) "__and__" = some (some (.ref f38)))
    (i38 : PySem.W.isFn K (.ref f38) = true)
    (l38 : K.lookup f38 = some ⟨oc38, od38, .func (PySem.W.fnOf "__and__" "Widths.__and__" (defArgs s_w_and) (defBody s_w_and) (defScope s_w_and) .none kV38 dc38 pm38 an38 cd38 ct38), sl38⟩)
    (c38 : PySem.W.codeIn K cd38 "Widths.__and__" = true)
    (k38 : PySem.W.keepIn K (.ref f38) = true)
    (a39 : PySem.W.findIn K (.ref C) "__or__" = some (some (.ref f39)))
    (i39 : PySem.W.isFn K (.ref f39) = true)
    (l39 : K.lookup f39 = some ⟨oc39, od39, .func (PySem.W.fnOf "__or__" "Widths.__or__" (defArgs s_w_or) (defBody s_w_or) (defScope s_w_or) .none kV39 dc39 pm39 an39 cd39 ct39), sl39⟩)
    (c39 : PySem.W.codeIn K cd39 "Widths.__or__" = true)
    (k39 : PySem.W.keepIn K (.ref f39) = true)
    (a40 : PySem.W.findIn K (.ref C) "__sub__" = some (some (.ref f40)))
    (i40 : PySem.W.isFn K (.ref f40) = true)
    (l40 : K.lookup f40 = some ⟨oc40, od40, .func (PySem.W.fnOf "__sub__" "Widths.__sub__" (defArgs s_w_sub) (defBody s_w_sub) (defScope s_w_sub) .none kV40 dc40 pm40 an40 cd40 ct40), sl40⟩)
    (c40 : PySem.W.codeIn K cd40 "Widths.__sub__" = true)
    (k40 : PySem.W.keepIn K (.ref f40) = true)
    (a41 : PySem.W.findIn K (.ref C) "__xor__" = some (some (.ref f41)))
    (i41 : PySem.W.isFn K (.ref f41) = true)
    (l41 : K.lookup f41 = some ⟨oc41, od41, .func (PySem.W.fnOf "__xor__" "Widths.__xor__" (defArgs s_w_xor) (defBody s_w_xor) (defScope s_w_xor) .none kV41 dc41 pm41 an41 cd41 ct41), sl41⟩)
    (c41 : PySem.W.codeIn K cd41 "Widths.__xor__" = true)
    (k41 : PySem.W.keepIn K (.ref f41) = true)
    (a42 : PySem.W.findIn K (.ref C) "__invert__" = some (some (.ref f42)))
    (i42 : PySem.W.isFn K (.ref f42) = true)
    (l42 : K.lookup f42 = some ⟨oc42, od42, .func (PySem.W.fnOf "__invert__" "Widths.__invert__" (defArgs s_w_invert) (defBody s_w_invert) (defScope s_w_invert) .none kV42 dc42 pm42 an42 cd42 ct42), sl42⟩)
    (c42 : PySem.W.codeIn K cd42 "Widths.__invert__" = true)
    (k42 : PySem.W.keepIn K (.ref f42) = true)
    (a43 : PySem.W.findIn K (.ref C) "__le__" = some (some (.ref f43)))
    (i43 : PySem.W.isFn K (.ref f43) = true)
    (l43 : K.lookup f43 = some ⟨oc43, od43, .func (PySem.W.fnOf "__le__" "Widths.__le__" (defArgs s_w_le) (defBody s_w_le) (defScope s_w_le) .none kV43 dc43 pm43 an43 cd43 ct43), sl43⟩)
    (c43 : PySem.W.codeIn K cd43 "Widths.__le__" = true)
    (k43 : PySem.W.keepIn K (.ref f43) = true)
    (a44 : PySem.W.findIn K (.ref C) "__eq__" = some (some (.ref f44)))
    (i44 : PySem.W.isFn K (.ref f44) = true)
    (l44 : K.lookup f44 = some ⟨oc44, od44, .func (PySem.W.fnOf "__eq__" "Widths.__eq__" (defArgs s_w_eq) (defBody s_w_eq) (defScope s_w_eq) .none kV44 dc44 pm44 an44 cd44 ct44), sl44⟩)
    (c44 : PySem.W.codeIn K cd44 "Widths.__eq__" = true)
    (k44 : PySem.W.keepIn K (.ref f44) = true)
    (a45 : PySem.W.findIn K (.ref C) "__str__" = some (some (.ref f45)))
    (i45 : PySem.W.isFn K (.ref f45) = true)
    (l45 : K.lookup f45 = some ⟨oc45, od45, .func (PySem.W.fnOf "__str__" "Widths.__str__" (defArgs s_w_str) (defBody s_w_str) (defScope s_w_str) .none kV45 dc45 pm45 an45 cd45 ct45), sl45⟩)
    (c45 : PySem.W.codeIn K cd45 "Widths.__str__" = true)
    (k45 : PySem.W.keepIn K (.ref f45) = true)
    (a46 : PySem.W.findIn K (.ref C) "up_to" = some (some (.ref f46)))
    (i46 : PySem.W.isFn K (.ref f46) = true)
    (l46 : K.lookup f46 = some ⟨oc46, od46, .func (PySem.W.fnOf "up_to" "Widths.up_to" (defArgs s_w_up_to) (defBody s_w_up_to) (defScope s_w_up_to) .none kV46 dc46 pm46 an46 cd46 ct46), sl46⟩)
    (c46 : PySem.W.codeIn K cd46 "Widths.up_to" = true)
    (k46 : PySem.W.keepIn K (.ref f46) = true)
    (a47 : PySem.W.findIn K (.ref C) "kth" = some (some (.ref f47)))
    (i47 : PySem.W.isFn K (.ref f47) = true)
    (l47 : K.lookup f47 = some ⟨oc47, od47, .func (PySem.W.fnOf "kth" "Widths.kth" (defArgs s_w_kth) (defBody s_w_kth) (defScope s_w_kth) .none kV47 dc47 pm47 an47 cd47 ct47), sl47⟩)
    (c47 : PySem.W.codeIn K cd47 "Widths.kth" = true)
    (k47 : PySem.W.keepIn K (.ref f47) = true)
    (a48 : PySem.W.findCls K (.ref C) (.type "type") "of" = some (.get (.builtin "staticmethod.__get__") (.ref p48) .none (.ref C)))
    (r48 : PySem.W.recIn K p48 "staticmethod" = some (.ref f48 :: rest48))
    (l48 : K.lookup f48 = some ⟨oc48, od48, .func (PySem.W.fnOf "of" "Widths.of" (defArgs s_w_of) (defBody s_w_of) (defScope s_w_of) .none kV48 dc48 pm48 an48 cd48 ct48), sl48⟩)
    (c48 : PySem.W.codeIn K cd48 "Widths.of" = true)
    (k48 : PySem.W.keepIn K (.ref f48) = true)
    (a49 : PySem.W.findCls K (.ref C) (.type "type") "from_width" = some (.get (.builtin "staticmethod.__get__") (.ref p49) .none (.ref C)))
    (r49 : PySem.W.recIn K p49 "staticmethod" = some (.ref f49 :: rest49))
    (l49 : K.lookup f49 = some ⟨oc49, od49, .func (PySem.W.fnOf "from_width" "Widths.from_width" (defArgs s_w_from_width) (defBody s_w_from_width) (defScope s_w_from_width) .none kV49 dc49 pm49 an49 cd49 ct49), sl49⟩)
    (c49 : PySem.W.codeIn K cd49 "Widths.from_width" = true)
    (k49 : PySem.W.keepIn K (.ref f49) = true)
    (a50 : PySem.W.findCls K (.ref C) (.type "type") "multiples" = some (.get (.builtin "staticmethod.__get__") (.ref p50) .none (.ref C)))
    (r50 : PySem.W.recIn K p50 "staticmethod" = some (.ref f50 :: rest50))
    (l50 : K.lookup f50 = some ⟨oc50, od50, .func (PySem.W.fnOf "multiples" "Widths.multiples" (defArgs s_w_multiples) (defBody s_w_multiples) (defScope s_w_multiples) .none kV50 dc50 pm50 an50 cd50 ct50), sl50⟩)
    (c50 : PySem.W.codeIn K cd50 "Widths.multiples" = true)
    (k50 : PySem.W.keepIn K (.ref f50) = true)
    (a51 : PySem.W.findCls K (.ref C) (.type "type") "dividing" = some (.get (.builtin "staticmethod.__get__") (.ref p51) .none (.ref C)))
    (r51 : PySem.W.recIn K p51 "staticmethod" = some (.ref f51 :: rest51))
    (l51 : K.lookup f51 = some ⟨oc51, od51, .func (PySem.W.fnOf "dividing" "Widths.dividing" (defArgs s_w_dividing) (defBody s_w_dividing) (defScope s_w_dividing) .none kV51 dc51 pm51 an51 cd51 ct51), sl51⟩)
    (c51 : PySem.W.codeIn K cd51 "Widths.dividing" = true)
    (k51 : PySem.W.keepIn K (.ref f51) = true)
    (a52 : PySem.W.findCls K (.ref C) (.type "type") "told" = some (.get (.builtin "staticmethod.__get__") (.ref p52) .none (.ref C)))
    (r52 : PySem.W.recIn K p52 "staticmethod" = some (.ref f52 :: rest52))
    (l52 : K.lookup f52 = some ⟨oc52, od52, .func (PySem.W.fnOf "told" "Widths.told" (defArgs s_w_told) (defBody s_w_told) (defScope s_w_told) .none kV52 dc52 pm52 an52 cd52 ct52), sl52⟩)
    (c52 : PySem.W.codeIn K cd52 "Widths.told" = true)
    (k52 : PySem.W.keepIn K (.ref f52) = true)
    (a53 : PySem.W.findCls K (.ref C) (.type "type") "read" = some (.get (.builtin "classmethod.__get__") (.ref p53) .none (.ref C)))
    (r53 : PySem.W.recIn K p53 "classmethod" = some (.ref f53 :: rest53))
    (i53 : PySem.W.fnIn K f53 = true)
    (l53 : K.lookup f53 = some ⟨oc53, od53, .func (PySem.W.fnOf "read" "Widths.read" (defArgs s_w_read) (defBody s_w_read) (defScope s_w_read) .none kV53 dc53 pm53 an53 cd53 ct53), sl53⟩)
    (c53 : PySem.W.codeIn K cd53 "Widths.read" = true)
    (k53 : PySem.W.keepIn K (.ref f53) = true)
    (rdC : PySem.W.readsIn K C (.type "type") = true)
    (gaC : PySem.W.specialIn K (.ref C) "__getattribute__" = some (some (.builtin "type.__getattribute__")))
    (pg : PySem.W.plainGet K C Str.empty = true)
    (hd : PySem.W.hasDictIn K C = true)
    (po : PySem.W.plainOver K C = true)
    (sa : PySem.W.findIn K (.ref C) "__setattr__" = some (some (.builtin "object.__setattr__")))
    (mk : PySem.W.makesIn K C = true)
    (kc : PySem.W.keepIn K (.ref C) = true)
    (sf : PySem.W.selfFirst K C = true)
    (nf : PySem.W.notFirst K C (.ref C) = true)
    (ne : PySem.W.findIn K (.ref C) "__ne__" = some (some (.builtin "object.__ne__")))
    (mo : PySem.W.mroIn K C (.type "object") = some true)
    (ic1 : PySem.W.findIn K (.ref C) "__class__" = some (some (.builtin "object.__class__")))
    (ic2 : PySem.W.specialIn K (.builtin "object.__class__") "__get__" = some (some (.builtin "getset_descriptor.__get__")))
    (ic3 : PySem.W.takesIn K (.builtin "object.__class__") = some true)
    (n_head : PySem.W.findIn K (.ref C) "head" = some none)
    (n_start : PySem.W.findIn K (.ref C) "start" = some none)
    (n_length : PySem.W.findIn K (.ref C) "length" = some none)
    (n_divisors : PySem.W.findIn K (.ref C) "divisors" = some none)
    (g_MOST_LENGTH : PySem.W.nsIn K mainGlobals "MOST_LENGTH" = some (some (.int 5040 t_MOST_LENGTH)))
    (g_MOST_WIDTH : PySem.W.nsIn K mainGlobals "MOST_WIDTH" = some (some (.int 1000 t_MOST_WIDTH)))
    (g_MOST_TOLD : PySem.W.nsIn K mainGlobals "MOST_TOLD" = some (some (.int 100000 t_MOST_TOLD)))
    (g_LONGEST_NUMBER : PySem.W.nsIn K mainGlobals "LONGEST_NUMBER" = some (some (.int 6 t_LONGEST_NUMBER)))
    (z_int : PySem.W.nsIn K mainGlobals "int" = some none)
    (z_bool : PySem.W.nsIn K mainGlobals "bool" = some none)
    (z_str : PySem.W.nsIn K mainGlobals "str" = some none)
    (z_len : PySem.W.nsIn K mainGlobals "len" = some none)
    (z_sum : PySem.W.nsIn K mainGlobals "sum" = some none)
    (z_abs : PySem.W.nsIn K mainGlobals "abs" = some none)
    (z_sorted : PySem.W.nsIn K mainGlobals "sorted" = some none)
    (z_list : PySem.W.nsIn K mainGlobals "list" = some none)
    (z_tuple : PySem.W.nsIn K mainGlobals "tuple" = some none)
    (z_isinstance : PySem.W.nsIn K mainGlobals "isinstance" = some none)
    (z_all : PySem.W.nsIn K mainGlobals "all" = some none)
    (z_set : PySem.W.nsIn K mainGlobals "set" = some none)
    (z_range : PySem.W.nsIn K mainGlobals "range" = some none) :
    ∃ fd : FuncData, (∀ (s : Shared) (v : Value), BindsTo s fd ⟨[v], []⟩ [("_law_script", v)]) ∧ ∀ base : Heap, K.In base → base.Ns mainGlobals mg → FnOk l.prog w K mg base CX0 11 fa fd ["_law_script"] (spLaw K) := by
  have e := hfa.symm.trans (PySem.W.mg_of X G a34)
  cases e
  have T : Txt K mg C := ⟨⟨pg, hd, po, sa⟩, ⟨⟨pg, hd, po, sa⟩, ic1, ic2, ic3, mo, if_pos (beq_self_eq_true _)⟩, n_head, n_start, n_length, n_divisors, PySem.W.mg_of X G aC, ⟨_, PySem.W.mg_of X G g_MOST_LENGTH⟩, ⟨_, PySem.W.mg_of X G g_MOST_WIDTH⟩, ⟨_, PySem.W.mg_of X G g_MOST_TOLD⟩, ⟨_, PySem.W.mg_of X G g_LONGEST_NUMBER⟩, PySem.W.mg_none_of X G z_int, PySem.W.mg_none_of X G z_bool, PySem.W.mg_none_of X G z_str, PySem.W.mg_none_of X G z_len, PySem.W.mg_none_of X G z_sum, PySem.W.mg_none_of X G z_abs, PySem.W.mg_none_of X G z_sorted, PySem.W.mg_none_of X G z_list, PySem.W.mg_none_of X G z_tuple, PySem.W.mg_none_of X G z_isinstance, PySem.W.mg_none_of X G z_all, PySem.W.mg_none_of X G z_set, PySem.W.mg_none_of X G z_range⟩
  have G1 := fun_mk (st := s_is_integer) l1 c1 k1
  have F_is_integer : Fn K mg "is_integer" s_is_integer ["value"] := ⟨_, _, G1, PySem.W.mg_of X G a1, (G1.binds (ps := ["value"]) fun _ _ _ _ _ _ us hl => match us, hl with | [_], _ => rfl)⟩
  have G2 := fun_mk (st := s_is_between) l2 c2 k2
  have F_is_between : Fn K mg "is_between" s_is_between ["value", "low", "high"] := ⟨_, _, G2, PySem.W.mg_of X G a2, (G2.binds (ps := ["value", "low", "high"]) fun _ _ _ _ _ _ us hl => match us, hl with | [_, _, _], _ => rfl)⟩
  have G3 := fun_mk (st := s_gcd) l3 c3 k3
  have F_gcd : Fn K mg "gcd" s_gcd ["one", "other"] := ⟨_, _, G3, PySem.W.mg_of X G a3, (G3.binds (ps := ["one", "other"]) fun _ _ _ _ _ _ us hl => match us, hl with | [_, _], _ => rfl)⟩
  have G4 := fun_mk (st := s_lcm) l4 c4 k4
  have F_lcm : Fn K mg "lcm" s_lcm ["one", "other"] := ⟨_, _, G4, PySem.W.mg_of X G a4, (G4.binds (ps := ["one", "other"]) fun _ _ _ _ _ _ us hl => match us, hl with | [_, _], _ => rfl)⟩
  have G5 := fun_mk (st := s_primes_of) l5 c5 k5
  have F_primes_of : Fn K mg "primes_of" s_primes_of ["number"] := ⟨_, _, G5, PySem.W.mg_of X G a5, (G5.binds (ps := ["number"]) fun _ _ _ _ _ _ us hl => match us, hl with | [_], _ => rfl)⟩
  have G6 := fun_mk (st := s_divisors_of) l6 c6 k6
  have F_divisors_of : Fn K mg "divisors_of" s_divisors_of ["number"] := ⟨_, _, G6, PySem.W.mg_of X G a6, (G6.binds (ps := ["number"]) fun _ _ _ _ _ _ us hl => match us, hl with | [_], _ => rfl)⟩
  have G7 := fun_mk (st := s_coprimes_up_to) l7 c7 k7
  have F_coprimes_up_to : Fn K mg "coprimes_up_to" s_coprimes_up_to ["number", "primes"] := ⟨_, _, G7, PySem.W.mg_of X G a7, (G7.binds (ps := ["number", "primes"]) fun _ _ _ _ _ _ us hl => match us, hl with | [_, _], _ => rfl)⟩
  have G8 := fun_mk (st := s_order_up_to) l8 c8 k8
  have F_order_up_to : Fn K mg "order_up_to" s_order_up_to ["number", "most"] := ⟨_, _, G8, PySem.W.mg_of X G a8, (G8.binds (ps := ["number", "most"]) fun _ _ _ _ _ _ us hl => match us, hl with | [_, _], _ => rfl)⟩
  have G9 := fun_mk (st := s_merged) l9 c9 k9
  have F_merged : Fn K mg "merged" s_merged ["length", "values", "prime"] := ⟨_, _, G9, PySem.W.mg_of X G a9, (G9.binds (ps := ["length", "values", "prime"]) fun _ _ _ _ _ _ us hl => match us, hl with | [_, _, _], _ => rfl)⟩
  have G10 := fun_mk (st := s_least_table) l10 c10 k10
  have F_least_table : Fn K mg "least_table" s_least_table ["length", "values"] := ⟨_, _, G10, PySem.W.mg_of X G a10, (G10.binds (ps := ["length", "values"]) fun _ _ _ _ _ _ us hl => match us, hl with | [_, _], _ => rfl)⟩
  have G11 := fun_mk (st := s_formed) l11 c11 k11
  have F_formed : Fn K mg "formed" s_formed ["head", "start", "length", "divisors"] := ⟨_, _, G11, PySem.W.mg_of X G a11, (G11.binds (ps := ["head", "start", "length", "divisors"]) fun _ _ _ _ _ _ us hl => match us, hl with | [_, _, _, _], _ => rfl)⟩
  have G12 := fun_mk (st := s_first_out_of) l12 c12 k12
  have F_first_out_of : Fn K mg "first_out_of" s_first_out_of ["numbers", "low", "high"] := ⟨_, _, G12, PySem.W.mg_of X G a12, (G12.binds (ps := ["numbers", "low", "high"]) fun _ _ _ _ _ _ us hl => match us, hl with | [_, _, _], _ => rfl)⟩
  have G13 := fun_mk (st := s_is_chosen) l13 c13 k13
  have F_is_chosen : Fn K mg "is_chosen" s_is_chosen ["rule", "is_in_one", "is_in_other"] := ⟨_, _, G13, PySem.W.mg_of X G a13, (G13.binds (ps := ["rule", "is_in_one", "is_in_other"]) fun _ _ _ _ _ _ us hl => match us, hl with | [_, _, _], _ => rfl)⟩
  have G14 := fun_mk (st := s_greater) l14 c14 k14
  have F_greater : Fn K mg "greater" s_greater ["one", "other"] := ⟨_, _, G14, PySem.W.mg_of X G a14, (G14.binds (ps := ["one", "other"]) fun _ _ _ _ _ _ us hl => match us, hl with | [_, _], _ => rfl)⟩
  have G15 := fun_mk (st := s_is_member) l15 c15 k15
  have F_is_member : Fn K mg "is_member" s_is_member ["parts", "x"] := ⟨_, _, G15, PySem.W.mg_of X G a15, (G15.binds (ps := ["parts", "x"]) fun _ _ _ _ _ _ us hl => match us, hl with | [_, _], _ => rfl)⟩
  have G16 := fun_mk (st := s_joined_parts) l16 c16 k16
  have F_joined_parts : Fn K mg "joined_parts" s_joined_parts ["one", "other", "rule"] := ⟨_, _, G16, PySem.W.mg_of X G a16, (G16.binds (ps := ["one", "other", "rule"]) fun _ _ _ _ _ _ us hl => match us, hl with | [_, _, _], _ => rfl)⟩
  have G17 := fun_mk (st := s_joined_sets) l17 c17 k17
  have F_joined_sets : Fn K mg "joined_sets" s_joined_sets ["one", "other", "rule"] := ⟨_, _, G17, PySem.W.mg_of X G a17, (G17.binds (ps := ["one", "other", "rule"]) fun _ _ _ _ _ _ us hl => match us, hl with | [_, _, _], _ => rfl)⟩
  have G18 := fun_mk (st := s_is_nothing) l18 c18 k18
  have F_is_nothing : Fn K mg "is_nothing" s_is_nothing ["one", "other", "rule"] := ⟨_, _, G18, PySem.W.mg_of X G a18, (G18.binds (ps := ["one", "other", "rule"]) fun _ _ _ _ _ _ us hl => match us, hl with | [_, _, _], _ => rfl)⟩
  have G19 := fun_mk (st := s_classes_of) l19 c19 k19
  have F_classes_of : Fn K mg "classes_of" s_classes_of ["length", "divisors"] := ⟨_, _, G19, PySem.W.mg_of X G a19, (G19.binds (ps := ["length", "divisors"]) fun _ _ _ _ _ _ us hl => match us, hl with | [_, _], _ => rfl)⟩
  have G20 := fun_mk (st := s_members_up_to) l20 c20 k20
  have F_members_up_to : Fn K mg "members_up_to" s_members_up_to ["head", "start", "classes", "n"] := ⟨_, _, G20, PySem.W.mg_of X G a20, (G20.binds (ps := ["head", "start", "classes", "n"]) fun _ _ _ _ _ _ us hl => match us, hl with | [_, _, _, _], _ => rfl)⟩
  have G21 := fun_mk (st := s_number_in) l21 c21 k21
  have F_number_in : Fn K mg "number_in" s_number_in ["text"] := ⟨_, _, G21, PySem.W.mg_of X G a21, (G21.binds (ps := ["text"]) fun _ _ _ _ _ _ us hl => match us, hl with | [_], _ => rfl)⟩
  have G22 := fun_mk (st := s_numbers_in) l22 c22 k22
  have F_numbers_in : Fn K mg "numbers_in" s_numbers_in ["text"] := ⟨_, _, G22, PySem.W.mg_of X G a22, (G22.binds (ps := ["text"]) fun _ _ _ _ _ _ us hl => match us, hl with | [_], _ => rfl)⟩
  have G23 := fun_mk (st := s_numbers_text) l23 c23 k23
  have F_numbers_text : Fn K mg "numbers_text" s_numbers_text ["numbers"] := ⟨_, _, G23, PySem.W.mg_of X G a23, (G23.binds (ps := ["numbers"]) fun _ _ _ _ _ _ us hl => match us, hl with | [_], _ => rfl)⟩
  have G24 := fun_mk (st := s__law_pen) l24 c24 k24
  have F__law_pen : Fn K mg "_law_pen" s__law_pen ["_law_script"] := ⟨_, _, G24, PySem.W.mg_of X G a24, (G24.binds (ps := ["_law_script"]) fun _ _ _ _ _ _ us hl => match us, hl with | [_], _ => rfl)⟩
  have G25 := fun_mk (st := s__law_draw) l25 c25 k25
  have F__law_draw : Fn K mg "_law_draw" s__law_draw ["_law_pen_here", "_law_many"] := ⟨_, _, G25, PySem.W.mg_of X G a25, (G25.binds (ps := ["_law_pen_here", "_law_many"]) fun _ _ _ _ _ _ us hl => match us, hl with | [_, _], _ => rfl)⟩
  have G26 := fun_mk (st := s__law_pick) l26 c26 k26
  have F__law_pick : Fn K mg "_law_pick" s__law_pick ["_law_pen_here", "_law_some"] := ⟨_, _, G26, PySem.W.mg_of X G a26, (G26.binds (ps := ["_law_pen_here", "_law_some"]) fun _ _ _ _ _ _ us hl => match us, hl with | [_, _], _ => rfl)⟩
  have G27 := fun_mk (st := s__law_gcd) l27 c27 k27
  have F__law_gcd : Fn K mg "_law_gcd" s__law_gcd ["_law_one", "_law_other"] := ⟨_, _, G27, PySem.W.mg_of X G a27, (G27.binds (ps := ["_law_one", "_law_other"]) fun _ _ _ _ _ _ us hl => match us, hl with | [_, _], _ => rfl)⟩
  have G28 := fun_mk (st := s__law_divisors) l28 c28 k28
  have F__law_divisors : Fn K mg "_law_divisors" s__law_divisors ["_law_amount"] := ⟨_, _, G28, PySem.W.mg_of X G a28, (G28.binds (ps := ["_law_amount"]) fun _ _ _ _ _ _ us hl => match us, hl with | [_], _ => rfl)⟩
  have G29 := fun_mk (st := s__law_leaf) l29 c29 k29
  have F__law_leaf : Fn K mg "_law_leaf" s__law_leaf ["_law_pen_here"] := ⟨_, _, G29, PySem.W.mg_of X G a29, (G29.binds (ps := ["_law_pen_here"]) fun _ _ _ _ _ _ us hl => match us, hl with | [_], _ => rfl)⟩
  have G30 := fun_mk (st := s__law_tree) l30 c30 k30
  have F__law_tree : Fn K mg "_law_tree" s__law_tree ["_law_pen_here", "_law_deep"] := ⟨_, _, G30, PySem.W.mg_of X G a30, (G30.binds (ps := ["_law_pen_here", "_law_deep"]) fun _ _ _ _ _ _ us hl => match us, hl with | [_, _], _ => rfl)⟩
  have G31 := fun_mk (st := s__law_meant) l31 c31 k31
  have F__law_meant : Fn K mg "_law_meant" s__law_meant ["_law_tree_here", "_law_w"] := ⟨_, _, G31, PySem.W.mg_of X G a31, (G31.binds (ps := ["_law_tree_here", "_law_w"]) fun _ _ _ _ _ _ us hl => match us, hl with | [_, _], _ => rfl)⟩
  have G32 := fun_mk (st := s__law_counted_right) l32 c32 k32
  have F__law_counted_right : Fn K mg "_law_counted_right" s__law_counted_right ["_law_pen_here", "_law_made", "_law_truths", "_law_most"] := ⟨_, _, G32, PySem.W.mg_of X G a32, (G32.binds (ps := ["_law_pen_here", "_law_made", "_law_truths", "_law_most"]) fun _ _ _ _ _ _ us hl => match us, hl with | [_, _, _, _], _ => rfl)⟩
  have G33 := fun_mk (st := s__law_least_right) l33 c33 k33
  have F__law_least_right : Fn K mg "_law_least_right" s__law_least_right ["_law_made", "_law_truths"] := ⟨_, _, G33, PySem.W.mg_of X G a33, (G33.binds (ps := ["_law_made", "_law_truths"]) fun _ _ _ _ _ _ us hl => match us, hl with | [_, _], _ => rfl)⟩
  have G34 := fun_mk (st := s_law) l34 c34 k34
  have G35 := fun_mk (st := s_w_init) l35 c35 k35
  have F_w_init : Fm K C "__init__" "Widths.__init__" s_w_init ["self", "head", "start", "length", "divisors"] := ⟨_, _, G35, ⟨a35, i35, k35⟩, (G35.binds (ps := ["self", "head", "start", "length", "divisors"]) fun _ _ _ _ _ _ us hl => match us, hl with | [_, _, _, _, _], _ => rfl)⟩
  have G36 := fun_mk (st := s_w_contains) l36 c36 k36
  have F_w_contains : Fm K C "__contains__" "Widths.__contains__" s_w_contains ["self", "x"] := ⟨_, _, G36, ⟨a36, i36, k36⟩, (G36.binds (ps := ["self", "x"]) fun _ _ _ _ _ _ us hl => match us, hl with | [_, _], _ => rfl)⟩
  have G37 := fun_mk (st := s_w_described) l37 c37 k37
  have F_w_described : Fm K C "described" "Widths.described" s_w_described ["self"] := ⟨_, _, G37, ⟨a37, i37, k37⟩, (G37.binds (ps := ["self"]) fun _ _ _ _ _ _ us hl => match us, hl with | [_], _ => rfl)⟩
  have G38 := fun_mk (st := s_w_and) l38 c38 k38
  have F_w_and : Fm K C "__and__" "Widths.__and__" s_w_and ["self", "other"] := ⟨_, _, G38, ⟨a38, i38, k38⟩, (G38.binds (ps := ["self", "other"]) fun _ _ _ _ _ _ us hl => match us, hl with | [_, _], _ => rfl)⟩
  have G39 := fun_mk (st := s_w_or) l39 c39 k39
  have F_w_or : Fm K C "__or__" "Widths.__or__" s_w_or ["self", "other"] := ⟨_, _, G39, ⟨a39, i39, k39⟩, (G39.binds (ps := ["self", "other"]) fun _ _ _ _ _ _ us hl => match us, hl with | [_, _], _ => rfl)⟩
  have G40 := fun_mk (st := s_w_sub) l40 c40 k40
  have F_w_sub : Fm K C "__sub__" "Widths.__sub__" s_w_sub ["self", "other"] := ⟨_, _, G40, ⟨a40, i40, k40⟩, (G40.binds (ps := ["self", "other"]) fun _ _ _ _ _ _ us hl => match us, hl with | [_, _], _ => rfl)⟩
  have G41 := fun_mk (st := s_w_xor) l41 c41 k41
  have F_w_xor : Fm K C "__xor__" "Widths.__xor__" s_w_xor ["self", "other"] := ⟨_, _, G41, ⟨a41, i41, k41⟩, (G41.binds (ps := ["self", "other"]) fun _ _ _ _ _ _ us hl => match us, hl with | [_, _], _ => rfl)⟩
  have G42 := fun_mk (st := s_w_invert) l42 c42 k42
  have F_w_invert : Fm K C "__invert__" "Widths.__invert__" s_w_invert ["self"] := ⟨_, _, G42, ⟨a42, i42, k42⟩, (G42.binds (ps := ["self"]) fun _ _ _ _ _ _ us hl => match us, hl with | [_], _ => rfl)⟩
  have G43 := fun_mk (st := s_w_le) l43 c43 k43
  have F_w_le : Fm K C "__le__" "Widths.__le__" s_w_le ["self", "other"] := ⟨_, _, G43, ⟨a43, i43, k43⟩, (G43.binds (ps := ["self", "other"]) fun _ _ _ _ _ _ us hl => match us, hl with | [_, _], _ => rfl)⟩
  have G44 := fun_mk (st := s_w_eq) l44 c44 k44
  have F_w_eq : Fm K C "__eq__" "Widths.__eq__" s_w_eq ["self", "other"] := ⟨_, _, G44, ⟨a44, i44, k44⟩, (G44.binds (ps := ["self", "other"]) fun _ _ _ _ _ _ us hl => match us, hl with | [_, _], _ => rfl)⟩
  have G45 := fun_mk (st := s_w_str) l45 c45 k45
  have F_w_str : Fm K C "__str__" "Widths.__str__" s_w_str ["self"] := ⟨_, _, G45, ⟨a45, i45, k45⟩, (G45.binds (ps := ["self"]) fun _ _ _ _ _ _ us hl => match us, hl with | [_], _ => rfl)⟩
  have G46 := fun_mk (st := s_w_up_to) l46 c46 k46
  have F_w_up_to : Fm K C "up_to" "Widths.up_to" s_w_up_to ["self", "n"] := ⟨_, _, G46, ⟨a46, i46, k46⟩, (G46.binds (ps := ["self", "n"]) fun _ _ _ _ _ _ us hl => match us, hl with | [_, _], _ => rfl)⟩
  have G47 := fun_mk (st := s_w_kth) l47 c47 k47
  have F_w_kth : Fm K C "kth" "Widths.kth" s_w_kth ["self", "k"] := ⟨_, _, G47, ⟨a47, i47, k47⟩, (G47.binds (ps := ["self", "k"]) fun _ _ _ _ _ _ us hl => match us, hl with | [_, _], _ => rfl)⟩
  have CR : ClX.CRead K C (.type "type") := ⟨rdC, gaC⟩
  have G48 := fun_mk (st := s_w_of) l48 c48 k48
  have F_w_of : Fss K C "of" "Widths.of" s_w_of "widths" := ⟨⟨_, _, _, _, _, G48, CR, a48, r48⟩, fun _ _ _ _ _ _ rest => match rest with | [] => rfl | _ :: _ => rfl⟩
  have G49 := fun_mk (st := s_w_from_width) l49 c49 k49
  have F_w_from_width : Fs K C "from_width" "Widths.from_width" s_w_from_width ["w"] := ⟨_, _, _, _, _, G49, CR, a49, r49, (G49.binds (ps := ["w"]) fun _ _ _ _ _ _ us hl => match us, hl with | [_], _ => rfl)⟩
  have G50 := fun_mk (st := s_w_multiples) l50 c50 k50
  have F_w_multiples : Fs K C "multiples" "Widths.multiples" s_w_multiples ["k"] := ⟨_, _, _, _, _, G50, CR, a50, r50, (G50.binds (ps := ["k"]) fun _ _ _ _ _ _ us hl => match us, hl with | [_], _ => rfl)⟩
  have G51 := fun_mk (st := s_w_dividing) l51 c51 k51
  have F_w_dividing : Fs K C "dividing" "Widths.dividing" s_w_dividing ["q"] := ⟨_, _, _, _, _, G51, CR, a51, r51, (G51.binds (ps := ["q"]) fun _ _ _ _ _ _ us hl => match us, hl with | [_], _ => rfl)⟩
  have G52 := fun_mk (st := s_w_told) l52 c52 k52
  have F_w_told : Fs K C "told" "Widths.told" s_w_told ["head", "start", "length", "divisors"] := ⟨_, _, _, _, _, G52, CR, a52, r52, (G52.binds (ps := ["head", "start", "length", "divisors"]) fun _ _ _ _ _ _ us hl => match us, hl with | [_, _, _, _], _ => rfl)⟩
  have G53 := fun_mk (st := s_w_read) l53 c53 k53
  have F_w_read : Fc K C "read" "Widths.read" s_w_read ["cls", "text"] := ⟨_, _, _, _, G53, CR, ⟨a53, ⟨_, r53⟩, i53⟩, (G53.binds (ps := ["cls", "text"]) fun _ _ _ _ _ _ us hl => match us, hl with | [_, _], _ => rfl)⟩
  refine ⟨PySem.W.fnOf "law" "law" (defArgs s_law) (defBody s_law) (defScope s_law) .none kV34 dc34 pm34 an34 cd34 ct34, fun s v => .of_eq rfl, fun base _ _ => ?_⟩
  have c_is_integer : Cl l.prog w K mg base 1 "is_integer" spInt := k_is_integer T F_is_integer
  have c_is_between : Cl l.prog w K mg base 2 "is_between" spBetween := k_is_between c_is_integer F_is_between
  have c_gcd : Cl l.prog w K mg base 1 "gcd" spGcd := k_gcd F_gcd
  have c_lcm : Cl l.prog w K mg base 2 "lcm" spLcm := k_lcm c_gcd F_lcm
  have c_primes_of : Cl l.prog w K mg base 1 "primes_of" spPrimes := k_primes_of F_primes_of
  have c_divisors_of : Cl l.prog w K mg base 2 "divisors_of" spDivisors := k_divisors_of T c_primes_of F_divisors_of
  have c_cop : Cl l.prog w K mg base 1 "coprimes_up_to" (spCop K) := k_coprimes_up_to T F_coprimes_up_to
  have c_order : Cl l.prog w K mg base 1 "order_up_to" spOrder := k_order_up_to F_order_up_to
  have c_merged : Cl l.prog w K mg base 2 "merged" spMerged := k_merged c_gcd F_merged
  have c_least : Cl l.prog w K mg base 3 "least_table" (spLeast K) := k_least_table c_primes_of c_merged F_least_table
  obtain ⟨fi, hfi, mfi⟩ := k_init (P := l.prog) (w := w) (mg := mg) (base := base) T F_w_init
  have c_make : Mk' l.prog w K mg base 1 "Widths" C (spInit C) := ⟨fi, hfi, ⟨mk, mfi.at_, mfi.fn, kc⟩, PySem.W.mg_of X G aC⟩
  have c_formed : Cl l.prog w K mg base 4 "formed" (spFormed K C) := k_formed T c_gcd c_divisors_of c_least c_make F_formed
  have c_first : Cl l.prog w K mg base 3 "first_out_of" (spFirst K) := k_first_out_of c_is_between F_first_out_of
  have c_chosen : Cl l.prog w K mg base 1 "is_chosen" spChosen := k_is_chosen F_is_chosen
  have c_greater : Cl l.prog w K mg base 1 "greater" spGreater := k_greater F_greater
  have c_member : Cl l.prog w K mg base 2 "is_member" (spMember K) := k_is_member c_gcd F_is_member
  have c_jp : Cl l.prog w K mg base 3 "joined_parts" (spJParts K) := k_joined_parts T c_greater c_lcm c_chosen c_member c_divisors_of c_gcd F_joined_parts
  have c_js : Cl l.prog w K mg base 5 "joined_sets" (spJSets K C) := k_joined_sets c_jp c_formed F_joined_sets
  have c_nothing : Cl l.prog w K mg base 4 "is_nothing" (spNothing K) := k_is_nothing T c_jp F_is_nothing
  have c_classes : Cl l.prog w K mg base 2 "classes_of" (spClasses K) := k_classes_of c_primes_of F_classes_of
  have c_mup : Cl l.prog w K mg base 2 "members_up_to" (spUpTo' K) := k_members_up_to T c_cop F_members_up_to
  have c_nin : Cl l.prog w K mg base 1 "number_in" spNum := k_number_in T F_number_in
  have c_nsin : Cl l.prog w K mg base 2 "numbers_in" spNums := k_numbers_in T c_nin F_numbers_in
  have c_nt : Cl l.prog w K mg base 1 "numbers_text" (spNText K) := k_numbers_text T F_numbers_text
  have c_descr : Mt l.prog w K mg base 1 C "described" (spDescr K C) := k_described T F_w_described
  have c_of : Sm l.prog w K mg base 5 C "of" (spOf K C) := k_of T c_first c_greater c_formed F_w_of
  have c_frm : Sm l.prog w K mg base 4 C "from_width" (spFrm K C) := k_from_width T c_first c_make F_w_from_width
  have c_mul : Sm l.prog w K mg base 3 C "multiples" (spMul K C) := k_multiples T c_is_integer c_make F_w_multiples
  have c_dvd : Sm l.prog w K mg base 3 C "dividing" (spDvd K C) := k_dividing T c_is_integer c_order c_make F_w_dividing
  have c_told : Sm l.prog w K mg base 5 C "told" (spTold K C) := k_told T c_first c_is_between c_formed F_w_told
  obtain ⟨gc, hgc, mgc⟩ := k_contains (P := l.prog) (w := w) (mg := mg) (base := base) T c_is_integer c_member c_descr F_w_contains
  have o_cont : OpU l.prog w K mg base 3 C "__contains__" (spCont K C) := ⟨gc, mgc.at_, mgc.fn, hgc⟩
  obtain ⟨ga, hga, mga⟩ := k_and (P := l.prog) (w := w) (mg := mg) (base := base) T c_js c_descr F_w_and
  have o_and : OpB l.prog w K mg base 6 C .BitAnd (spBin K C "both") := ⟨ga, sf, mga.at_, mga.fn, hga⟩
  obtain ⟨go, hgo, mgo⟩ := k_or (P := l.prog) (w := w) (mg := mg) (base := base) T c_js c_descr F_w_or
  have o_or : OpB l.prog w K mg base 6 C .BitOr (spBin K C "either") := ⟨go, sf, mgo.at_, mgo.fn, hgo⟩
  obtain ⟨gs, hgs, mgs⟩ := k_sub (P := l.prog) (w := w) (mg := mg) (base := base) T c_js c_descr F_w_sub
  have o_sub : OpB l.prog w K mg base 6 C .Sub (spBin K C "first") := ⟨gs, sf, mgs.at_, mgs.fn, hgs⟩
  obtain ⟨gx, hgx, mgx⟩ := k_xor (P := l.prog) (w := w) (mg := mg) (base := base) T c_js c_descr F_w_xor
  have o_xor : OpB l.prog w K mg base 6 C .BitXor (spBin K C "one") := ⟨gx, sf, mgx.at_, mgx.fn, hgx⟩
  obtain ⟨gi, hgi, mgi⟩ := k_invert (P := l.prog) (w := w) (mg := mg) (base := base) T c_js c_descr F_w_invert
  have o_inv : OpU l.prog w K mg base 6 C "__invert__" (spInv K C) := ⟨gi, mgi.at_, mgi.fn, hgi⟩
  obtain ⟨gl, hgl, mgl⟩ := k_le (P := l.prog) (w := w) (mg := mg) (base := base) T c_nothing c_descr F_w_le
  have o_le : OpC l.prog w K mg base 5 C .LtE (spLe K C) := ⟨⟨gl, nf, mgl.at_, mgl.fn, hgl⟩, fun _ _ => rfl⟩
  obtain ⟨ge, hge, mge⟩ := k_eq (P := l.prog) (w := w) (mg := mg) (base := base) T c_descr F_w_eq
  have o_ne : OpN l.prog w K mg base 2 C (spEq K C) := ⟨ge, nf, ne, mo, mge.at_, mge.fn, hge⟩
  obtain ⟨gt, hgt, mgt⟩ := k_str (P := l.prog) (w := w) (mg := mg) (base := base) T c_nt F_w_str
  have o_str : OpU l.prog w K mg base 2 C "__str__" (spStr K C) := ⟨gt, mgt.at_, mgt.fn, hgt⟩
  have c_up : Mt l.prog w K mg base 3 C "up_to" (spUp K C) := k_up_to T c_is_integer c_mup c_classes F_w_up_to
  have c_kth : Mt l.prog w K mg base 3 C "kth" (spKth K C) := k_kth T c_is_integer c_mup c_classes F_w_kth
  have c_read : Cm l.prog w K mg base 5 C "read" (spRead K C) := k_read T c_nsin c_is_between c_formed o_str F_w_read
  have d_pen : Cl l.prog w K mg base 1 "_law_pen" (spPen K) := k__law_pen T F__law_pen
  have d_draw : Cl l.prog w K mg base 1 "_law_draw" (spDraw K) := k__law_draw T F__law_draw
  have d_pick : Cl l.prog w K mg base 2 "_law_pick" (spPick K) := k__law_pick T d_draw F__law_pick
  have d_gcd : Cl l.prog w K mg base 1 "_law_gcd" spGcd := k__law_gcd T F__law_gcd
  have d_div : Cl l.prog w K mg base 1 "_law_divisors" spLDiv := k__law_divisors T F__law_divisors
  have d_leaf : Cl l.prog w K mg base 6 "_law_leaf" (spLeaf K C) := k__law_leaf T d_draw d_pick d_div c_of c_frm c_mul c_dvd c_told F__law_leaf
  have t0 : Cl l.prog w K mg base 6 "_law_tree" (spTree K C 0) := F__law_tree.cl0 fun vs H Q E h => let ⟨_, _, _, _, _, _, h, _⟩ := h; absurd h (Nat.not_lt_zero _)
  have t1 : Cl l.prog w K mg base 7 "_law_tree" (spTree K C 1) := k__law_tree 0 T d_draw d_leaf t0 o_and o_or o_sub o_xor o_inv F__law_tree
  have t2 : Cl l.prog w K mg base 8 "_law_tree" (spTree K C 2) := k__law_tree 1 T d_draw d_leaf t1 o_and o_or o_sub o_xor o_inv F__law_tree
  have t3 : Cl l.prog w K mg base 9 "_law_tree" (spTree K C 3) := k__law_tree 2 T d_draw d_leaf t2 o_and o_or o_sub o_xor o_inv F__law_tree
  have t4 : Cl l.prog w K mg base 10 "_law_tree" (spTree K C 4) := k__law_tree 3 T d_draw d_leaf t3 o_and o_or o_sub o_xor o_inv F__law_tree
  have m0 : Cl l.prog w K mg base 1 "_law_meant" (spMeant K 0) := F__law_meant.cl0 fun vs H Q E h => let ⟨_, _, _, _, _, _, h, _⟩ := h; absurd h (Nat.not_lt_zero _)
  have m1 : Cl l.prog w K mg base 2 "_law_meant" (spMeant K 1) := k__law_meant 0 T d_gcd m0 F__law_meant
  have m2 : Cl l.prog w K mg base 3 "_law_meant" (spMeant K 2) := k__law_meant 1 T d_gcd m1 F__law_meant
  have m3 : Cl l.prog w K mg base 4 "_law_meant" (spMeant K 3) := k__law_meant 2 T d_gcd m2 F__law_meant
  have m4 : Cl l.prog w K mg base 5 "_law_meant" (spMeant K 4) := k__law_meant 3 T d_gcd m3 F__law_meant
  have d_cnt : Cl l.prog w K mg base 4 "_law_counted_right" (spCounted K C) := k__law_counted_right T d_draw c_up c_kth F__law_counted_right
  have d_lst : Cl l.prog w K mg base 2 "_law_least_right" (spLeastR K C) := k__law_least_right T d_gcd d_div F__law_least_right
  exact k_law T d_pen t4 m4 d_pick d_div d_cnt d_lst c_told c_read o_str o_cont o_ne o_le o_and o_or o_sub G34
theorem walk {l : PySem.W.OpenLaw} {q : Program} {loose : List Str} {XP : (Str → Option Value) → Heap → Prop} {YP : World → Heap → Prop} {d : DefRec} {K : Params → PySem.W.Frag} (hn : l.most = some 63) (hdf : d.params.defaults = [])
    (hY : ∀ (w : World) (h : Heap), YP w h → (K w.params).In h)
    (F : ∀ (w : World) (mg : Str → Option Value) (fa : Addr) (h : Heap), (K w.params).In h → h.Ns mainGlobals mg → mg d.name = some (.ref fa) →
      ∃ fd : FuncData, (∀ (s : Shared) (u : Value), BindsTo s fd ⟨[u], []⟩ [("_law_script", u)]) ∧ ∀ base : Heap, (K w.params).In base → base.Ns mainGlobals mg → FnOk l.prog w (K w.params) mg base CX0 11 fa fd ["_law_script"] (spLaw (K w.params))) :
    PySem.W.WalkO q loose XP YP l.row.toRowW d [] (fun f vs => PySem.call f vs) :=
  L2.walk_of (n := 63) (k := 11) (x := "_law_script") (CX := fun _ => CX0) (sp := fun w => spLaw (K w.params)) hn (by decide) hdf ⟨rfl, by decide, by decide⟩ hY F (fun _ _ a ns hl _ hS => ⟨a, ns, rfl, hS, fun _ _ => rfl⟩) fun _ _ _ _ _ z => z
end K53
open PySem PySem.W PyProof.Rows in
set_option maxRecDepth 100000 in
set_option maxHeartbeats 0 in
theorem PySem.Challenge.cw_twozeros_k53_whole_sets_by_meaning_holds : PySem.Challenge.rw_twozeros_k53_whole_sets_by_meaning.Holds := by
  w_on; o_law; k_head; (case hw => w_witness2)
  k_fill
  refine K53.walk (l := PySem.Challenge.rw_twozeros_k53_whole_sets_by_meaning) rfl rfl (fun w h Y => PySem.W.kIn_of Y) ?F
  case F =>
    intro w mg fa h KX G hmg
    refine' K53.all_mk KX G hmg ?aC ?a1 ?l1 ?c1 ?k1 ?a2 ?l2 ?c2 ?k2 ?a3 ?l3 ?c3 ?k3 ?a4 ?l4 ?c4 ?k4 ?a5 ?l5 ?c5 ?k5 ?a6 ?l6 ?c6 ?k6 ?a7 ?l7 ?c7 ?k7 ?a8 ?l8 ?c8 ?k8 ?a9 ?l9 ?c9 ?k9 ?a10 ?l10 ?c10 ?k10 ?a11 ?l11 ?c11 ?k11 ?a12 ?l12 ?c12 ?k12 ?a13 ?l13 ?c13 ?k13 ?a14 ?l14 ?c14 ?k14 ?a15 ?l15 ?c15 ?k15 ?a16 ?l16 ?c16 ?k16 ?a17 ?l17 ?c17 ?k17 ?a18 ?l18 ?c18 ?k18 ?a19 ?l19 ?c19 ?k19 ?a20 ?l20 ?c20 ?k20 ?a21 ?l21 ?c21 ?k21 ?a22 ?l22 ?c22 ?k22 ?a23 ?l23 ?c23 ?k23 ?a24 ?l24 ?c24 ?k24 ?a25 ?l25 ?c25 ?k25 ?a26 ?l26 ?c26 ?k26 ?a27 ?l27 ?c27 ?k27 ?a28 ?l28 ?c28 ?k28 ?a29 ?l29 ?c29 ?k29 ?a30 ?l30 ?c30 ?k30 ?a31 ?l31 ?c31 ?k31 ?a32 ?l32 ?c32 ?k32 ?a33 ?l33 ?c33 ?k33 ?a34 ?l34 ?c34 ?k34 ?a35 ?i35 ?l35 ?c35 ?k35 ?a36 ?i36 ?l36 ?c36 ?k36 ?a37 ?i37 ?l37 ?c37 ?k37 ?a38 ?i38 ?l38 ?c38 ?k38 ?a39 ?i39 ?l39 ?c39 ?k39 ?a40 ?i40 ?l40 ?c40 ?k40 ?a41 ?i41 ?l41 ?c41 ?k41 ?a42 ?i42 ?l42 ?c42 ?k42 ?a43 ?i43 ?l43 ?c43 ?k43 ?a44 ?i44 ?l44 ?c44 ?k44 ?a45 ?i45 ?l45 ?c45 ?k45 ?a46 ?i46 ?l46 ?c46 ?k46 ?a47 ?i47 ?l47 ?c47 ?k47 ?a48 ?r48 ?l48 ?c48 ?k48 ?a49 ?r49 ?l49 ?c49 ?k49 ?a50 ?r50 ?l50 ?c50 ?k50 ?a51 ?r51 ?l51 ?c51 ?k51 ?a52 ?r52 ?l52 ?c52 ?k52 ?a53 ?r53 ?i53 ?l53 ?c53 ?k53 ?rdC ?gaC ?pg ?hd ?po ?sa ?mk ?kc ?sf ?nf ?ne ?mo ?ic1 ?ic2 ?ic3 ?n_head ?n_start ?n_length ?n_divisors ?g_MOST_LENGTH ?g_MOST_WIDTH ?g_MOST_TOLD ?g_LONGEST_NUMBER ?z_int ?z_bool ?z_str ?z_len ?z_sum ?z_abs ?z_sorted ?z_list ?z_tuple ?z_isinstance ?z_all ?z_set ?z_range
    (case aC => k_is)
    (case a1 => k_is)
    (case l1 => k_is)
    (case c1 => k_is)
    (case k1 => k_is)
    (case a2 => k_is)
    (case l2 => k_is)
    (case c2 => k_is)
    (case k2 => k_is)
    (case a3 => k_is)
    (case l3 => k_is)
    (case c3 => k_is)
    (case k3 => k_is)
    (case a4 => k_is)
    (case l4 => k_is)
    (case c4 => k_is)
    (case k4 => k_is)
    (case a5 => k_is)
    (case l5 => k_is)
    (case c5 => k_is)
    (case k5 => k_is)
    (case a6 => k_is)
    (case l6 => k_is)
    (case c6 => k_is)
    (case k6 => k_is)
    (case a7 => k_is)
    (case l7 => k_is)
    (case c7 => k_is)
    (case k7 => k_is)
    (case a8 => k_is)
    (case l8 => k_is)
    (case c8 => k_is)
    (case k8 => k_is)
    (case a9 => k_is)
    (case l9 => k_is)
    (case c9 => k_is)
    (case k9 => k_is)
    (case a10 => k_is)
    (case l10 => k_is)
    (case c10 => k_is)
    (case k10 => k_is)
    (case a11 => k_is)
    (case l11 => k_is)
    (case c11 => k_is)
    (case k11 => k_is)
    (case a12 => k_is)
    (case l12 => k_is)
    (case c12 => k_is)
    (case k12 => k_is)
    (case a13 => k_is)
    (case l13 => k_is)
    (case c13 => k_is)
    (case k13 => k_is)
    (case a14 => k_is)
    (case l14 => k_is)
    (case c14 => k_is)
    (case k14 => k_is)
    (case a15 => k_is)
    (case l15 => k_is)
    (case c15 => k_is)
    (case k15 => k_is)
    (case a16 => k_is)
    (case l16 => k_is)
    (case c16 => k_is)
    (case k16 => k_is)
    (case a17 => k_is)
    (case l17 => k_is)
    (case c17 => k_is)
    (case k17 => k_is)
    (case a18 => k_is)
    (case l18 => k_is)
    (case c18 => k_is)
    (case k18 => k_is)
    (case a19 => k_is)
    (case l19 => k_is)
    (case c19 => k_is)
    (case k19 => k_is)
    (case a20 => k_is)
    (case l20 => k_is)
    (case c20 => k_is)
    (case k20 => k_is)
    (case a21 => k_is)
    (case l21 => k_is)
    (case c21 => k_is)
    (case k21 => k_is)
    (case a22 => k_is)
    (case l22 => k_is)
    (case c22 => k_is)
    (case k22 => k_is)
    (case a23 => k_is)
    (case l23 => k_is)
    (case c23 => k_is)
    (case k23 => k_is)
    (case a24 => k_is)
    (case l24 => k_is)
    (case c24 => k_is)
    (case k24 => k_is)
    (case a25 => k_is)
    (case l25 => k_is)
    (case c25 => k_is)
    (case k25 => k_is)
    (case a26 => k_is)
    (case l26 => k_is)
    (case c26 => k_is)
    (case k26 => k_is)
    (case a27 => k_is)
    (case l27 => k_is)
    (case c27 => k_is)
    (case k27 => k_is)
    (case a28 => k_is)
    (case l28 => k_is)
    (case c28 => k_is)
    (case k28 => k_is)
    (case a29 => k_is)
    (case l29 => k_is)
    (case c29 => k_is)
    (case k29 => k_is)
    (case a30 => k_is)
    (case l30 => k_is)
    (case c30 => k_is)
    (case k30 => k_is)
    (case a31 => k_is)
    (case l31 => k_is)
    (case c31 => k_is)
    (case k31 => k_is)
    (case a32 => k_is)
    (case l32 => k_is)
    (case c32 => k_is)
    (case k32 => k_is)
    (case a33 => k_is)
    (case l33 => k_is)
    (case c33 => k_is)
    (case k33 => k_is)
    (case a34 => k_is)
    (case l34 => k_is)
    (case c34 => k_is)
    (case k34 => k_is)
    (case a35 => k_is)
    (case i35 => k_is)
    (case l35 => k_is)
    (case c35 => k_is)
    (case k35 => k_is)
    (case a36 => k_is)
    (case i36 => k_is)
    (case l36 => k_is)
    (case c36 => k_is)
    (case k36 => k_is)
    (case a37 => k_is)
    (case i37 => k_is)
    (case l37 => k_is)
    (case c37 => k_is)
    (case k37 => k_is)
    (case a38 => k_is)
    (case i38 => k_is)
    (case l38 => k_is)
    (case c38 => k_is)
    (case k38 => k_is)
    (case a39 => k_is)
    (case i39 => k_is)
    (case l39 => k_is)
    (case c39 => k_is)
    (case k39 => k_is)
    (case a40 => k_is)
    (case i40 => k_is)
    (case l40 => k_is)
    (case c40 => k_is)
    (case k40 => k_is)
    (case a41 => k_is)
    (case i41 => k_is)
    (case l41 => k_is)
    (case c41 => k_is)
    (case k41 => k_is)
    (case a42 => k_is)
    (case i42 => k_is)
    (case l42 => k_is)
    (case c42 => k_is)
    (case k42 => k_is)
    (case a43 => k_is)
    (case i43 => k_is)
    (case l43 => k_is)
    (case c43 => k_is)
    (case k43 => k_is)
    (case a44 => k_is)
    (case i44 => k_is)
    (case l44 => k_is)
    (case c44 => k_is)
    (case k44 => k_is)
    (case a45 => k_is)
    (case i45 => k_is)
    (case l45 => k_is)
    (case c45 => k_is)
    (case k45 => k_is)
    (case a46 => k_is)
    (case i46 => k_is)
    (case l46 => k_is)
    (case c46 => k_is)
    (case k46 => k_is)
    (case a47 => k_is)
    (case i47 => k_is)
    (case l47 => k_is)
    (case c47 => k_is)
    (case k47 => k_is)
    (case a48 => k_is)
    (case r48 => k_is)
    (case l48 => k_is)
    (case c48 => k_is)
    (case k48 => k_is)
    (case a49 => k_is)
    (case r49 => k_is)
    (case l49 => k_is)
    (case c49 => k_is)
    (case k49 => k_is)
    (case a50 => k_is)
    (case r50 => k_is)
    (case l50 => k_is)
    (case c50 => k_is)
    (case k50 => k_is)
    (case a51 => k_is)
    (case r51 => k_is)
    (case l51 => k_is)
    (case c51 => k_is)
    (case k51 => k_is)
    (case a52 => k_is)
    (case r52 => k_is)
    (case l52 => k_is)
    (case c52 => k_is)
    (case k52 => k_is)
    (case a53 => k_is)
    (case r53 => k_is)
    (case i53 => k_is)
    (case l53 => k_is)
    (case c53 => k_is)
    (case k53 => k_is)
    (case rdC => k_is)
    (case gaC => k_is)
    (case pg => k_is)
    (case hd => k_is)
    (case po => k_is)
    (case sa => k_is)
    (case mk => k_is)
    (case kc => k_is)
    (case sf => k_is)
    (case nf => k_is)
    (case ne => k_is)
    (case mo => k_is)
    (case ic1 => k_is)
    (case ic2 => k_is)
    (case ic3 => k_is)
    (case n_head => k_is)
    (case n_start => k_is)
    (case n_length => k_is)
    (case n_divisors => k_is)
    (case g_MOST_LENGTH => k_is)
    (case g_MOST_WIDTH => k_is)
    (case g_MOST_TOLD => k_is)
    (case g_LONGEST_NUMBER => k_is)
    (case z_int => k_is)
    (case z_bool => k_is)
    (case z_str => k_is)
    (case z_len => k_is)
    (case z_sum => k_is)
    (case z_abs => k_is)
    (case z_sorted => k_is)
    (case z_list => k_is)
    (case z_tuple => k_is)
    (case z_isinstance => k_is)
    (case z_all => k_is)
    (case z_set => k_is)
    (case z_range => k_is)
