import PyProof.Rows.All
import Wide.All
import OpenK.AllK
import Wide.FinOn
import KE.KDictZip
import KE.SortKeyHeap
import HandS.ForMost
import HandS.Codes
import HandS.IsInst
import HandS.SlotsOwn
import HandS.DeepEq
import HandS.DictComp
import HandS.Lambda
import HandS.Nested
import PyProof.InstNe
import KE.SortUse
import KE.KStateDown
import Lean
import HandS.Head0
import HandS.Head1
import HandS.Head2
import HandS.HeadEnd
import HandS.HeadHook1
import HandS.HeadHook2
import HandS.HeadHook3
import HandS.HeadHook4
import HandS.HeadWalk
import HandS.Words
import HandS.Defaults
import PySem.Challenge.RW_slotwraps_k57_whole_maps_with_unlike_cou
import HandS.Conv
import HandS.SortInts
import HandS.SetFor
import HandS.TryOnly
import HandS.Style
import HandS.WideBits
import HandS.NoneIn
import HandS.Zip0
import HandS.Walk
import HandS.Wide
set_option Elab.async false
set_option linter.all false
set_option maxRecDepth 100000
set_option maxHeartbeats 0
/-! Own rules: an instance's `in`, len, item, ==, != by its own methods; dicts compared by data; dict(zip(..)). -/
namespace Sw
open PySem PySem.Spec PyProof.Rows L2
section
variable {X : Cx} {pins : List (Addr × Obj)} {σ : L2.St} {H : Hp} {s : Shared} {k : Nat} {f : Addr} {fd : FuncData} {ps : List Str} {sp : Sp} {us : List Value} {vs : List V} {Q : VK}
/-- a def called at X.A.in1 -/
theorem run_in1 (F : FnOk X.prog X.w X.K X.mg X.base L2.CX0 k f fd ps sp) (hr : Room (k + 1) X.A) (hb : L2.Binds X.K fd ps []) (I : Inv X pins σ H s) (r : Vals vs us) (h : sp vs H Q L2.E0) :
    wpAny (model X.prog X.w) X.A.in1 (call (.ref f) us) (EP X pins σ Q) X.xe s := by
  have hl : us.length = ps.length := by rw [← r.length]; exact F.len _ _ _ _ h
  refine wpAny_call (codeAny_mono (F.run X.A.in1 X.stack s H ⟨us, []⟩ us vs Q L2.E0 hr.in1 I.env0.in1 (by simpa using hb s us I.kIn (by simpa using hl)) r h) fun r s' hq => ?_)
  cases r with
  | error e => exact (show False from hq).elim
  | ok fl =>
    cases fl with
    | ret u => exact I.after hq
    | next => exact False.elim hq
    | brk => exact False.elim hq
    | cont => exact False.elim hq
theorem run_in0 (F : FnOk X.prog X.w X.K X.mg X.base L2.CX0 k f fd ps sp) (hr : Room k X.A) (hb : L2.Binds X.K fd ps []) (I : Inv X pins σ H s) (r : Vals vs us) (h : sp vs H Q L2.E0) :
    wpAny (model X.prog X.w) X.A (call (.ref f) us) (EP X pins σ Q) X.xe s :=
  run_fn F hr hb .nil L2.pass0 I r (by rw [List.append_nil]; exact h)
end
/-- a method without defaults -/
structure Mt (P : Program) (w : World) (K : PySem.W.Frag) (mg : Str → Option Value) (base : Heap) (k : Nat) (C : Addr) (m : Str) (sp : Sp) : Prop where
  ex : ∃ (f : Addr) (fd : FuncData) (ps : List Str), Cls K C ∧ Meth K C m f ∧ FnOk P w K mg base L2.CX0 k f fd ps sp ∧ L2.Binds K fd ps []
/-- a def without defaults, by its name -/
structure Cl (P : Program) (w : World) (K : PySem.W.Frag) (mg : Str → Option Value) (base : Heap) (k : Nat) (x : Str) (sp : Sp) : Prop where
  ex : ∃ (f : Addr) (fd : FuncData) (ps : List Str), FnOk P w K mg base L2.CX0 k f fd ps sp ∧ mg x = some (.ref f) ∧ PySem.W.keepIn K (.ref f) = true ∧ L2.Binds K fd ps []
/-- a class made by its name; sp: its __init__ -/
structure Mkr (P : Program) (w : World) (K : PySem.W.Frag) (mg : Str → Option Value) (base : Heap) (k : Nat) (x : Str) (C : Addr) (sp : Sp) : Prop where
  ex : ∃ (f : Addr) (fd : FuncData) (ps : List Str), Mk K C f ∧ FnOk P w K mg base L2.CX0 k f fd ps sp ∧ mg x = some (.ref C) ∧ L2.Binds K fd ps []
section
variable {X : Cx} {k j : Nat} {C : Addr} {x m : Str} {sp : Sp} {p pos apos : Pos} {e o : Expr} {es : List Expr} {ta : TE} {t : TA}
theorem pe_c (c : Cl X.prog X.w X.K X.mg X.base k x sp) (hr : Room j X.A) (hk : k ≤ j) (hg : Gl X x) (ha : PA X (e :: es) t)
    (hdb : (x == ("__debug__" : Str)) = false := by decide) (he : starEach (e :: es) X.env = (false, eval e X.env) :: starEach es X.env := by rfl) (hpl : (backTo pos (starEach es X.env)).any (·.1) = false := by rfl) :
    PE X (.Call (.Name x p) (e :: es) [] pos) (tCall sp [] L2.E0 t) := by
  obtain ⟨f, fd, ps, F, hm, kp, b⟩ := c.ex
  exact pe_call F (hr.mono hk) hg hm kp b .nil L2.pass0 ha hdb he hpl
theorem pe_c0 (c : Cl X.prog X.w X.K X.mg X.base k x sp) (hr : Room j X.A) (hk : k ≤ j) (hg : Gl X x) (hdb : (x == ("__debug__" : Str)) = false := by decide) :
    PE X (.Call (.Name x p) [] [] pos) (tCall sp [] L2.E0 tNil) := by
  obtain ⟨f, fd, ps, F, hm, kp, b⟩ := c.ex
  exact pe_call0 F (hr.mono hk) hg hm kp b .nil L2.pass0 hdb
theorem pe_mk (c : Mkr X.prog X.w X.K X.mg X.base k x C sp) (hr : Room j X.A) (hk : k + 1 ≤ j) (hg : Gl X x) (ha : PA X (e :: es) t)
    (hdb : (x == ("__debug__" : Str)) = false := by decide) (he : starEach (e :: es) X.env = (false, eval e X.env) :: starEach es X.env := by rfl) (hpl : (backTo pos (starEach es X.env)).any (·.1) = false := by rfl) :
    PE X (.Call (.Name x p) (e :: es) [] pos) (tMake C sp [] L2.E0 t) := by
  obtain ⟨f, fd, ps, M, F, hm, b⟩ := c.ex
  exact pe_make M F (hr.mono hk) hg hm b .nil L2.pass0 ha hdb he hpl
theorem pe_mt {pl : Sem Bool} (c : Mt X.prog X.w X.K X.mg X.base k C m sp) (hr : Room j X.A) (hk : k ≤ j) (he : PE X o ta) (ha : PA X (e :: es) t)
    (hst : starEach (e :: es) X.env = (false, eval e X.env) :: starEach es X.env := by rfl) (hpl : (backTo pos (starEach es X.env)).any (·.1) = false := by rfl)
    (ht : eval (.Call (.Attribute o m apos) (e :: es) [] pos) X.env = (do
      let ov ← eval o X.env
      standAt apos.atName
      let (f, first) ← holding [ov] (getMethod ov m pl)
      callWith pos f first (backTo pos (starEach (e :: es) X.env)) (backToKw pos (keywordEach [] X.env))) := by rfl) :
    PE X (.Call (.Attribute o m apos) (e :: es) [] pos) (tMeth C m sp [] L2.E0 ta t) := by
  obtain ⟨f, fd, ps, hc, hm, F, b⟩ := c.ex
  exact pe_meth (pl := pl) he hc hm F (hr.mono hk) b .nil L2.pass0 ha hst hpl ht
theorem pe_mt0 {pl : Sem Bool} (c : Mt X.prog X.w X.K X.mg X.base k C m sp) (hr : Room j X.A) (hk : k ≤ j) (he : PE X o ta)
    (ht : eval (.Call (.Attribute o m apos) [] [] pos) X.env = (do
      let ov ← eval o X.env
      standAt apos.atName
      let (f, first) ← holding [ov] (getMethod ov m pl)
      callWith pos f first (backTo pos (starEach [] X.env)) (backToKw pos (keywordEach [] X.env))) := by rfl) :
    PE X (.Call (.Attribute o m apos) [] [] pos) (tMeth C m sp [] L2.E0 ta tNil) := by
  obtain ⟨f, fd, ps, hc, hm, F, b⟩ := c.ex
  exact pe_meth0 (pl := pl) he hc hm F (hr.mono hk) b .nil L2.pass0 ht
end
section
variable {X : Cx} {k : Nat} {C : Addr} {sp : Sp}
/-- x not in o, o an instance -/
def rNotInOwn (C : Addr) (sp : Sp) : R2 := fun x y H Q => ∃ a dx fs, y = .ref a ∧ H a = some (.ins C dx fs) ∧ sp [.ref a, x] H (fun v H' => ∃ b, v = .bl b ∧ Q (.bl (!b)) H') L2.E0
theorem op_notInOwn (c : Mt X.prog X.w X.K X.mg X.base k C "__contains__" sp) (hr : Room k X.A) : OpR X (compareOp .NotIn) (rNotInOwn C sp) := by
  intro pins s σ H x y v u Q I rx ry h
  obtain ⟨a, dx, fs, rfl, ha, h⟩ := h
  obtain ⟨f, fd, ps, cl, me, F, b⟩ := c.ex
  cases (show u = Value.ref a from ry)
  obtain ⟨mA, J, _⟩ := ins_get I.hok ha
  obtain ⟨od, J, _⟩ := J.look
  obtain ⟨m, hF⟩ := I.fr
  refine PySem.W.notIn_K hF I.ok.mod.kin J me.at_ me.fn (wpAny_mono (run_in0 (vs := [.ref a, x]) F hr b I (.cons rfl (.cons rx .nil)) h) (fun r s' q => ?_) fun _ _ e => e)
  obtain ⟨z, H', I', rz, b', ez, q⟩ := q
  subst ez
  cases (show r = Value.bool b' from rz)
  exact wpAny_truthy_bool ⟨.bl (!b'), H', I', rfl, q⟩
/-- len(o) -/
def rLenOwn (C : Addr) (sp : Sp) : List V → Hp → VK → Prop := fun xs H Q => ∃ a dx fs, xs = [.ref a] ∧ H a = some (.ins C dx fs) ∧ sp [.ref a] H (fun v H' => ∃ n : Nat, v = .int (n : Int) ∧ n < 1000000 ∧ Q (.int (n : Int)) H') L2.E0
theorem call_lenOwn (c : Mt X.prog X.w X.K X.mg X.base k C "__len__" sp) (hr : Room (k + 1) X.A) : CallR X (.builtin "len") (rLenOwn C sp) := by
  intro pins s σ H xs us Q I r h
  obtain ⟨a, dx, fs, rfl, ha, h⟩ := h
  obtain ⟨f, fd, ps, cl, me, F, b⟩ := c.ex
  obtain ⟨u, rfl, ru⟩ := vals1 r
  cases (show u = Value.ref a from ru)
  obtain ⟨mA, J, _⟩ := ins_get I.hok ha
  obtain ⟨od, J, _⟩ := J.look
  obtain ⟨m, hF⟩ := I.fr
  refine PySem.W.len_K hF I.ok.mod.kin J me.at_ me.fn (wpAny_mono (run_in1 (vs := [.ref a]) F hr b I (.cons rfl .nil) h) (fun r s' q => ?_) fun _ _ e => e)
  obtain ⟨z, H', I', rz, n, ez, hn, q⟩ := q
  subst ez
  obtain ⟨t, rfl⟩ := (show ∃ t, r = Value.int (n : Int) t from rz)
  exact ⟨⟨by omega, by omega⟩, .int (n : Int), H', I'.tok _, ⟨_, rfl⟩, q⟩
/-- o[i] -/
def tIxOwn (C : Addr) (sp : Sp) (ta tb : TE) : TE := fun σ H Q => ta σ H fun x H1 => tb σ H1 fun y H2 => ∃ a dx fs, x = .ref a ∧ H2 a = some (.ins C dx fs) ∧ sp [.ref a, y] H2 Q L2.E0
theorem pe_ixOwn {a b : Expr} {ta tb : TE} {pos : Pos} (c : Mt X.prog X.w X.K X.mg X.base k C "__getitem__" sp) (hfn : ∀ f, PySem.W.findIn X.K (.ref C) "__getitem__" = some (some (.ref f)) → PySem.W.fnIn X.K f = true) (hr : Room (k + 1) X.A) (ha : PE X a ta) (hb : PE X b tb)
    (hsl : ∀ x i, subscripted b true (.ref x) i = runValue (.builtin "lifetime.subscript" ⟨[.ref x, i], []⟩)) : PE X (.Subscript a b pos) (tIxOwn C sp ta tb) := by
  refine ⟨fun pins s σ H Q I h => ?_⟩
  refine Subscript_ (binT ha hb I h fun v u s2 x y H2 I2 rx ry q => ?_)
  obtain ⟨o, dx, fs, rfl, ho, q⟩ := q
  obtain ⟨f, fd, ps, cl, me, F, bd⟩ := c.ex
  cases (show v = Value.ref o from rx)
  obtain ⟨mA, J, _⟩ := ins_get I2.hok ho
  obtain ⟨od, J, _⟩ := J.look
  obtain ⟨m, hF⟩ := I2.fr
  exact PySem.W.sub_K hF I2.ok.mod.kin J me.at_ (hfn f me.at_) me.fn (run_in1 (vs := [.ref o, y]) F hr bd I2 (.cons rfl (.cons ry .nil)) q) (hsl _ _)
/-- o == q of two instances -/
def rEqOwn (C : Addr) (sp : Sp) : R2 := fun x y H Q => ∃ a dx fs b dy gs, x = .ref a ∧ y = .ref b ∧ H a = some (.ins C dx fs) ∧ H b = some (.ins C dy gs) ∧ sp [.ref a, .ref b] H (fun v H' => ∃ z, v = .bl z ∧ Q (.bl z) H') L2.E0
theorem op_eqOwn (c : Mt X.prog X.w X.K X.mg X.base k C "__eq__" sp) (hn : PySem.W.notFirst X.K C (.ref C) = true) (hr : Room k X.A) : OpR X (compareOp .Eq) (rEqOwn C sp) := by
  intro pins s σ H x y v u Q I rx ry h
  obtain ⟨a, dx, fs, b, dy, gs, rfl, rfl, ha, hb, q⟩ := h
  obtain ⟨f, fd, ps, cl, me, F, bd⟩ := c.ex
  cases (show v = Value.ref a from rx)
  cases (show u = Value.ref b from ry)
  obtain ⟨mA, J, _⟩ := ins_get I.hok ha
  obtain ⟨mB, J', _⟩ := ins_get I.hok hb
  obtain ⟨od, J, _⟩ := J.look
  obtain ⟨od', J', _⟩ := J'.look
  obtain ⟨m, hF⟩ := I.fr
  show wpAny _ _ (richCompare .Eq (.ref a) (.ref b)) _ _ _
  refine PySem.W.cmp_K (op := .Eq) (tb := .ref C) hr.units0 hF I.ok.mod.kin J J'.type hn me.at_ me.fn ?_
  refine wpAny_mono (run_in0 (vs := [.ref a, .ref b]) F hr bd I (.cons rfl (.cons rfl .nil)) q) (fun r s' q => ?_) fun _ _ e => e
  obtain ⟨z, H', I', rz, b', ez, q⟩ := q
  subst ez
  cases (show r = Value.bool b' from rz)
  exact ⟨.bl b', H', I', rfl, q⟩
end
end Sw
namespace Sw
open PySem PySem.Spec PyProof.Rows L2
/-! != of two instances by their own == -/
section
variable {prog : Program} {w : World} {A : Around} {E : Value → Shared → Prop} {s : Shared} {K : PySem.W.Frag} {x y C f : Addr} {ox : Obj} {od : Option Obj}
theorem ne_entry {Q : PySem.Fin → Shared → Prop} (hu : A.units < cLine) (X : K.In s.heap) (I : PySem.W.InstAt s.heap x ox C od) (hs : PySem.W.findIn K (.ref C) "__eq__" = some (some (.ref f))) (hf : PySem.W.isFn K (.ref f) = true)
    (h : wpAny (model prog w) A (call (.ref f) [.ref x, .ref y]) (fun v s' => ∃ b, v = .bool b ∧ Q (.done (.ret (.bool (!b)))) s') E s) :
    wpAny (model prog w) A (Builtin.«object.__ne__» ⟨[.ref x, .ref y], []⟩) Q E s := by
  unfold Builtin.«object.__ne__»
  obtain ⟨hp, g, d, t, os⟩ := s
  repeat (first
    | with_reducible refine wpAny_cRoomFor hu ?_
    | (refine wpAny_bind (m := callSpecialIfBound? (.ref x) (Str.ofString "__eq__") [.ref y])
        (PySem.W.ifBound_K X I hs hf (wpAny_mono h (fun r s' hr => by
          obtain ⟨b, rfl, hq⟩ := hr
          repeat (first | exact hq | exact wpAny_pure hq | exact wpAny_truthy_bool hq | (refine wpAny_bind (m := truthy (.bool _)) (wpAny_truthy_bool ?_)) | wp_step)) fun _ _ e => e)))
    | wp_step)
theorem ifBound_ne {args : List Value} {Q : Option Value → Shared → Prop} (X : K.In s.heap) (I : PySem.W.InstAt s.heap x ox C od) (hs : PySem.W.findIn K (.ref C) "__ne__" = some (some (.builtin "object.__ne__")))
    (h : wpAny (model prog w) A (call (.builtin "object.__ne__") (.ref x :: args)) (fun v => Q (some v)) E s) : wpAny (model prog w) A (callSpecialIfBound? (.ref x) "__ne__" args) Q E s := by
  simp only [callSpecialIfBound?, bindSpecialIfBound?]
  refine wpAny_holding (wpAny_bind (wpAny_bind (wpAny_bind (I.type.here ((PySem.W.looks_findIn X hs).here ?_)))))
  simp only [PySem.F.cmp_object.ne.bind]
  refine wpAny_bind (wpAny_askSetting (wpAny_ite ?_))
  have fin : wpAny (model prog w) A (call (.builtin "object.__ne__") ([.ref x] ++ args) >>= fun v => pure (some v)) Q E s := wpAny_bind (wpAny_mono h (fun v s' h' => wpAny_pure h') fun _ _ h' => h')
  split
  · exact wpAny_bind (wpAny_pure (wpAny_pure fin))
  · exact wpAny_tryCatch (wpAny_bind (wpAny_pure (wpAny_pure fin)))
theorem call_ne {Q : Value → Shared → Prop} (hu : A.units + 1 < cLine) (X : K.In s.heap) (I : PySem.W.InstAt s.heap x ox C od) (hm : PySem.W.mroIn K C (.type "object") = some true)
    (hs : PySem.W.findIn K (.ref C) "__eq__" = some (some (.ref f))) (hf : PySem.W.isFn K (.ref f) = true)
    (h : wpAny (model prog w) A.in1 (call (.ref f) [.ref x, .ref y]) (fun v s' => ∃ b, v = .bool b ∧ Q (.bool (!b)) s') E s) :
    wpAny (model prog w) A (call (.builtin "object.__ne__") [.ref x, .ref y]) Q E s := by
  refine wpAny_call (codeAny_call_builtin PySem.F.cmp_object.ne.plain PySem.F.cmpEntry_ne ?_)
  refine PySem.W.check_slot PySem.F.cmpKind_ne PySem.F.cmpSplit_ne (I.type.andThen (PySem.W.looks_mroIn X hm)) (PySem.F.cmpArgs_ne _ _) ?_
  refine ne_entry (A := A.in1) hu X I hs hf (wpAny_mono h (fun v s' hv => ?_) fun _ _ e => e)
  obtain ⟨b, rfl, hq⟩ := hv
  exact ⟨b, rfl, hq⟩
theorem rc_ne {Q : Value → Shared → Prop} (hu : A.units + 1 < cLine) (X : K.In s.heap) (I : PySem.W.InstAt s.heap x ox C od) {oy : Obj} {ody : Option Obj} (J : PySem.W.InstAt s.heap y oy C ody) (hm : PySem.W.mroIn K C (.type "object") = some true)
    (hne : PySem.W.findIn K (.ref C) "__ne__" = some (some (.builtin "object.__ne__"))) (hs : PySem.W.findIn K (.ref C) "__eq__" = some (some (.ref f))) (hf : PySem.W.isFn K (.ref f) = true)
    (h : wpAny (model prog w) A.in1 (call (.ref f) [.ref x, .ref y]) (fun v s' => ∃ b, v = .bool b ∧ Q (.bool (!b)) s') E s) :
    wpAny (model prog w) A (richCompare .NotEq (.ref x) (.ref y)) Q E s := by
  have one : wpAny (model prog w) A (tryCompare (.ref x) "__ne__" (.ref y)) (fun r s' => ∃ v, r = some v ∧ Q v s') E s := by
    unfold tryCompare
    refine wpAny_bind (ifBound_ne X I hne (call_ne hu X I hm hs hf (wpAny_mono h (fun v s' hv => ?_) fun _ _ e => e)))
    obtain ⟨b, rfl, hq⟩ := hv
    exact ⟨b, rfl, wpAny_pure ⟨_, rfl, hq⟩⟩
  unfold richCompare
  simp only [oneThing_ref]
  refine wpAny_holding (wpAny_bind (wpAny_cRoomFor (Nat.lt_of_succ_lt hu) ?_))
  refine wpAny_bind (I.type.here (wpAny_bind (J.type.here ?_)))
  rw [show (Value.ref C != Value.ref C) = false from by simp]
  simp only [Bool.false_eq_true, if_false]
  refine wpAny_bind (wpAny_pure ?_)
  simp only [Bool.false_eq_true, if_false]
  refine wpAny_bind (wpAny_mono one (fun r s' z => ?_) fun _ _ e => e)
  obtain ⟨v, rfl, hq⟩ := z
  exact wpAny_pure hq
end
section
variable {X : Cx} {k : Nat} {C : Addr} {sp : Sp}
/-- o != q of two instances without an own != -/
def rNeOwn (C : Addr) (sp : Sp) : R2 := fun x y H Q => ∃ a dx fs b dy gs, x = .ref a ∧ y = .ref b ∧ H a = some (.ins C dx fs) ∧ H b = some (.ins C dy gs) ∧ sp [.ref a, .ref b] H (fun v H' => ∃ z, v = .bl z ∧ Q (.bl (!z)) H') L2.E0
theorem op_neOwn (c : Mt X.prog X.w X.K X.mg X.base k C "__eq__" sp) (hm : PySem.W.mroIn X.K C (.type "object") = some true) (hne : PySem.W.findIn X.K (.ref C) "__ne__" = some (some (.builtin "object.__ne__"))) (hr : Room (k + 1) X.A) : OpR X (compareOp .NotEq) (rNeOwn C sp) := by
  intro pins s σ H x y v u Q I rx ry h
  obtain ⟨a, dx, fs, b, dy, gs, rfl, rfl, ha, hb, q⟩ := h
  obtain ⟨f, fd, ps, cl, me, F, bd⟩ := c.ex
  cases (show v = Value.ref a from rx)
  cases (show u = Value.ref b from ry)
  obtain ⟨mA, J, _⟩ := ins_get I.hok ha
  obtain ⟨mB, J', _⟩ := ins_get I.hok hb
  obtain ⟨od, J, _⟩ := J.look
  obtain ⟨od', J', _⟩ := J'.look
  show wpAny _ _ (richCompare .NotEq (.ref a) (.ref b)) _ _ _
  refine rc_ne (hu_of hr) I.kIn J J' hm hne me.at_ me.fn ?_
  refine wpAny_mono (run_in1 (vs := [.ref a, .ref b]) F hr bd I (.cons rfl (.cons rfl .nil)) q) (fun r s' q => ?_) fun _ _ e => e
  obtain ⟨z, H', I', rz, b', ez, q⟩ := q
  subst ez
  cases (show r = Value.bool b' from rz)
  exact ⟨b', rfl, .bl (!b'), H', I', rfl, q⟩
/-- xs[i] as the read of xs[i] += e -/
theorem get_list : PGet X (rIxL X.K) := by
  intro pins s σ H o i ov iv Q I ro ri h
  obtain ⟨p, xs, i, z, rfl, rfl, hq, he, q⟩ := h
  cases ro
  obtain ⟨t, rfl⟩ := ri
  obtain ⟨its, r, pl, hz⟩ := I.list hq
  obtain ⟨j, h1, h2, h3, h4, h5⟩ := atI_get he
  obtain ⟨w, ew, rw'⟩ := r.get h2
  have hl := r.length
  have hn := line63
  have fin : EP X pins σ Q w s := ⟨z, H, I, rw', q⟩
  by_cases h0 : 0 ≤ i
  · have hj : i.toNat = j := by
      rw [seqIndex_of h0 h5] at h1
      exact Option.some.inj h1
    exact wpAny_getItem_list pl.isList h0 (by omega) (by rw [hj]; simpa using ew) fin
  · have hj : (i + (its.toArray.size : Int)).toNat = j := by
      rw [seqIndex_neg (by omega) h4] at h1
      rw [List.size_toArray, ← hl]
      exact Option.some.inj h1
    exact wpAny_getItem_list_neg (Q := EP X pins σ Q) pl.isList (by omega) (by rw [List.size_toArray] <;> omega) (by omega) (by rw [hj]; simpa using ew) fin
/-- d == e, two dicts of the same keys, their values the same data -/
def rEqDD (K : PySem.W.Frag) : R2 := fun x y H Q => ∃ a b ks ls, x = .ref a ∧ y = .ref b ∧ H a = some (.dK ks) ∧ H b = some (.dK ls) ∧ ks.length = ls.length ∧
  (∀ p ∈ ks, ∃ u d, valV ls p.1 = some u ∧ Dp K H p.2 d ∧ Dp K H u d ∧ SeqAt.shaped d = true) ∧ Q (.bl true) H
theorem op_eqDD (hu : X.A.units + 64 + 1 < cLine) : OpR X (compareOp .Eq) (rEqDD X.K) := by
  intro pins s σ H x y v u Q I rx ry h
  obtain ⟨a, b, ks, ls, rfl, rfl, ha, hb, hl, hp, q⟩ := h
  cases (show v = Value.ref a from rx)
  cases (show u = Value.ref b from ry)
  obtain ⟨_, ya, va, ra, da⟩ := (show ObjOk X.prog X.w H s.heap a (.dK ks) from I.hok a _ ha)
  obtain ⟨_, yb, vb, rb, db⟩ := (show ObjOk X.prog X.w H s.heap b (.dK ls) from I.hok b _ hb)
  show wpAny _ _ (richCompare .Eq (.ref a) (.ref b)) _ _ _
  have ih : ∀ x y v u, (∃ d, Dp X.K H x d ∧ Dp X.K H y d ∧ SeqAt.shaped d = true) → RelV x v → RelV y u → SeqAt.EqP X.prog X.w X.A.in1 s v u true := by
    intro x y v u hd rx ry
    obtain ⟨d, d1, d2, sh⟩ := hd
    obtain ⟨as, r1⟩ := Dp.reads I d x v d1 rx
    obtain ⟨bs, r2⟩ := Dp.reads I d y u d2 ry
    have z := SeqAt.eqAt_reads d d X.A.in1 s v u as bs r1 r2 (SeqAt.canLay_of_shaped sh) (SeqAt.canLay_of_shaped sh) (SeqAt.room_of_shaped sh (by show X.A.units + 1 + 64 < cLine; omega))
    rw [SeqAt.eqv_refl d (SeqAt.canLay_of_shaped sh)] at z
    exact z.eqP
  refine PySem.W.rcP_dicts (knd := mixKind X.prog X.w) (r := true) ya yb da db (by omega) (fun _ => hits_run ih rb ra fun p hm => ?_) _ _ ?_
  · obtain ⟨u, d, e1, e2, e3, e4⟩ := hp p hm
    exact ⟨u, e1, d, e2, e3, e4⟩
  · have e : va.length = vb.length := by rw [← ra.length, ← rb.length]; exact hl
    rw [show (va.length == vb.length && true) = true from by rw [e]; simp]
    exact ⟨.bl true, H, I, rfl, q⟩
/-- dict(zip(xs, ys)), xs ints, ys as many -/
def tDictZip (K : PySem.W.Frag) (ta : TA) : TE := fun σ H Q => ta σ H fun vs H1 => ∃ (a b : Addr) (ks : List Key) (ys : List V), vs = [.ref a, .ref b] ∧ SqL K H1 a (ks.map kV) ∧ SqL K H1 b ys ∧ ks.length = ys.length ∧
  ∀ p, H1 p = none → Q (.ref p) (upd H1 p (.dK (mergeK [] (ks.zip ys))))
theorem kv_zip {K : PySem.W.Frag} {P : Program} {w : World} : ∀ {ks : List Key} {ys : List V} {us ws : List Value}, Vals (ks.map kV) us → Vals ys ws → ks.length = ys.length →
    ∃ kvs : List (Key × Value), KV (ks.zip ys) kvs ∧ kvs.length = min us.length ws.length ∧ ∀ (i : Nat) key v, us[i]? = some key → ws[i]? = some v → ∃ k, kvs[i]? = some (k, v) ∧ (mixKind P w).is k key = true
  | [], [], _, _, .nil, .nil, _ => ⟨[], .nil, rfl, fun i key v h _ => by simp at h⟩
  | k :: ks, y :: ys, u :: us, w' :: ws, .cons r1 t1, .cons r2 t2, h => by
    obtain ⟨kvs, h1, h2, h3⟩ := kv_zip (K := K) (P := P) (w := w) t1 t2 (by simpa using h)
    refine ⟨(k, w') :: kvs, .cons ⟨rfl, r2⟩ h1, by simp [h2], fun i key v hu hw => ?_⟩
    cases i with
    | zero =>
      simp at hu hw
      subst hu; subst hw
      refine ⟨k, rfl, ?_⟩
      cases k with
      | inl i => obtain ⟨t, e⟩ := (show ∃ t, u = Value.int i t from r1); rw [e]; exact mixKind_int _ _ _ _
      | inr z => obtain ⟨t, e⟩ := (show ∃ t, u = Value.str z t from r1); rw [e]; exact mixKind_str _ _ _ _
    | succ i =>
      obtain ⟨k', e1, e2⟩ := h3 i key v (by simpa using hu) (by simpa using hw)
      exact ⟨k', by simpa using e1, e2⟩
theorem notin4 (n c : Nat) (h : c < n) : c ∉ [n + 4, n + 3, n, n + 1] := by
  simp only [List.mem_cons, List.not_mem_nil, or_false]
  omega
theorem pe_dictZip {e e2 : Expr} {ta : TA} {p p2 pos pos2 : Pos} (hc : X.calm = true) (hg : Gl X "dict") (hm : X.mg "dict" = none) (hgz : Gl X "zip") (hmz : X.mg "zip" = none) (ha : PA X [e, e2] ta)
    (hs : starEach [e, e2] X.env = (false, eval e X.env) :: starEach [e2] X.env := by rfl) (hpl : (backTo pos2 (starEach [e2] X.env)).any (·.1) = false := by rfl) :
    PE X (.Call (.Name "dict" p) [.Call (.Name "zip" p2) [e, e2] [] pos2] [] pos) (tDictZip X.K ta) := by
  refine ⟨fun pins s σ H Q I h => ?_⟩
  refine wpAny_Call_Name_kw (ld_blt I hg hm (show bootBuiltins "dict" = some (.type "dict") by decide +kernel) ?_)
  refine PyProof.Rows.callWith_type1 ?_ (by rfl) (by rfl)
  show wpAny _ _ (spliced ((false, eval (.Call (.Name "zip" p2) [e, e2] [] pos2) X.env) :: backTo pos (starEach [] X.env))) _ _ s
  refine Calls.spliced_cons ?_
  refine Call_ (ld_blt I hgz hmz PyProof.Rows.boot_zip (PyProof.Rows.callWith_type1 (thn (ha.run pos2 pins s σ H _ I h) fun us s1 ⟨vs, H1, I1, r1, q1⟩ => ?_) hs hpl))
  obtain ⟨a, b, ks, ys, ex, hqx, hqy, hlen, q⟩ := q1
  subst ex
  obtain ⟨u1, u2, rfl, ru1, ru2⟩ := vals2 r1
  cases (show u1 = Value.ref a from ru1)
  cases (show u2 = Value.ref b from ru2)
  obtain ⟨its, rv, p1, z1⟩ := I1.list hqx
  obtain ⟨its2, rv2, p2', z2⟩ := I1.list hqy
  have la : a < s1.heap.objs.size := p1.lt
  have lb : b < s1.heap.objs.size := p2'.lt
  refine call_zip_2 p1.isList p2'.isList fun h' hz hTI hTO h1 h2 hsz hk => ?_
  refine Calls.spliced_nil ?_
  have I2 : Inv X pins σ H1 { s1 with heap := h' } := I1.kept (t' := s1.toks) hk
  obtain ⟨kvs, rel, hl, hpr⟩ := kv_zip (K := X.K) (P := X.prog) (w := X.w) rv rv2 hlen
  refine call_dict_pairs (knd := mixKind X.prog X.w) (kvs := kvs) (s := { s1 with heap := h' }) (PairArg.zip _ _ _ _ _ a b (PySem.W.ktu_apart s1.heap.objs.size a b la lb) its.toArray its2.toArray) (I1.ok.hd hc)
    ⟨hz, hTI, ⟨_, _, hTO⟩, h1, h2, p1.isList.at fun o e => hk _ o e, p2'.isList.at fun o e => hk _ o e⟩ ⟨by rw [hl]; simp, fun i key v hr => hpr i key v (by simpa using hr.1) (by simpa using hr.2)⟩ ?_ fun h'' tk hd' k => ?_
  · have e0 := rv.length
    rw [List.size_toArray, List.size_toArray]
    rw [← e0]
    exact Nat.le_trans (Nat.min_le_left _ _) z1
  · have hle : s1.heap.objs.size ≤ h'.objs.size := by rw [hsz]; exact Nat.le_add_right _ _
    have hm' : (h'.objs.size == sysModules) = false := beq_eq_false_iff_ne.mpr (Nat.ne_of_gt I2.big)
    have hlen' : (mergeK [] (ks.zip ys)).length ≤ sizeLine := by
      refine Nat.le_trans (length_mergeK _ []) ?_
      rw [List.length_nil, Nat.zero_add, List.length_zip, ← hlen, Nat.min_self]
      rw [List.length_map] at z1
      exact z1
    have hwr : ∀ c : Addr, c < s1.heap.objs.size → c ∉ [s1.heap.objs.size + 4, s1.heap.objs.size + 3, s1.heap.objs.size, s1.heap.objs.size + 1] := fun c hc => notin4 _ c hc
    exact ⟨.ref h'.objs.size, upd H1 h'.objs.size (.dK (mergeK [] (ks.zip ys))), I1.laid (t' := tk) (fun c o e => k c o (hwr c (Heap.lt_size e)) (hk c o e)) hle
      (show ObjOk X.prog X.w _ _ _ (.dK (mergeK [] (ks.zip ys))) from ⟨hlen', hm', merged [] kvs, KV.merge rel .nil, hd'⟩), rfl, q _ (I1.hok.fresh hle)⟩
end
end Sw
namespace Sw
open PySem PySem.Spec PyProof.Rows L2 LamX
/-! sorted(xs, key=lambda x: (.., x)), xs ints: the lambda over the heap alone -/
section
variable {P : Program} {w : World} {A : Around} {s : Shared} {f : Addr} {qual : Str} {params : Arguments} {body : Expr} {scope : Scope} {cl : List (Str × Addr)} {x : Str} {v : Value}
structure LamAt (h : Heap) (f : Addr) (qual : Str) (params : Arguments) (body : Expr) (scope : Scope) (cl : List (Str × Addr)) : Prop where
  ob : ∃ (pm ctv : Value) (c' : Addr), h.get? f = some (PySem.W.kla_obj "<lambda>" qual params body scope cl pm c' ctv) ∧ h.CodeRec (.ref c') qual
theorem LamAt.keeps {h h' : Heap} (L : LamAt h f qual params body scope cl) (k : ∀ b o, h.get? b = some o → h'.get? b = some o) : LamAt h' f qual params body scope cl := by
  obtain ⟨pm, ctv, c', e, c, oc, vs, t, e1, e2, e3, e4⟩ := L.ob
  exact ⟨pm, ctv, c', k _ _ e, c, oc, vs, t, e1, k _ _ e2, e3, e4⟩
/-- one parameter, captured names besides -/
structure LamS1 (x : Str) (scope : Scope) : Prop where
  kind : scope.kind = .function
  co : scope.isCoroutine = false
  gen : scope.isGenerator = false
  par : scope.names.lookup x = some .local
  nocell : ∀ y ∈ scope.names, y.2 ≠ .cell
theorem lam_call {Q : Value → Shared → Prop} (La : LamAt s.heap f qual params body scope cl) (S : LamS1 x scope) (lim : s.heap.NoLimit) (hd : A.depth < recursionLimit)
    (hbind : ∀ (pm cv ctv : Value), bindArgs (PySem.W.kla_fn "<lambda>" qual params body scope cl pm cv ctv) ⟨[v], []⟩ = pure [(x, v)])
    (hbody : ∀ (L c' : Addr) (h₁ : Heap) (tk : Nat), (∀ b o, s.heap.get? b = some o → h₁.get? b = some o) → h₁.Ns L (fun y => ([(x, v)] : List (Str × Value)).reverse.lookup y) →
      wpAny (model P w) (A.deeper (PySem.W.envX qual scope L f (.ref c') cl)) (eval body (PySem.W.envX qual scope L f (.ref c') cl)) Q (fun _ _ => False) { s with heap := h₁, toks := tk }) :
    wpAny (model P w) A (call (.ref f) [v]) Q (fun _ _ => False) s := by
  obtain ⟨pm, ctv, c', e, hc⟩ := La.ob
  refine wpAny_call ?_
  refine PySem.W.kla_callFunE hd e rfl S.co S.gen rfl hc ?_
  rw [hbind]
  refine wpAny_pure (wpAny_newFunctionEnv S.nocell (fun y hy => ?_) (fun h₁ hns hsb => ⟨lim.fresh _ hsb, ?_⟩) S.kind)
  · obtain rfl := List.mem_singleton.mp hy
    exact S.par
  · have kp : ∀ b o, s.heap.get? b = some o → h₁.get? b = some o := fun b o e => hsb.extBut b o (Nat.ne_of_lt (Heap.lt_size e)) (Heap.get?_push_of_some _ e)
    show codeAny _ _ (.expr body (PySem.W.envX qual scope s.heap.objs.size f (.ref c') cl)) _ _
    exact PySem.W.kla_codeExpr (wpAny_mono (hbody s.heap.objs.size c' h₁ _ kp hns) (fun v s' hq => hq) fun e s' hq => hq.elim)
end
/-- the state behind: all that stood stands, the value reads as k -/
abbrev KeyTo (k : PyData) (s : Shared) : Value → Shared → Prop := fun v s2 => PySem.W.KeyPure k s v s2
section
variable {P : Program} {w : World} {A : Around} {E : Value → Shared → Prop} {s : Shared} {env : Env} {x y : Str} {n c : Int} {t : Tok} {cy l : Addr} {its : List Value} {m : Str → Option Value}
theorem spl2 {e1 e2 : Expr} {k : Nat} {pos : Pos} {Q : Value → Shared → Prop} (hs : starEach [e1, e2] env = (false, eval e1 env) :: starEach [e2] env) (hs2 : starEach [e2] env = (false, eval e2 env) :: starEach [] env)
    (h : wpAny (model P w) A (eval e1 env) (fun v s1 => wpAny (model P w) A (eval e2 env) (fun u s2 => Q (.ref s2.heap.objs.size) { s2 with heap := s2.heap.push { cls := .type "tuple", data := .seq #[v, u] } }) E s1) E s) :
    wpAny (model P w) A (eval (.Tuple [e1, e2] k pos) env) Q E s := by
  refine wpAny_Tuple_spliced ?_
  rw [hs]
  show wpAny _ _ (spliced ((false, eval e1 env) :: backTo pos (starEach [e2] env))) _ _ s
  refine Calls.spliced_cons (wpAny_mono h (fun v s1 h1 => ?_) fun _ _ e => e)
  rw [hs2]
  show wpAny _ _ (spliced ((false, eval e2 env) :: backTo pos (starEach [] env))) _ _ s1
  refine Calls.spliced_cons (wpAny_mono h1 (fun u s2 h2 => ?_) fun _ _ e => e)
  exact Calls.spliced_nil ⟨(by show 2 ≤ sizeLine; decide), h2⟩
theorem key_tup {s1 : Shared} {v u : Value} {a b : Int} {t1 t2 : Tok} (hv : v = .int a t1) (hu : u = .int b t2) {tk : Nat} (k : ∀ b o, s.heap.get? b = some o → s1.heap.get? b = some o) (hg : s1 = { s with heap := s1.heap, toks := tk }) :
    KeyTo (.tuple [.int a, .int b]) s (.ref s1.heap.objs.size) { s1 with heap := s1.heap.push { cls := .type "tuple", data := .seq #[v, u] } } := by
  subst hv hu
  refine ⟨s1.heap.push { cls := .type "tuple", data := .seq #[.int a t1, .int b t2] }, tk, ?_, fun b o e => Heap.get?_push_of_some _ (k b o e), ?_⟩
  · rw [hg]
  · have e : (s1.heap.push ({ cls := .type "tuple", data := .seq #[.int a t1, .int b t2] } : Obj)).get? s1.heap.objs.size = some ({ cls := .type "tuple", data := .seq #[.int a t1, .int b t2] } : Obj) := Heap.get?_push_size _ rfl
    exact Reads.tuple (as := []) e rfl rfl (ReadsAll.cons (as := []) (Reads.int a t1) (ReadsAll.cons (as := []) (Reads.int b t2) ReadsAll.nil))
end
/-- what a key's body reads: an own name x, a captured name y -/
structure KEnv (x y : Str) (scope : Scope) : Prop where
  kind : scope.kind = .function
  kx : scope.names.lookup x = some .local
  ky : scope.names.lookup y = some .free
def KF1 (y : Str) (cl : List (Str × Addr)) (ns : List Int) (kf : Int → Int) (h : Heap) : Prop :=
  ∃ (cy l : Addr) (its : List Value), cl.lookup y = some cy ∧ h.IsCell cy (some (.ref l)) ∧ h.IsList l its.toArray ∧ ∀ n ∈ ns, 0 ≤ n ∧ n < 2 ^ 62 ∧ ∃ t, its[n.toNat]? = some (.int (kf n) t)
/-- (y[x], x) -/
theorem body1 {P : Program} {w : World} {A : Around} {x y q : Str} {scope : Scope} {cl : List (Str × Addr)} {ns : List Int} {kf : Int → Int} {p1 p2 p3 p4 p5 : Pos} {kk : Nat} (S : KEnv x y scope) (hx : (x == ("__debug__" : Str)) = false) (hy : (y == ("__debug__" : Str)) = false) (hyc : (y == ("__classdict__" : Str)) = false)
    (L f c' : Addr) (h h₁ : Heap) (tk tk1 : Nat) (n : Int) (t : Tok) (s : Shared) (hn : n ∈ ns) (F : KF1 y cl ns kf h) (k : ∀ b o, h.get? b = some o → h₁.get? b = some o) (hns : h₁.Ns L (fun z => ([(x, Value.int n t)] : List (Str × Value)).reverse.lookup z)) :
    wpAny (model P w) A (eval (.Tuple [.Subscript (.Name y p1) (.Name x p2) p3, .Name x p4] kk p5) (PySem.W.envX q scope L f (.ref c') cl)) (KeyTo (.tuple [.int (kf n), .int n]) { s with heap := h, toks := tk }) (fun _ _ => False) { s with heap := h₁, toks := tk1 } := by
  obtain ⟨cy, l, its, e1, e2, e3, e4⟩ := F
  obtain ⟨n0, n1, t2, e5⟩ := e4 n hn
  have hl : (([(x, Value.int n t)] : List (Str × Value)).reverse.lookup x) = some (Value.int n t) := by simp [List.lookup]
  have nx : ∀ {p : Pos} {Q : Value → Shared → Prop}, Q (.int n t) { s with heap := h₁, toks := tk1 } → wpAny (model P w) A (eval (.Name x p) (PySem.W.envX q scope L f (.ref c') cl)) Q (fun _ _ => False) { s with heap := h₁, toks := tk1 } := fun {p Q} hq =>
    wpAny_Name (wpAny_loadName_local (m := fun z => ([(x, Value.int n t)] : List (Str × Value)).reverse.lookup z) S.kind S.kx hns hl hq) hx
  refine spl2 (by rfl) (by rfl) ?_
  refine Subscript_ (wpAny_Name (wpAny_loadName_free (c := cy) (v := .ref l) S.kind S.ky e1 (e2.keeps k) ?_ hyc) hy)
  refine nx ?_
  refine item_listR (s := { s with heap := h₁, toks := tk1 }) (e3.at fun o e => k _ o e) n0 (Int.lt_trans n1 (by decide)) (by simpa using e5) ?_
  refine nx ?_
  exact key_tup (s := { s with heap := h, toks := tk }) (s1 := { s with heap := h₁, toks := tk1 }) (tk := tk1) rfl rfl k rfl
def KF2 (P : Program) (w : World) (y : Str) (z : Str) (cl : List (Str × Addr)) (ns : List Int) (kf : Int → Int) (h : Heap) : Prop :=
  ∃ (cy d l : Addr) (vs : List (Key × Value)) (its : List Value), cl.lookup y = some cy ∧ h.IsCell cy (some (.ref d)) ∧ h.DictOf (mixKind P w) d vs ∧ valueAt vs (Sum.inr z) = some (.ref l) ∧ h.IsList l its.toArray ∧ ∀ n ∈ ns, 0 ≤ n ∧ n < 2 ^ 62 ∧ ∃ t, its[n.toNat]? = some (.int (kf n) t)
/-- (y["z"][x], x) -/
theorem body2 {P : Program} {w : World} {A : Around} {x y q z : Str} {scope : Scope} {cl : List (Str × Addr)} {ns : List Int} {kf : Int → Int} {p1 p2 p3 p4 p5 p6 p7 : Pos} {kk kz : Nat} (S : KEnv x y scope) (hx : (x == ("__debug__" : Str)) = false) (hy : (y == ("__debug__" : Str)) = false) (hyc : (y == ("__classdict__" : Str)) = false)
    (L f c' : Addr) (h h₁ : Heap) (tk tk1 : Nat) (n : Int) (t : Tok) (s : Shared) (hn : n ∈ ns) (F : KF2 P w y z cl ns kf h) (k : ∀ b o, h.get? b = some o → h₁.get? b = some o) (hns : h₁.Ns L (fun z => ([(x, Value.int n t)] : List (Str × Value)).reverse.lookup z)) :
    wpAny (model P w) A (eval (.Tuple [.Subscript (.Subscript (.Name y p1) (.Constant (.str z) kz p6) p7) (.Name x p2) p3, .Name x p4] kk p5) (PySem.W.envX q scope L f (.ref c') cl)) (KeyTo (.tuple [.int (kf n), .int n]) { s with heap := h, toks := tk }) (fun _ _ => False) { s with heap := h₁, toks := tk1 } := by
  obtain ⟨cy, d, l, vs, its, e1, e2, e6, e7, e3, e4⟩ := F
  obtain ⟨n0, n1, t2, e5⟩ := e4 n hn
  have hl : (([(x, Value.int n t)] : List (Str × Value)).reverse.lookup x) = some (Value.int n t) := by simp [List.lookup]
  have nx : ∀ {tk1 : Nat} {p : Pos} {Q : Value → Shared → Prop}, Q (.int n t) { s with heap := h₁, toks := tk1 } → wpAny (model P w) A (eval (.Name x p) (PySem.W.envX q scope L f (.ref c') cl)) Q (fun _ _ => False) { s with heap := h₁, toks := tk1 } := fun {tk1 p Q} hq =>
    wpAny_Name (wpAny_loadName_local (m := fun z => ([(x, Value.int n t)] : List (Str × Value)).reverse.lookup z) S.kind S.kx hns hl hq) hx
  have e6' : h₁.DictOf (mixKind P w) d vs := by
    obtain ⟨ob, es, ep, a1, a2⟩ := e6
    exact ⟨ob, es, ep, k _ _ a1, a2⟩
  refine spl2 (by rfl) (by rfl) ?_
  refine Subscript_ (subD_of PySem.F.slot_dict_getitem.lookup (fun _ _ => rfl) (wpAny_Name (wpAny_loadName_free (c := cy) (v := .ref d) S.kind S.ky e1 (e2.keeps k) ?_ hyc) hy))
  refine Calls.Constant_str ⟨?_, ?_⟩
  · obtain ⟨ob, es, ep, a1, a2, _⟩ := e6'
    exact ⟨ob, a1, a2.1⟩
  · refine wpAny_getItem_of (kV_is (k := Sum.inr z) ⟨_, rfl⟩) e6'.mapOf e7 ?_
    refine nx ?_
    refine item_listR (s := { s with heap := h₁, toks := _ }) (e3.at fun o e => k _ o e) n0 (Int.lt_trans n1 (by decide)) (by simpa using e5) ?_
    refine nx ?_
    exact key_tup (s := { s with heap := h, toks := tk }) (s1 := { s with heap := h₁, toks := _ }) (tk := _) rfl rfl k rfl
theorem ints_each : ∀ {ns : List Int} {us : List Value}, Vals (ns.map V.int) us → PySem.W.EachIs (fun v (n : Int) => ∃ t, v = Value.int n t) us ns
  | [], _, .nil => .nil
  | n :: ns, _, .cons r t => .cons r (ints_each t)
theorem each_ints : ∀ {ns : List Int} {us : List Value}, PySem.W.EachIs (fun v (n : Int) => ∃ t, v = Value.int n t) us ns → Vals (ns.map V.int) us
  | [], _, .nil => .nil
  | n :: ns, _, .cons r t => .cons r (each_ints t)
/-- the order of the key (kf n, n) -/
def leK (kf : Int → Int) (p q : Int) : Bool := decide (kf p < kf q ∨ (kf p = kf q ∧ p ≤ q))
/-- sorted(xs, key=lambda x: ..): KW what the key asks ahead -/
def tSortLam (K : PySem.W.Frag) (T : List (Addr × Str)) (te : TE) (KW : L2.St → Hp → List Int → (Int → Int) → Prop) : TE := fun σ H Q => te σ H fun v H1 => ∃ (a : Addr) (ns : List Int) (kf : Int → Int), v = .ref a ∧ SqL K H1 a (ns.map V.int) ∧ KW σ H1 ns kf ∧ Tabs T H1 ∧
  ∀ p H2, ExtN H1 H2 → Tabs T H2 → H2 p = none → Q (.ref p) (upd H2 p (.lst ((ns.mergeSort (leK kf)).map V.int)))
section
variable {X : Cx}
theorem sort_run {pins : List (Addr × Obj)} {σ : L2.St} {H : Hp} {s : Shared} {Q : VK} {a f : Addr} {qual : Str} {params : Arguments} {body : Expr} {scope : Scope} {cl : List (Str × Addr)} {ns : List Int} {kf : Int → Int} {x : Str} {FK : Heap → Prop}
    (I : Inv X pins σ H s) (hl : SqL X.K H a (ns.map V.int)) (hu : X.A.units + 4 < cLine) (hd : X.A.depth < recursionLimit) (La : LamAt s.heap f qual params body scope cl) (S : LamS1 x scope)
    (hbind : ∀ (pm cv ctv v : Value), bindArgs (PySem.W.kla_fn "<lambda>" qual params body scope cl pm cv ctv) ⟨[v], []⟩ = pure [(x, v)]) (hF : FK s.heap) (hFk : ∀ h h', FK h → (∀ b o, h.get? b = some o → h'.get? b = some o) → FK h')
    (hbody : ∀ (A : Around) (L c' : Addr) (h h₁ : Heap) (tk tk1 : Nat) (n : Int) (t : Tok), n ∈ ns → FK h → (∀ b o, h.get? b = some o → h₁.get? b = some o) → h₁.Ns L (fun z => ([(x, Value.int n t)] : List (Str × Value)).reverse.lookup z) →
      wpAny (model X.prog X.w) A (eval body (PySem.W.envX qual scope L f (.ref c') cl)) (KeyTo (.tuple [.int (kf n), .int n]) { s with heap := h, toks := tk }) (fun _ _ => False) { s with heap := h₁, toks := tk1 })
    (q : ∀ p, H p = none → Q (.ref p) (upd H p (.lst ((ns.mergeSort (leK kf)).map V.int)))) :
    wpAny (model X.prog X.w) X.A (call (.builtin "sorted") [.ref a] [(Str.ofString "key", .ref f)]) (EP X pins σ Q) X.xe s := by
  obtain ⟨its, rv, pl, hz⟩ := I.list hl
  have e := ints_each rv
  rw [List.length_map] at hz
  refine PySem.W.sorted_key_data (b := false) (fun n : Int => PyData.tuple [.int (kf n), .int n]) pl.isList e (PySem.W.AllAlike.of fun _ _ => by simp [PySem.W.alike, PySem.W.alikeAll]) (PySem.W.Sortable.tuples fun _ => ⟨_, _, rfl⟩) hz (fun n _ => ?_) (ksk_s1 _ _) (fun _ => ksk_l1 _ _) (fun _ => ksk_t1 _ _)
    (fun v n ⟨t, hv⟩ hn h tk kp => ?_) fun out c h' tk kp fresh hD hlen eo => ?_
  · have hd : (PyData.tuple [.int (kf n), .int n]).depth = 1 := by simp [PyData.depth, PyData.depthAll]
    omega
  · subst hv
    exact lam_call (La.keeps kp) S (I.nolimit.keeps kp) hd (fun pm cv ctv => hbind pm cv ctv _) fun L c' h₁ tk1 k hns => hbody _ L c' h h₁ tk tk1 n t hn (hFk _ _ hF kp) k hns
  · rw [PySem.W.dataLe_ii (β := Int) kf (fun n => n)] at eo
    have rv2 : Vals ((ns.mergeSort (leK kf)).map V.int) out := each_ints eo
    have hlen2 : ((ns.mergeSort (leK kf)).map V.int).length ≤ sizeLine := by rw [List.length_map, List.length_mergeSort]; exact hz
    exact ⟨.ref (s.heap.objs.size + 1), upd H (s.heap.objs.size + 1) (.lst ((ns.mergeSort (leK kf)).map V.int)), I.laid (t' := tk) kp (Nat.le_succ _) ⟨hlen2, out, c, rv2, hD⟩, rfl, q _ (I.hok.fresh (Nat.le_succ _))⟩
theorem pe_sortLam {T : List (Addr × Str)} {KW : L2.St → Hp → List Int → (Int → Int) → Prop} {FK : List Int → (Int → Int) → Heap → Prop} {c P : Addr} {e : Expr} {te : TE} {params : Arguments} {body : Expr} {scope : Scope} {x : Str} {p lpos pos kpos : Pos} {j : Nat}
    (he : starEach [e] X.env = (false, eval e X.env) :: starEach [] X.env) (hg : Gl X "sorted") (hm : X.mg "sorted" = none) (ha : PE X e te) (hr : Room j X.A)
    (TB : TabB X.base X.mg c P) (hcode : X.env.code = .ref c) (hmT : (P, X.env.qual ++ "<lambda>") ∈ T) (hu : ∀ p ∈ T, p.1 = P → p.2 = X.env.qual ++ "<lambda>") (hdef : defaultsOf params X.env = ([], [])) (S : LamS1 x scope)
    (hfree : ∀ y ∈ scope.names, y.2 = .free → X.env.scope.names.lookup y.1 = some .cell ∨ X.env.scope.names.lookup y.1 = some .free)
    (hbind : ∀ (q : Str) (cl : List (Str × Addr)) (pm cv ctv v : Value), bindArgs (PySem.W.kla_fn "<lambda>" q params body scope cl pm cv ctv) ⟨[v], []⟩ = pure [(x, v)])
    (hFk : ∀ ns kf h h', FK ns kf h → (∀ b o, h.get? b = some o → h'.get? b = some o) → FK ns kf h')
    (hKW : ∀ (pins : List (Addr × Obj)) (σ : L2.St) (H H2 : Hp) (s s2 : Shared) ns kf, Inv X pins σ H s → KW σ H ns kf → ExtN H H2 → Inv X pins σ H2 s2 → FK ns kf s2.heap)
    (hbody : ∀ (A : Around) (L f c' : Addr) (h h₁ : Heap) (tk tk1 : Nat) (ns : List Int) (kf : Int → Int) (n : Int) (t : Tok) (s : Shared), n ∈ ns → FK ns kf h → (∀ b o, h.get? b = some o → h₁.get? b = some o) → h₁.Ns L (fun z => ([(x, Value.int n t)] : List (Str × Value)).reverse.lookup z) →
      wpAny (model X.prog X.w) A (eval body (PySem.W.envX (X.env.qual ++ "<lambda>") scope L f (.ref c') (cloFrom X.env.cells scope.names []))) (KeyTo (.tuple [.int (kf n), .int n]) { s with heap := h, toks := tk }) (fun _ _ => False) { s with heap := h₁, toks := tk1 }) :
    PE X (.Call (.Name "sorted" p) [e] [⟨some "key", .Lambda params body scope lpos, kpos⟩] pos) (tSortLam X.K T te KW) := by
  refine ⟨fun pins s σ H Q I h => ?_⟩
  have hfr : ∀ y ∈ scope.names, y.2 = .free → ∃ c, X.env.cells.lookup y.1 = some c := fun y hy e => (hfree y hy e).elim (fun z => I.ok.has _ (.inl z)) fun z => I.ok.has _ (.inr z)
  refine wpAny_Call_Name_kw (ld_blt I hg hm (show bootBuiltins "sorted" = some (.builtin "sorted") by decide +kernel) ?_)
  refine PyProof.Rows.callWith_kw ?_ (by rw [he]; rfl) (by rw [he]; rfl) (by rfl) (by rfl)
  rw [he]
  show wpAny _ _ (spliced ((false, eval e X.env) :: backTo pos (starEach [] X.env))) _ _ s
  refine Calls.spliced_cons (thn (ha.run pins s σ H _ I h) fun u s1 ⟨v, H1, I1, r1, q1⟩ => ?_)
  obtain ⟨a, ns, kf, rfl, hl, kw, hT, q⟩ := q1
  cases (show u = Value.ref a from r1)
  refine Calls.spliced_nil ?_
  show wpAny _ _ (evalAll ((do let v ← eval (.Lambda params body scope lpos) X.env; standAt pos; pure v) :: (backToKw pos (keywordEach [] X.env)).map (·.2))) _ _ s1
  refine wpAny_evalAll_cons (wpAny_bind (lam_make2 I1 TB hcode hmT hu hT hdef hfr fun f c' pm ctv H2 s2 I2 eN T2 hf hfn hfs hco => wpAny_bind (wpAny_standAt (wpAny_pure (wpAny_evalAll_nil ?_)))))
  show wpAny _ _ (call (.builtin "sorted") [.ref a] [(Str.ofString "key", .ref f)]) _ _ s2
  have hcr : s2.heap.CodeRec (.ref c') (X.env.qual ++ "<lambda>") := by
    obtain ⟨⟨oc, vs, t, h1, h2, h3⟩, _, _⟩ := I2.hok c' _ hco
    exact ⟨c', oc, vs, t, rfl, h1, h2, h3⟩
  have hl2 : SqL X.K H2 a (ns.map V.int) := by
    rcases hl with (z | ⟨o, z⟩) | z
    · exact .inl (.inl (eN _ _ z fun ps => by intro z; cases z))
    · exact .inl (.inr ⟨o, eN _ _ z fun ps => by intro z; cases z⟩)
    · exact .inr z
  refine sort_run (FK := FK ns kf) I2 hl2 (by have := hr.un; omega) hr.depth ⟨pm, ctv, c', hf, hcr⟩ S (fun pm cv ctv v => hbind _ _ pm cv ctv v) (hKW pins σ H1 H2 s1 s2 ns kf I1 kw eN I2) (hFk ns kf) (fun A L c' h h₁ tk tk1 n t hn hF k hns => hbody A L f c' h h₁ tk tk1 ns kf n t s2 hn hF k hns) fun p hp => q p H2 eN T2 hp
/-- the key's facts, from the maker's frame -/
theorem cell_of {pins : List (Addr × Obj)} {σ : L2.St} {H : Hp} {s : Shared} {scope : Scope} {y : Str} {i : Nat} {a : Addr} (I : Inv X pins σ H s) (hN : X.N[i]? = some y) (hk : X.env.scope.names.lookup y = some .cell) (hm : (y, NameKind.free) ∈ scope.names)
    (hfree : ∀ y ∈ scope.names, y.2 = .free → X.env.scope.names.lookup y.1 = some .cell ∨ X.env.scope.names.lookup y.1 = some .free) (hs : σ[i]? = some (some (.ref a))) :
    ∃ c, (cloFrom X.env.cells scope.names []).lookup y = some c ∧ s.heap.IsCell c (some (.ref a)) := by
  have hfr : ∀ y ∈ scope.names, y.2 = .free → ∃ c, X.env.cells.lookup y.1 = some c := fun y hy e => (hfree y hy e).elim (fun z => I.ok.has _ (.inl z)) fun z => I.ok.has _ (.inr z)
  obtain ⟨m, hn, hl⟩ := I.loc
  obtain ⟨u, r, l⟩ := hl i y (.ref a) hN hs (.inr (.inl hk))
  cases (show u = Value.ref a from r)
  rcases l with ⟨z, _⟩ | ⟨_, c, hc, hcell⟩
  · have z' : X.env.scope.names.lookup y = some .local := z
    rw [hk] at z'
    cases z'
  · exact ⟨c, NdefX.clo_has hfr hm hc, hcell⟩
def KW1 (K : PySem.W.Frag) (i : Nat) (σ : L2.St) (H : Hp) (ns : List Int) (kf : Int → Int) : Prop :=
  ∃ (lc : Addr) (cs : List Int), σ[i]? = some (some (.ref lc)) ∧ H lc = some (.lst (cs.map V.int)) ∧ ∀ n ∈ ns, 0 ≤ n ∧ n < 2 ^ 62 ∧ cs[n.toNat]? = some (kf n)
theorem at_vals {cs : List Int} {us : List Value} (r : Vals (cs.map V.int) us) {j : Nat} {z : Int} (h : cs[j]? = some z) : ∃ t, us[j]? = some (Value.int z t) := by
  obtain ⟨u, hu, ru⟩ := r.get (i := j) (x := V.int z) (by rw [List.getElem?_map, h]; rfl)
  obtain ⟨t, e⟩ := (show ∃ t, u = Value.int z t from ru)
  exact ⟨t, by rw [hu, e]⟩
theorem kf1_of {pins : List (Addr × Obj)} {σ : L2.St} {H H2 : Hp} {s2 : Shared} {scope : Scope} {y : Str} {i : Nat} {ns : List Int} {kf : Int → Int} (hN : X.N[i]? = some y) (hk : X.env.scope.names.lookup y = some .cell) (hm : (y, NameKind.free) ∈ scope.names)
    (hfree : ∀ y ∈ scope.names, y.2 = .free → X.env.scope.names.lookup y.1 = some .cell ∨ X.env.scope.names.lookup y.1 = some .free) (kw : KW1 X.K i σ H ns kf) (e : ExtN H H2) (I : Inv X pins σ H2 s2) : KF1 y (cloFrom X.env.cells scope.names []) ns kf s2.heap := by
  obtain ⟨lc, cs, h1, h2, h3⟩ := kw
  obtain ⟨c, c1, c2⟩ := cell_of I hN hk hm hfree h1
  obtain ⟨its, rv, pl, hz⟩ := I.list (SqL.of (e _ _ h2 fun ps z => by cases z))
  refine ⟨c, lc, its, c1, c2, pl.isList, fun n hn => ?_⟩
  obtain ⟨a, b, d⟩ := h3 n hn
  exact ⟨a, b, at_vals rv d⟩
def KW2 (K : PySem.W.Frag) (i : Nat) (z : Str) (σ : L2.St) (H : Hp) (ns : List Int) (kf : Int → Int) : Prop :=
  ∃ (d lc : Addr) (kvs : List (Key × V)) (cs : List Int), σ[i]? = some (some (.ref d)) ∧ H d = some (.dK kvs) ∧ valV kvs (Sum.inr z) = some (.ref lc) ∧ H lc = some (.lst (cs.map V.int)) ∧ ∀ n ∈ ns, 0 ≤ n ∧ n < 2 ^ 62 ∧ cs[n.toNat]? = some (kf n)
theorem kf2_of {pins : List (Addr × Obj)} {σ : L2.St} {H H2 : Hp} {s2 : Shared} {scope : Scope} {y z : Str} {i : Nat} {ns : List Int} {kf : Int → Int} (hN : X.N[i]? = some y) (hk : X.env.scope.names.lookup y = some .cell) (hm : (y, NameKind.free) ∈ scope.names)
    (hfree : ∀ y ∈ scope.names, y.2 = .free → X.env.scope.names.lookup y.1 = some .cell ∨ X.env.scope.names.lookup y.1 = some .free) (kw : KW2 X.K i z σ H ns kf) (e : ExtN H H2) (I : Inv X pins σ H2 s2) : KF2 X.prog X.w y z (cloFrom X.env.cells scope.names []) ns kf s2.heap := by
  obtain ⟨d, lc, kvs, cs, h1, h4, h5, h2, h3⟩ := kw
  obtain ⟨c, c1, c2⟩ := cell_of I hN hk hm hfree h1
  obtain ⟨its, rv, pl, hz⟩ := I.list (SqL.of (e _ _ h2 fun ps z => by cases z))
  obtain ⟨_, _, vs, rel, dd⟩ := (show ObjOk X.prog X.w H2 s2.heap d (.dK kvs) from I.hok d _ (e _ _ h4 fun ps z => by cases z))
  have rr : RelO (some (.ref lc)) (valueAt vs (Sum.inr z)) := by rw [← h5]; exact rel.val _
  obtain ⟨u, hu, ru⟩ := rr.some_of
  cases (show u = Value.ref lc from ru)
  refine ⟨c, d, lc, vs, its, c1, c2, dd, hu, pl.isList, fun n hn => ?_⟩
  obtain ⟨a, b, d⟩ := h3 n hn
  exact ⟨a, b, at_vals rv d⟩
end
end Sw
namespace Sw
open PySem L2
/-! The mathematics: slot maps as plain data -/
inductive Rl where | last | first | lowest | least
  deriving DecidableEq
def Rl.s : Rl → Str
  | .last => "last"
  | .first => "first"
  | .lowest => "lowest"
  | .least => "least"
structure Ag where
  n : Nat
  lim : Nat
  g : Nat
  r : Rl
structure SM where
  cnt : List Int
  free : List Nat
  live : List (Nat × PyData)
def gen (A : Ag) (c : Int) : Int := (c - 1) % (A.g : Int)
def cn (cnt : List Int) (s : Nat) : Int := cnt.getD s 0
def bump (cnt : List Int) (s : Nat) : List Int := cnt.set s (cn cnt s + 1)
def ltB (r : Rl) (cnt : List Int) (a b : Nat) : Bool := match r with
  | .least => decide (cn cnt a < cn cnt b ∨ (cn cnt a = cn cnt b ∧ a < b))
  | _ => decide (a < b)
def insO (lt : Nat → Nat → Bool) (s : Nat) : List Nat → List Nat
  | [] => [s]
  | a :: l => if lt s a = true then s :: a :: l else a :: insO lt s l
def insF (r : Rl) (cnt : List Int) (s : Nat) (f : List Nat) : List Nat := match r with
  | .last => s :: f
  | .first => f ++ [s]
  | .lowest => insO (ltB .lowest cnt) s f
  | .least => insO (ltB .least cnt) s f
def Srt (r : Rl) : Prop := r = .lowest ∨ r = .least
def Ord (r : Rl) (cnt : List Int) (l : List Nat) : Prop := Srt r → l.Pairwise fun a b => ltB r cnt a b = true
def SM.take (S : SM) (d : PyData) : SM := match S.free with
  | [] => S
  | s :: f => ⟨bump S.cnt s, f, S.live ++ [(s, d)]⟩
def SM.give (S : SM) (r : Rl) (s : Nat) : SM := ⟨S.cnt, insF r S.cnt s S.free, S.live.filter fun p => p.1 != s⟩
structure Ag.Ok (A : Ag) : Prop where
  l1 : 1 ≤ A.lim
  ln : A.lim ≤ A.n
  n6 : A.n ≤ 6
  g1 : 1 ≤ A.g
  g5 : A.g ≤ 5
structure Wf (A : Ag) (S : SM) : Prop where
  ok : A.Ok
  len : S.cnt.length = A.n
  perm : (S.free ++ S.live.map (·.1)).Perm (List.range A.n)
  ord : Ord A.r S.cnt S.free
  lim : S.live.length ≤ A.lim
def SM.new (n : Nat) : SM := ⟨List.replicate n 0, List.range n, []⟩
section
variable {r : Rl} {cnt cnt' : List Int} {s a b : Nat} {f l l' : List Nat} {A : Ag} {S : SM} {d : PyData}
theorem cn_at {c : Int} (h : cnt[s]? = some c) : cn cnt s = c := by unfold cn; rw [List.getD_eq_getElem?_getD, h]; rfl
theorem at_cn (h : s < cnt.length) : cnt[s]? = some (cn cnt s) := by
  unfold cn
  rw [List.getD_eq_getElem?_getD, List.getElem?_eq_getElem h]
  rfl
theorem cn_set {v : Int} (h : s < cnt.length) (a : Nat) : cn (cnt.set s v) a = if a = s then v else cn cnt a := by
  unfold cn
  rw [List.getD_eq_getElem?_getD, List.getD_eq_getElem?_getD, List.getElem?_set]
  by_cases e : s = a
  · rw [if_pos e, if_pos h, if_pos e.symm]; rfl
  · rw [if_neg e, if_neg (fun z => e z.symm)]
theorem cn_bump (h : s < cnt.length) (a : Nat) : cn (bump cnt s) a = if a = s then cn cnt s + 1 else cn cnt a := cn_set h a
theorem bump_len : (bump cnt s).length = cnt.length := List.length_set
theorem ltB_irr : ltB r cnt a a = false := by
  unfold ltB
  split <;> simp
theorem ltB_asym (h : ltB r cnt a b = true) (h' : ltB r cnt b a = true) : False := by
  unfold ltB at h h'
  split at h <;> simp at h h' <;> omega
theorem ltB_trans {c : Nat} (h : ltB r cnt a b = true) (h' : ltB r cnt b c = true) : ltB r cnt a c = true := by
  unfold ltB at h h' ⊢
  split at h <;> simp at h h' ⊢ <;> omega
theorem ltB_tot (h : ltB r cnt a b = false) (n : a ≠ b) : ltB r cnt b a = true := by
  unfold ltB at h ⊢
  split at h <;> simp at h ⊢ <;> omega
theorem ltB_congr (ha : cn cnt a = cn cnt' a) (hb : cn cnt b = cn cnt' b) : ltB r cnt a b = ltB r cnt' a b := by
  unfold ltB
  split <;> simp [ha, hb]
theorem Ord.congr (h : Ord r cnt l) (e : ∀ a ∈ l, cn cnt a = cn cnt' a) : Ord r cnt' l := fun z =>
  List.Pairwise.imp_of_mem (fun {a b} ha hb q => by rw [← ltB_congr (e a ha) (e b hb)]; exact q) (h z)
theorem insO_perm {lt : Nat → Nat → Bool} : ∀ {f : List Nat}, (insO lt s f).Perm (s :: f)
  | [] => .refl _
  | a :: l => by
    unfold insO
    split
    · exact .refl _
    · exact ((insO_perm (f := l)).cons a).trans (List.Perm.swap s a l)
theorem insF_perm : (insF r cnt s f).Perm (s :: f) := by
  unfold insF
  split
  · exact .refl _
  · exact List.perm_append_comm
  · exact insO_perm
  · exact insO_perm
theorem insO_ord : ∀ {f : List Nat}, s ∉ f → f.Pairwise (fun a b => ltB r cnt a b = true) → (insO (ltB r cnt) s f).Pairwise fun a b => ltB r cnt a b = true
  | [], _, _ => List.pairwise_singleton _ _
  | a :: l, hs, h => by
    obtain ⟨h1, h2⟩ := List.pairwise_cons.mp h
    have na : s ≠ a := fun z => hs (by rw [z]; exact List.mem_cons_self)
    have nl : s ∉ l := fun z => hs (List.mem_cons_of_mem _ z)
    unfold insO
    split
    · rename_i q
      refine List.pairwise_cons.mpr ⟨fun b hb => ?_, h⟩
      rcases List.mem_cons.mp hb with e | e
      · rw [e]; exact q
      · exact ltB_trans q (h1 b e)
    · rename_i q
      refine List.pairwise_cons.mpr ⟨fun b hb => ?_, insO_ord nl h2⟩
      rcases List.mem_cons.mp (insO_perm.mem_iff.mp hb) with e | e
      · rw [e]; exact ltB_tot (Bool.eq_false_iff.mpr q) na
      · exact h1 b e
theorem insF_ord (hs : s ∉ f) (h : Ord r cnt f) : Ord r cnt (insF r cnt s f) := fun z => by
  rcases z with z | z <;> subst z
  · exact insO_ord hs (h (.inl rfl))
  · exact insO_ord hs (h (.inr rfl))
theorem ord_uniq (z : Srt r) (h : Ord r cnt l) (h' : Ord r cnt l') (p : l.Perm l') : l = l' :=
  List.Perm.eq_of_pairwise (fun a b _ _ q q' => (ltB_asym q q').elim) (h z) (h' z) p
theorem Wf.nodup (w : Wf A S) : (S.free ++ S.live.map (·.1)).Nodup := w.perm.nodup_iff.mpr List.nodup_range
theorem Wf.free_nd (w : Wf A S) : S.free.Nodup := (List.nodup_append.mp w.nodup).1
theorem Wf.live_nd (w : Wf A S) : (S.live.map (·.1)).Nodup := (List.nodup_append.mp w.nodup).2.1
theorem Wf.apart (w : Wf A S) (h : s ∈ S.free) : s ∉ S.live.map (·.1) := fun z => (List.nodup_append.mp w.nodup).2.2 s h s z rfl
theorem Wf.apart' (w : Wf A S) (h : s ∈ S.live.map (·.1)) : s ∉ S.free := fun z => w.apart z h
theorem Wf.lt (w : Wf A S) (h : s ∈ S.free) : s < S.cnt.length := by
  have q := w.perm.mem_iff.mp (List.mem_append_left _ h)
  rw [w.len]
  exact List.mem_range.mp q
theorem Wf.lt' (w : Wf A S) (h : s ∈ S.live.map (·.1)) : s < S.cnt.length := by
  have q := w.perm.mem_iff.mp (List.mem_append_right _ h)
  rw [w.len]
  exact List.mem_range.mp q
theorem Wf.count (w : Wf A S) : S.free.length + S.live.length = A.n := by
  have q := w.perm.length_eq
  rw [List.length_append, List.length_map, List.length_range] at q
  exact q
theorem take_eq (h : S.free = s :: f) : S.take d = ⟨bump S.cnt s, f, S.live ++ [(s, d)]⟩ := by
  unfold SM.take
  rw [h]
theorem Wf.take (w : Wf A S) (h : S.free = s :: f) (hl : S.live.length < A.lim) : Wf A (S.take d) := by
  rw [take_eq h]
  have nd := w.free_nd
  rw [h] at nd
  obtain ⟨n1, n2⟩ := List.nodup_cons.mp nd
  have ls : s < S.cnt.length := w.lt (by rw [h]; exact List.mem_cons_self)
  refine ⟨w.ok, by show (bump S.cnt s).length = _; rw [bump_len]; exact w.len, ?_, ?_, ?_⟩
  · have q := w.perm
    rw [h] at q
    refine List.Perm.trans ?_ q
    show (f ++ (S.live ++ [(s, d)]).map (·.1)).Perm (s :: f ++ S.live.map (·.1))
    rw [List.map_append]
    show (f ++ (S.live.map (·.1) ++ [s])).Perm (s :: (f ++ S.live.map (·.1)))
    rw [← List.append_assoc]
    exact List.perm_append_comm
  · intro z
    have q := w.ord z
    rw [h] at q
    have q2 := (List.pairwise_cons.mp q).2
    exact Ord.congr (cnt := S.cnt) (fun _ => q2) (fun a ha => by
      rw [cn_bump ls, if_neg]
      intro e
      rw [e] at ha
      exact n1 ha) z
  · show (S.live ++ [(s, d)]).length ≤ A.lim
    rw [List.length_append]
    exact hl
/-- a live slot's place -/
theorem live_split (w : Wf A S) (h : (s, d) ∈ S.live) : ∃ l1 l2, S.live = l1 ++ (s, d) :: l2 ∧ s ∉ l1.map (·.1) ∧ s ∉ l2.map (·.1) := by
  obtain ⟨l1, l2, e⟩ := List.append_of_mem h
  have nd := w.live_nd
  rw [e, List.map_append, List.map_cons] at nd
  obtain ⟨_, h2, h3⟩ := List.nodup_append.mp nd
  refine ⟨l1, l2, e, fun z => h3 s z s List.mem_cons_self rfl, (List.nodup_cons.mp h2).1⟩
theorem filter_none : ∀ {l : List (Nat × PyData)}, s ∉ l.map (·.1) → l.filter (fun p => p.1 != s) = l
  | [], _ => rfl
  | p :: l, h => by
    have h1 : p.1 ≠ s := fun z => h (by rw [List.map_cons, z]; exact List.mem_cons_self)
    rw [List.filter_cons, if_pos (by simpa using h1), filter_none fun z => h (by rw [List.map_cons]; exact List.mem_cons_of_mem _ z)]
theorem filter_at {l1 l2 : List (Nat × PyData)} (h1 : s ∉ l1.map (·.1)) (h2 : s ∉ l2.map (·.1)) : (l1 ++ (s, d) :: l2).filter (fun p => p.1 != s) = l1 ++ l2 := by
  rw [List.filter_append, filter_none h1, List.filter_cons, if_neg (by simp), filter_none h2]
theorem give_eq {l1 l2 : List (Nat × PyData)} (e : S.live = l1 ++ (s, d) :: l2) (h1 : s ∉ l1.map (·.1)) (h2 : s ∉ l2.map (·.1)) : S.give r s = ⟨S.cnt, insF r S.cnt s S.free, l1 ++ l2⟩ := by
  unfold SM.give
  rw [e, filter_at h1 h2]
theorem Wf.give (w : Wf A S) (h : (s, d) ∈ S.live) : Wf A (S.give A.r s) := by
  obtain ⟨l1, l2, e, h1, h2⟩ := live_split w h
  have hm : s ∈ S.live.map (·.1) := List.mem_map.mpr ⟨_, h, rfl⟩
  rw [give_eq e h1 h2]
  refine ⟨w.ok, w.len, ?_, insF_ord (w.apart' hm) w.ord, ?_⟩
  · refine List.Perm.trans ?_ w.perm
    show (insF A.r S.cnt s S.free ++ (l1 ++ l2).map (·.1)).Perm (S.free ++ S.live.map (·.1))
    rw [e, List.map_append, List.map_append, List.map_cons]
    refine (List.Perm.append_right _ insF_perm).trans ?_
    show (s :: (S.free ++ (l1.map (·.1) ++ l2.map (·.1)))).Perm _
    rw [← List.append_assoc, ← List.append_assoc]
    exact List.perm_middle.symm
  · have q := w.lim
    rw [e, List.length_append, List.length_cons] at q
    show (l1 ++ l2).length ≤ _
    rw [List.length_append]
    omega
theorem Wf.new (ok : A.Ok) : Wf A (SM.new A.n) := by
  refine ⟨ok, List.length_replicate, ?_, fun z => ?_, Nat.zero_le _⟩
  · show (List.range A.n ++ []).Perm _
    rw [List.append_nil]
  · show (List.range A.n).Pairwise _
    have q := List.pairwise_lt_range (n := A.n)
    refine List.Pairwise.imp_of_mem (fun {a b} ha hb h => ?_) q
    have e0 : ∀ {a}, cn (SM.new A.n).cnt a = 0 := fun {a} => by
      unfold cn SM.new
      rw [List.getD_eq_getElem?_getD, List.getElem?_replicate]
      split <;> rfl
    unfold ltB
    split
    · rw [e0, e0]; simp [h]
    · simp [h]
/-! slots as whole numbers -/
def nI (l : List Nat) : List Int := l.map fun (s : Nat) => (s : Int)
theorem nI_inj {l l' : List Nat} (h : nI l = nI l') : l = l' := by
  have e : ∀ l : List Nat, (nI l).map Int.toNat = l := fun l => by
    unfold nI
    rw [List.map_map]
    exact (List.map_congr_left (g := id) fun x _ => Int.toNat_natCast x).trans (List.map_id l)
  rw [← e l, h, e l']
theorem nI_perm {ns : List Int} {l : List Nat} (p : ns.Perm (nI l)) : ∃ l', ns = nI l' ∧ l'.Perm l := by
  refine ⟨ns.map Int.toNat, ?_, ?_⟩
  · have hn : ∀ x ∈ ns, 0 ≤ x := fun x hx => by
      obtain ⟨s, _, e⟩ := List.mem_map.mp (p.mem_iff.mp hx)
      omega
    unfold nI
    rw [List.map_map]
    have e2 : ns.map ((fun s : Nat => (s : Int)) ∘ Int.toNat) = ns.map id := List.map_congr_left fun x hx => by
      show ((x.toNat : Nat) : Int) = x
      exact Int.toNat_of_nonneg (hn x hx)
    rw [e2, List.map_id]
  · have q := p.map Int.toNat
    unfold nI at q
    rw [List.map_map] at q
    refine q.trans (List.Perm.of_eq ?_)
    exact (List.map_congr_left (g := id) fun x _ => Int.toNat_natCast x).trans (List.map_id l)
theorem sort_lowest {order : List Nat} {ns' : List Int} (p : order.Perm f) (nd : f.Nodup) (h : Ord .lowest cnt f) (p' : ns'.Perm (nI order)) (o : ns'.Pairwise (· ≤ ·)) : ns' = nI f := by
  obtain ⟨l', e, q⟩ := nI_perm p'
  subst e
  have nd' : l'.Nodup := (q.trans p).nodup_iff.mpr nd
  refine congrArg nI (ord_uniq (r := .lowest) (cnt := cnt) (.inl rfl) (fun _ => ?_) h (q.trans p))
  unfold nI at o
  rw [List.pairwise_map] at o
  refine List.Pairwise.imp_of_mem (R := fun (a b : Nat) => a ≠ b ∧ (a : Int) ≤ (b : Int)) (fun {a b} _ _ z => ?_) (List.Pairwise.and (show l'.Pairwise (fun a b => a ≠ b) from nd') o)
  unfold ltB
  simp
  omega
theorem sort_least {order : List Nat} (p : order.Perm f) (nd : f.Nodup) (h : Ord .least cnt f) (kf : Int → Int) (hk : ∀ s ∈ f, kf (s : Int) = cn cnt s) : (nI order).mergeSort (leK kf) = nI f := by
  obtain ⟨l', e, q⟩ := nI_perm (List.mergeSort_perm (nI order) (leK kf))
  rw [e]
  have nd' : l'.Nodup := (q.trans p).nodup_iff.mpr nd
  refine congrArg nI (ord_uniq (r := .least) (cnt := cnt) (.inr rfl) (fun _ => ?_) h (q.trans p))
  have o := List.pairwise_mergeSort (le := leK kf) (fun a b c h1 h2 => by unfold leK at *; simp at *; omega) (fun a b => by unfold leK; simp; omega) (nI order)
  rw [e] at o
  unfold nI at o
  rw [List.pairwise_map] at o
  refine List.Pairwise.imp_of_mem (R := fun (a b : Nat) => a ≠ b ∧ leK kf (a : Int) (b : Int) = true) (fun {a b} ha hb z => ?_) (List.Pairwise.and (show l'.Pairwise (fun a b => a ≠ b) from nd') o)
  have ka := hk a ((q.trans p).mem_iff.mp ha)
  have kb := hk b ((q.trans p).mem_iff.mp hb)
  obtain ⟨z1, z2⟩ := z
  unfold leK at z2
  unfold ltB
  simp [ka, kb] at z2 ⊢
  omega
end
end Sw
namespace Sw
open PySem PySem.Spec PyProof.Rows L2 LamX
/-! What changes and what stays: tables of code objects grow, the rest stands but for the addresses fp -/
def Al (H : Hp) (b : Addr) : Prop := ∃ o, H b = some o ∧ ∀ ps, o ≠ .tbl ps
/-- a list, a dict or an instance -/
def isW : HO → Bool
  | .lst _ => true
  | .dK _ => true
  | .ins _ _ _ => true
  | _ => false
structure Kp (T : List (Addr × Str)) (fp : List Addr) (H H' : Hp) : Prop where
  k : ∀ b o, H b = some o → b ∉ fp → (∀ ps, o ≠ .tbl ps) → H' b = some o
  t : ∀ b xs, H b = some (.tup xs) → H' b = some (.tup xs)
  al : ∀ b, Al H b → Al H' b
  tab : Tabs T H → Tabs T H'
def Fr (H : Hp) (fp fp' : List Addr) : Prop := ∀ b ∈ fp', b ∈ fp ∨ ¬ Al H b
def Dj (l l' : List Addr) : Prop := ∀ b ∈ l, b ∉ l'
section
variable {T : List (Addr × Str)} {fp fp' fp1 fp2 : List Addr} {H H1 H2 H' : Hp} {a b p : Addr} {o o' : HO} {xs : List V}
theorem Al.of (h : H a = some o) (n : ∀ ps, o ≠ .tbl ps) : Al H a := ⟨o, h, n⟩
theorem Al.l (h : H a = some (.lst xs)) : Al H a := ⟨_, h, fun _ z => by cases z⟩
theorem Al.tu (h : H a = some (.tup xs)) : Al H a := ⟨_, h, fun _ z => by cases z⟩
theorem Al.d {kvs : List (Key × V)} (h : H a = some (.dK kvs)) : Al H a := ⟨_, h, fun _ z => by cases z⟩
theorem Al.i {C dx : Addr} {fs : List (Str × V)} (h : H a = some (.ins C dx fs)) : Al H a := ⟨_, h, fun _ z => by cases z⟩
theorem Al.w (h : H a = some o) (w : isW o = true) : Al H a := ⟨o, h, fun ps z => by subst z; cases w⟩
theorem nAl (h : H a = none) : ¬ Al H a := fun ⟨o, e, _⟩ => by rw [h] at e; cases e
theorem Al.ne (h : Al H a) (n : ¬ Al H b) : a ≠ b := fun e => n (e ▸ h)
theorem Kp.refl : Kp T fp H H := ⟨fun _ _ h _ _ => h, fun _ _ h => h, fun _ h => h, fun h => h⟩
theorem Kp.mono (k : Kp T fp H H') (h : ∀ b ∈ fp, b ∈ fp') : Kp T fp' H H' := ⟨fun b o e n z => k.k b o e (fun m => n (h b m)) z, k.t, k.al, k.tab⟩
theorem Kp.trans (k1 : Kp T fp H H1) (k2 : Kp T fp2 H1 H2) (f : Fr H fp fp2) : Kp T fp H H2 :=
  ⟨fun b o e n z => k2.k b o (k1.k b o e n z) (fun m => (f b m).elim n fun q => q ⟨o, e, z⟩) z, fun b xs e => k2.t b xs (k1.t b xs e), fun b h => k2.al b (k1.al b h), fun h => k2.tab (k1.tab h)⟩
/-- the same change spots, one behind the other -/
theorem Kp.then (k1 : Kp T fp H H1) (k2 : Kp T fp H1 H2) : Kp T fp H H2 := k1.trans k2 fun b m => .inl m
theorem Kp.back (k : Kp T fp H H') (h : ¬ Al H' b) : ¬ Al H b := fun z => h (k.al b z)
theorem Kp.get (k : Kp T fp H H') (h : H b = some o) (n : b ∉ fp) (w : isW o = true) : H' b = some o := k.k b o h n fun ps z => by subst z; cases w
theorem Fr.refl : Fr H fp fp := fun _ h => .inl h
theorem Fr.sub (h : ∀ b ∈ fp', b ∈ fp) : Fr H fp fp' := fun b m => .inl (h b m)
theorem Fr.trans (k : Kp T fp1 H H1) (f : Fr H fp fp') (g : Fr H1 fp' fp2) : Fr H fp fp2 := fun b m => (g b m).elim (fun z => f b z) fun z => .inr (k.back z)
theorem Kp.new (h : H p = none) (n : ∀ ps, o ≠ .tbl ps) : Kp T fp H (upd H p o) :=
  ⟨fun b u e _ _ => by rw [upd_ne (ne_of_none e h)]; exact e, fun b xs e => by rw [upd_ne (ne_of_none e h)]; exact e, fun b ⟨u, e, z⟩ => ⟨u, by rw [upd_ne (ne_of_none e h)]; exact e, z⟩, fun t => t.ext fun b u e => by rw [upd_ne (ne_of_none e h)]; exact e⟩
theorem Kp.ext (e : ExtN H H1) (t : Tabs T H1) : Kp T fp H H1 := ⟨fun b o h _ n => e b o h n, fun b xs h => e b _ h (fun ps z => by cases z), fun b ⟨o, h, n⟩ => ⟨o, e b o h n, n⟩, fun _ => t⟩
theorem Kp.write (h : H a = some o) (w : isW o = true) (w' : isW o' = true) (hm : a ∈ fp) : Kp T fp H (upd H a o') where
  k := fun b u e n _ => by
    have ne : b ≠ a := fun z => n (z ▸ hm)
    rw [upd_ne ne]
    exact e
  t := fun b xs e => by
    have ne : b ≠ a := fun z => by
      rw [z, h] at e
      cases e
      cases w
    rw [upd_ne ne]
    exact e
  al := fun b ⟨u, e, z⟩ => by
    by_cases hb : b = a
    · rw [hb]
      exact Al.w upd_same w'
    · exact ⟨u, by rw [upd_ne hb]; exact e, z⟩
  tab := fun t p hp => by
    obtain ⟨ps, h1, h2, h3⟩ := t p hp
    have n1 : p.1 ≠ a := fun z => by
      rw [z, h] at h1
      cases h1
      cases w
    refine ⟨ps, by rw [upd_ne n1]; exact h1, h2, fun pos cv hc => ?_⟩
    obtain ⟨c, e1, e2⟩ := h3 pos cv hc
    have n2 : c ≠ a := fun z => by
      rw [z, h] at e2
      unfold CodeO at e2
      cases e2
      cases w
    exact ⟨c, e1, by rw [upd_ne n2]; exact e2⟩
theorem Dj.symm {l l' : List Addr} (d : Dj l l') : Dj l' l := fun b h z => d b z h
theorem Dj.fresh {l : List Addr} (d : Dj fp l) (f : Fr H fp fp') (al : ∀ b ∈ l, Al H b) : Dj fp' l := fun b h z => (f b h).elim (fun q => d b q z) fun q => q (al b z)
end
/-! values that the maps hold -/
inductive Vd (vp : List Addr) (H : Hp) : V → PyData → Prop
  | non : Vd vp H .non .none
  | int (i : Int) : Vd vp H (.int i) (.int i)
  | str (x : Str) (h : SeqAt.shaped (.str x) = true) : Vd vp H (.str x) (.str x)
  | lst (a : Addr) (ns : List Int) (m : a ∈ vp) (h : H a = some (.lst (ns.map V.int))) : Vd vp H (.ref a) (.list (ns.map PyData.int))
  | tup (a : Addr) (ns : List Int) (h : H a = some (.tup (ns.map V.int))) : Vd vp H (.ref a) (.tuple (ns.map PyData.int))
theorem dp_ints {K : PySem.W.Frag} {H : Hp} : ∀ ns : List Int, DpAll K H (ns.map V.int) (ns.map PyData.int)
  | [] => .nil
  | n :: ns => .cons (.int n) (dp_ints ns)
theorem lay_ints : ∀ ns : List Int, PyData.canLayAll0 (ns.map PyData.int) = true
  | [] => by simp [PyData.canLayAll0]
  | n :: ns => by
    have := lay_ints ns
    simp [PyData.canLayAll0, PyData.canLay0] at this ⊢
    exact this
theorem dep_ints : ∀ ns : List Int, PyData.depthAll (ns.map PyData.int) = 0
  | [] => by simp [PyData.depthAll]
  | n :: ns => by
    have := dep_ints ns
    simp [PyData.depthAll, PyData.depth] at this ⊢
    exact this
theorem shaped_ints (ns : List Int) : SeqAt.shaped (.list (ns.map PyData.int)) = true := by
  unfold SeqAt.shaped
  have h1 := lay_ints ns
  have h2 := dep_ints ns
  simp [PyData.canLay0, PyData.depth, h1, h2]
theorem shaped_intsT (ns : List Int) : SeqAt.shaped (.tuple (ns.map PyData.int)) = true := by
  unfold SeqAt.shaped
  have h1 := lay_ints ns
  have h2 := dep_ints ns
  simp [PyData.canLay0, PyData.depth, h1, h2]
section
variable {vp vp' : List Addr} {H H' : Hp} {v : V} {d : PyData} {K : PySem.W.Frag} {T : List (Addr × Str)} {fp : List Addr}
theorem Vd.dp (h : Vd vp H v d) : Dp K H v d := by
  cases h with
  | non => exact .non
  | int i => exact .int i
  | str x => exact .str x
  | lst a ns m h => exact .lst (SqL.of h) (dp_ints ns)
  | tup a ns h => exact .tup (SqT.of h) (dp_ints ns)
theorem Vd.shaped (h : Vd vp H v d) : SeqAt.shaped d = true := by
  cases h with
  | non => rfl
  | int i => rfl
  | str x h => exact h
  | lst a ns m h => exact shaped_ints ns
  | tup a ns h => exact shaped_intsT ns
theorem Vd.mono (h : Vd vp H v d) (m : ∀ b ∈ vp, b ∈ vp') : Vd vp' H v d := by
  cases h with
  | non => exact .non
  | int i => exact .int i
  | str x h => exact .str x h
  | lst a ns e h => exact .lst a ns (m a e) h
  | tup a ns h => exact .tup a ns h
theorem Vd.keep (h : Vd vp H v d) (k : Kp T fp H H') (dj : Dj fp vp) : Vd vp H' v d := by
  cases h with
  | non => exact .non
  | int i => exact .int i
  | str x h => exact .str x h
  | lst a ns e h => exact .lst a ns e (k.get h (dj.symm a e) rfl)
  | tup a ns h => exact .tup a ns (k.t a _ h)
end
/-! a slot map at its addresses -/
def fr (l : List Nat) : List V := l.map fun (s : Nat) => V.int (s : Int)
theorem fr_nI (l : List Nat) : fr l = (nI l).map V.int := by unfold fr nI; rw [List.map_map]; rfl
structure SA where
  p : Addr
  lo : Addr
  la : Addr
  lt : Addr
  dh : Addr
def SA.fp (a : SA) : List Addr := [a.p, a.lo, a.la, a.lt, a.dh]
def fsl (A : Ag) (a : SA) : List (Str × V) := [("n", .int A.n), ("limit", .int A.lim), ("generations", .int A.g), ("rule", .str A.r.s), ("order", .ref a.lo), ("ages", .ref a.la), ("taken", .ref a.lt), ("held", .ref a.dh)]
def kvl (live : List (Nat × PyData)) (vs : List V) : List (Key × V) := (live.map fun p => (Sum.inl (p.1 : Int) : Key)).zip vs
abbrev Vds (vp : List Addr) (H : Hp) : List V → List (Nat × PyData) → Prop := Paired fun v p => Vd vp H v p.2
structure SlotsAt (C : Addr) (H : Hp) (vp : List Addr) (A : Ag) (S : SM) (a : SA) : Prop where
  ob : ∃ dx, H a.p = some (.ins C dx (fsl A a))
  ord : ∃ order : List Nat, H a.lo = some (.lst (fr order)) ∧ order.Perm S.free ∧ (¬ Srt A.r → order = S.free)
  ages : H a.la = some (.lst (fr (S.live.map (·.1))))
  tak : H a.lt = some (.lst (S.cnt.map V.int))
  held : ∃ vs, H a.dh = some (.dK (kvl S.live vs)) ∧ Vds vp H vs S.live
  n1 : a.lo ≠ a.la
  n2 : a.lo ≠ a.lt
  n3 : a.la ≠ a.lt
  dj : Dj a.fp vp
  va : ∀ b ∈ vp, Al H b
/-- the notes of a map -/
structure NA where
  q : Addr
  lc : Addr
  lf : Addr
  lv : Addr
  tn : Addr
def NA.fp (a : NA) : List Addr := [a.q, a.lc, a.lf, a.lv]
def nkv (a : NA) : List (Key × V) := [(Sum.inr "numbers", .ref a.tn), (Sum.inr "counts", .ref a.lc), (Sum.inr "free", .ref a.lf), (Sum.inr "live", .ref a.lv)]
def agV (A : Ag) : List V := [.int A.n, .int A.lim, .int A.g, .str A.r.s]
def hdV (A : Ag) (s : Nat) (c : Int) : List V := [.int (s : Int), .int (gen A c)]
def Row (H : Hp) (vp : List Addr) (A : Ag) (cnt : List Int) (t : Addr) (p : Nat × PyData) : Prop := ∃ h v, H t = some (.tup [.ref h, v]) ∧ H h = some (.tup (hdV A p.1 (cn cnt p.1))) ∧ Vd vp H v p.2
structure NotesAt (H : Hp) (vp : List Addr) (A : Ag) (S : SM) (a : NA) : Prop where
  ob : H a.q = some (.dK (nkv a))
  nums : H a.tn = some (.tup (agV A))
  cnt : H a.lc = some (.lst (S.cnt.map V.int))
  free : H a.lf = some (.lst (fr S.free))
  live : ∃ ts : List Addr, H a.lv = some (.lst (ts.map V.ref)) ∧ Paired (Row H vp A S.cnt) ts S.live
  n1 : a.lc ≠ a.lf
  n2 : a.lc ≠ a.lv
  n3 : a.lf ≠ a.lv
  dj : Dj a.fp vp
  va : ∀ b ∈ vp, Al H b
section
variable {vp vp' : List Addr} {H H' : Hp} {K : PySem.W.Frag} {T : List (Addr × Str)} {fp : List Addr} {C : Addr} {A : Ag} {S : SM} {a : SA} {n : NA}
theorem SlotsAt.al (s : SlotsAt C H vp A S a) : ∀ b ∈ a.fp, Al H b := fun b hb => by
  obtain ⟨dx, h1⟩ := s.ob
  obtain ⟨o, h2, _⟩ := s.ord
  obtain ⟨vs, h3, _⟩ := s.held
  simp only [SA.fp, List.mem_cons, List.not_mem_nil, or_false] at hb
  rcases hb with e | e | e | e | e <;> subst e
  · exact Al.i h1
  · exact Al.l h2
  · exact Al.l s.ages
  · exact Al.l s.tak
  · exact Al.d h3
theorem NotesAt.al (s : NotesAt H vp A S n) : ∀ b ∈ n.fp, Al H b := fun b hb => by
  obtain ⟨ts, h3, _⟩ := s.live
  simp only [NA.fp, List.mem_cons, List.not_mem_nil, or_false] at hb
  rcases hb with e | e | e | e <;> subst e
  · exact Al.d s.ob
  · exact Al.l s.cnt
  · exact Al.l s.free
  · exact Al.l h3
theorem Paired.imp {α β : Type} {F G : α → β → Prop} : ∀ {l₁ : List α} {l₂ : List β}, Paired F l₁ l₂ → (∀ a b, F a b → G a b) → Paired G l₁ l₂ := fun h f => L2.Paired.mapP h f
theorem SlotsAt.keep (s : SlotsAt C H vp A S a) (k : Kp T fp H H') (d1 : Dj fp a.fp) (d2 : Dj fp vp) : SlotsAt C H' vp A S a := by
  obtain ⟨dx, h1⟩ := s.ob
  obtain ⟨o, h2, h2'⟩ := s.ord
  obtain ⟨vs, h3, h3'⟩ := s.held
  have m : ∀ b, b ∈ a.fp → b ∉ fp := fun b hb z => d1 b z hb
  exact ⟨⟨dx, k.get h1 (m _ (by simp [SA.fp])) rfl⟩, ⟨o, k.get h2 (m _ (by simp [SA.fp])) rfl, h2'⟩, k.get s.ages (m _ (by simp [SA.fp])) rfl, k.get s.tak (m _ (by simp [SA.fp])) rfl, ⟨vs, k.get h3 (m _ (by simp [SA.fp])) rfl, Paired.imp h3' fun v p z => z.keep k d2⟩,
    s.n1, s.n2, s.n3, s.dj, fun b hb => k.al b (s.va b hb)⟩
theorem Row.keep {cnt : List Int} {t : Addr} {p : Nat × PyData} (r : Row H vp A cnt t p) (k : Kp T fp H H') (d2 : Dj fp vp) : Row H' vp A cnt t p := by
  obtain ⟨h, v, e1, e2, e3⟩ := r
  exact ⟨h, v, k.t _ _ e1, k.t _ _ e2, e3.keep k d2⟩
theorem NotesAt.keep (s : NotesAt H vp A S n) (k : Kp T fp H H') (d1 : Dj fp n.fp) (d2 : Dj fp vp) : NotesAt H' vp A S n := by
  obtain ⟨ts, h3, h3'⟩ := s.live
  have m : ∀ b, b ∈ n.fp → b ∉ fp := fun b hb z => d1 b z hb
  exact ⟨k.get s.ob (m _ (by simp [NA.fp])) rfl, k.t _ _ s.nums, k.get s.cnt (m _ (by simp [NA.fp])) rfl, k.get s.free (m _ (by simp [NA.fp])) rfl, ⟨ts, k.get h3 (m _ (by simp [NA.fp])) rfl, Paired.imp h3' fun v p z => z.keep k d2⟩,
    s.n1, s.n2, s.n3, s.dj, fun b hb => k.al b (s.va b hb)⟩
theorem SlotsAt.pool (s : SlotsAt C H vp A S a) (m : ∀ b ∈ vp, b ∈ vp') (d : Dj a.fp vp') (va : ∀ b ∈ vp', Al H b) : SlotsAt C H vp' A S a := by
  obtain ⟨vs, h3, h3'⟩ := s.held
  exact ⟨s.ob, s.ord, s.ages, s.tak, ⟨vs, h3, Paired.imp h3' fun v p z => z.mono m⟩, s.n1, s.n2, s.n3, d, va⟩
theorem NotesAt.pool (s : NotesAt H vp A S n) (m : ∀ b ∈ vp, b ∈ vp') (d : Dj n.fp vp') (va : ∀ b ∈ vp', Al H b) : NotesAt H vp' A S n := by
  obtain ⟨ts, h3, h3'⟩ := s.live
  exact ⟨s.ob, s.nums, s.cnt, s.free, ⟨ts, h3, Paired.imp h3' fun v p ⟨h, w, e1, e2, e3⟩ => ⟨h, w, e1, e2, e3.mono m⟩⟩, s.n1, s.n2, s.n3, d, va⟩
end
/-! the fields -/
section
variable {A : Ag} {a : SA}
theorem f_n : (fsl A a).lookup ("n" : Str) = some (.int A.n) := by rfl
theorem f_lim : (fsl A a).lookup ("limit" : Str) = some (.int A.lim) := by rfl
theorem f_g : (fsl A a).lookup ("generations" : Str) = some (.int A.g) := by rfl
theorem f_r : (fsl A a).lookup ("rule" : Str) = some (.str A.r.s) := by rfl
theorem f_o : (fsl A a).lookup ("order" : Str) = some (.ref a.lo) := by rfl
theorem f_a : (fsl A a).lookup ("ages" : Str) = some (.ref a.la) := by rfl
theorem f_t : (fsl A a).lookup ("taken" : Str) = some (.ref a.lt) := by rfl
theorem f_h : (fsl A a).lookup ("held" : Str) = some (.ref a.dh) := by rfl
theorem p_o {x : Addr} : putF ("order" : Str) (.ref x) (fsl A a) = fsl A { a with lo := x } := by rfl
theorem p_a {x : Addr} : putF ("ages" : Str) (.ref x) (fsl A a) = fsl A { a with la := x } := by rfl
theorem p_t {x : Addr} : putF ("taken" : Str) (.ref x) (fsl A a) = fsl A { a with lt := x } := by rfl
theorem p_h {x : Addr} : putF ("held" : Str) (.ref x) (fsl A a) = fsl A { a with dh := x } := by rfl
end
end Sw
namespace Sw
open PySem PySem.Spec PyProof.Rows L2
def top (i : Nat) : Stmt := PySem.Challenge.pw_slotwraps_k57_whole_maps_with_unlike_cou.main.body.getD i (.Pass ⟨0, 0, 0, 0⟩)
abbrev s_is_integer : Stmt := top 10
abbrev s_is_between : Stmt := top 11
abbrev s_is_rule : Stmt := top 12
abbrev s_taking_order : Stmt := top 13
abbrev s_order_behind : Stmt := top 14
abbrev s_check_map : Stmt := top 18
abbrev s_m_init : Stmt := inClass (top 19) 0
abbrev s_m_generation_of : Stmt := inClass (top 19) 1
abbrev s_m_contains : Stmt := inClass (top 19) 2
abbrev s_m_check_handle : Stmt := inClass (top 19) 3
abbrev s_m_take : Stmt := inClass (top 19) 4
abbrev s_m_give : Stmt := inClass (top 19) 5
abbrev s_m_getitem : Stmt := inClass (top 19) 6
abbrev s_m_iter : Stmt := inClass (top 19) 7
abbrev s_m_len : Stmt := inClass (top 19) 8
abbrev s_m_eq : Stmt := inClass (top 19) 9
abbrev s_m_arguments : Stmt := inClass (top 19) 10
abbrev s_m_state : Stmt := inClass (top 19) 11
abbrev s_m_counts : Stmt := inClass (top 19) 12
abbrev s_m_live : Stmt := inClass (top 19) 13
abbrev s_m_free : Stmt := inClass (top 19) 14
abbrev s_m_copy : Stmt := inClass (top 19) 15
abbrev s_m_put_back : Stmt := inClass (top 19) 16
abbrev s_is_deed : Stmt := top 24
abbrev s_look_block : Stmt := top 25
abbrev s_takes_of : Stmt := top 26
abbrev s_execute : Stmt := top 27
abbrev s_arranged : Stmt := top 28
abbrev s_cycle_from : Stmt := top 29
abbrev s_passed : Stmt := top 30
abbrev s_leap : Stmt := top 31
abbrev s_look_times : Stmt := top 32
abbrev s_repeat : Stmt := top 33
abbrev s_L_cell_at : Stmt := top 35
abbrev s_L_state : Stmt := top 36
abbrev s_L_digit : Stmt := top 37
abbrev s_L_one : Stmt := top 38
abbrev s_L_notes : Stmt := top 39
abbrev s_L_taken : Stmt := top 40
abbrev s_L_given : Stmt := top 41
abbrev s_L_as_noted : Stmt := top 42
abbrev s_L_are : Stmt := top 43
abbrev s_L_round : Stmt := top 44
abbrev s_L_begun : Stmt := top 45
abbrev s_L_levelled : Stmt := top 46
abbrev s_L_by_turns : Stmt := top 47
abbrev s_L_by_repeat : Stmt := top 48
abbrev s_L_amounts : Stmt := top 49
abbrev s_L_right : Stmt := top 50
abbrev s_L_known_right : Stmt := top 51
abbrev s_law : Stmt := top 52
def d_is_integer : He.DefD := ⟨("is_integer", none), "is_integer", "is_integer", defArgs s_is_integer, defBody s_is_integer, defScope s_is_integer, [], []⟩
def d_is_between : He.DefD := ⟨("is_between", none), "is_between", "is_between", defArgs s_is_between, defBody s_is_between, defScope s_is_between, [], []⟩
def d_is_rule : He.DefD := ⟨("is_rule", none), "is_rule", "is_rule", defArgs s_is_rule, defBody s_is_rule, defScope s_is_rule, [], []⟩
def d_taking_order : He.DefD := ⟨("taking_order", none), "taking_order", "taking_order", defArgs s_taking_order, defBody s_taking_order, defScope s_taking_order, [], []⟩
def d_order_behind : He.DefD := ⟨("order_behind", none), "order_behind", "order_behind", defArgs s_order_behind, defBody s_order_behind, defScope s_order_behind, [], []⟩
def d_check_map : He.DefD := ⟨("check_map", none), "check_map", "check_map", defArgs s_check_map, defBody s_check_map, defScope s_check_map, [], []⟩
def d_m_init : He.DefD := ⟨("Slots", some "__init__"), "__init__", "Slots.__init__", defArgs s_m_init, defBody s_m_init, defScope s_m_init, [], []⟩
def d_m_generation_of : He.DefD := ⟨("Slots", some "generation_of"), "generation_of", "Slots.generation_of", defArgs s_m_generation_of, defBody s_m_generation_of, defScope s_m_generation_of, [], []⟩
def d_m_contains : He.DefD := ⟨("Slots", some "__contains__"), "__contains__", "Slots.__contains__", defArgs s_m_contains, defBody s_m_contains, defScope s_m_contains, [], []⟩
def d_m_check_handle : He.DefD := ⟨("Slots", some "check_handle"), "check_handle", "Slots.check_handle", defArgs s_m_check_handle, defBody s_m_check_handle, defScope s_m_check_handle, [], []⟩
def d_m_take : He.DefD := ⟨("Slots", some "take"), "take", "Slots.take", defArgs s_m_take, defBody s_m_take, defScope s_m_take, [], []⟩
def d_m_give : He.DefD := ⟨("Slots", some "give"), "give", "Slots.give", defArgs s_m_give, defBody s_m_give, defScope s_m_give, [], []⟩
def d_m_getitem : He.DefD := ⟨("Slots", some "__getitem__"), "__getitem__", "Slots.__getitem__", defArgs s_m_getitem, defBody s_m_getitem, defScope s_m_getitem, [], []⟩
def d_m_iter : He.DefD := ⟨("Slots", some "__iter__"), "__iter__", "Slots.__iter__", defArgs s_m_iter, defBody s_m_iter, defScope s_m_iter, [], []⟩
def d_m_len : He.DefD := ⟨("Slots", some "__len__"), "__len__", "Slots.__len__", defArgs s_m_len, defBody s_m_len, defScope s_m_len, [], []⟩
def d_m_eq : He.DefD := ⟨("Slots", some "__eq__"), "__eq__", "Slots.__eq__", defArgs s_m_eq, defBody s_m_eq, defScope s_m_eq, [], []⟩
def d_m_arguments : He.DefD := ⟨("Slots", some "arguments"), "arguments", "Slots.arguments", defArgs s_m_arguments, defBody s_m_arguments, defScope s_m_arguments, [], []⟩
def d_m_state : He.DefD := ⟨("Slots", some "state"), "state", "Slots.state", defArgs s_m_state, defBody s_m_state, defScope s_m_state, [], []⟩
def d_m_counts : He.DefD := ⟨("Slots", some "counts"), "counts", "Slots.counts", defArgs s_m_counts, defBody s_m_counts, defScope s_m_counts, [], []⟩
def d_m_live : He.DefD := ⟨("Slots", some "live"), "live", "Slots.live", defArgs s_m_live, defBody s_m_live, defScope s_m_live, [], []⟩
def d_m_free : He.DefD := ⟨("Slots", some "free"), "free", "Slots.free", defArgs s_m_free, defBody s_m_free, defScope s_m_free, [], []⟩
def d_m_copy : He.DefD := ⟨("Slots", some "copy"), "copy", "Slots.copy", defArgs s_m_copy, defBody s_m_copy, defScope s_m_copy, [], []⟩
def d_m_put_back : He.DefD := ⟨("Slots", some "put_back"), "put_back", "Slots.put_back", defArgs s_m_put_back, defBody s_m_put_back, defScope s_m_put_back, [], []⟩
def d_is_deed : He.DefD := ⟨("is_deed", none), "is_deed", "is_deed", defArgs s_is_deed, defBody s_is_deed, defScope s_is_deed, [], []⟩
def d_look_block : He.DefD := ⟨("look_block", none), "look_block", "look_block", defArgs s_look_block, defBody s_look_block, defScope s_look_block, [], []⟩
def d_takes_of : He.DefD := ⟨("takes_of", none), "takes_of", "takes_of", defArgs s_takes_of, defBody s_takes_of, defScope s_takes_of, [], []⟩
def d_execute : He.DefD := ⟨("execute", none), "execute", "execute", defArgs s_execute, defBody s_execute, defScope s_execute, [], []⟩
def d_arranged : He.DefD := ⟨("arranged", none), "arranged", "arranged", defArgs s_arranged, defBody s_arranged, defScope s_arranged, [], []⟩
def d_cycle_from : He.DefD := ⟨("cycle_from", none), "cycle_from", "cycle_from", defArgs s_cycle_from, defBody s_cycle_from, defScope s_cycle_from, [], []⟩
def d_passed : He.DefD := ⟨("passed", none), "passed", "passed", defArgs s_passed, defBody s_passed, defScope s_passed, [], []⟩
def d_leap : He.DefD := ⟨("leap", none), "leap", "leap", defArgs s_leap, defBody s_leap, defScope s_leap, [], []⟩
def d_look_times : He.DefD := ⟨("look_times", none), "look_times", "look_times", defArgs s_look_times, defBody s_look_times, defScope s_look_times, [], []⟩
def d_repeat : He.DefD := ⟨("repeat", none), "repeat", "repeat", defArgs s_repeat, defBody s_repeat, defScope s_repeat, [], []⟩
def d_L_cell_at : He.DefD := ⟨("_law_cell_at", none), "_law_cell_at", "_law_cell_at", defArgs s_L_cell_at, defBody s_L_cell_at, defScope s_L_cell_at, [], []⟩
def d_L_state : He.DefD := ⟨("_law_state", none), "_law_state", "_law_state", defArgs s_L_state, defBody s_L_state, defScope s_L_state, [], []⟩
def d_L_digit : He.DefD := ⟨("_law_digit", none), "_law_digit", "_law_digit", defArgs s_L_digit, defBody s_L_digit, defScope s_L_digit, [], []⟩
def d_L_one : He.DefD := ⟨("_law_one", none), "_law_one", "_law_one", defArgs s_L_one, defBody s_L_one, defScope s_L_one, [], []⟩
def d_L_notes : He.DefD := ⟨("_law_notes", none), "_law_notes", "_law_notes", defArgs s_L_notes, defBody s_L_notes, defScope s_L_notes, [], []⟩
def d_L_taken : He.DefD := ⟨("_law_taken", none), "_law_taken", "_law_taken", defArgs s_L_taken, defBody s_L_taken, defScope s_L_taken, [], []⟩
def d_L_given : He.DefD := ⟨("_law_given", none), "_law_given", "_law_given", defArgs s_L_given, defBody s_L_given, defScope s_L_given, [], []⟩
def d_L_as_noted : He.DefD := ⟨("_law_as_noted", none), "_law_as_noted", "_law_as_noted", defArgs s_L_as_noted, defBody s_L_as_noted, defScope s_L_as_noted, [], []⟩
def d_L_are : He.DefD := ⟨("_law_are", none), "_law_are", "_law_are", defArgs s_L_are, defBody s_L_are, defScope s_L_are, [], []⟩
def d_L_round : He.DefD := ⟨("_law_round", none), "_law_round", "_law_round", defArgs s_L_round, defBody s_L_round, defScope s_L_round, [], []⟩
def d_L_begun : He.DefD := ⟨("_law_begun", none), "_law_begun", "_law_begun", defArgs s_L_begun, defBody s_L_begun, defScope s_L_begun, [], []⟩
def d_L_levelled : He.DefD := ⟨("_law_levelled", none), "_law_levelled", "_law_levelled", defArgs s_L_levelled, defBody s_L_levelled, defScope s_L_levelled, [], []⟩
def d_L_by_turns : He.DefD := ⟨("_law_by_turns", none), "_law_by_turns", "_law_by_turns", defArgs s_L_by_turns, defBody s_L_by_turns, defScope s_L_by_turns, [], []⟩
def d_L_by_repeat : He.DefD := ⟨("_law_by_repeat", none), "_law_by_repeat", "_law_by_repeat", defArgs s_L_by_repeat, defBody s_L_by_repeat, defScope s_L_by_repeat, [], []⟩
def d_L_amounts : He.DefD := ⟨("_law_amounts", none), "_law_amounts", "_law_amounts", defArgs s_L_amounts, defBody s_L_amounts, defScope s_L_amounts, [], []⟩
def d_L_right : He.DefD := ⟨("_law_right", none), "_law_right", "_law_right", defArgs s_L_right, defBody s_L_right, defScope s_L_right, [], []⟩
def d_L_known_right : He.DefD := ⟨("_law_known_right", none), "_law_known_right", "_law_known_right", defArgs s_L_known_right, defBody s_L_known_right, defScope s_L_known_right, [], []⟩
def d_law : He.DefD := ⟨("law", none), "law", "law", defArgs s_law, defBody s_law, defScope s_law, [], []⟩
def fn : List He.DefD := [d_is_integer, d_is_between, d_is_rule, d_taking_order, d_order_behind, d_check_map, d_m_init, d_m_generation_of, d_m_contains, d_m_check_handle, d_m_take, d_m_give, d_m_getitem, d_m_iter, d_m_len, d_m_eq, d_m_arguments, d_m_state, d_m_counts, d_m_live, d_m_free, d_m_copy, d_m_put_back, d_is_deed, d_look_block, d_takes_of, d_execute, d_arranged, d_cycle_from, d_passed, d_leap, d_look_times, d_repeat, d_L_cell_at, d_L_state, d_L_digit, d_L_one, d_L_notes, d_L_taken, d_L_given, d_L_as_noted, d_L_are, d_L_round, d_L_begun, d_L_levelled, d_L_by_turns, d_L_by_repeat, d_L_amounts, d_L_right, d_L_known_right, d_law]
def fa : List He.Fa := [.glo "is_integer",
  .glo "is_between",
  .glo "is_rule",
  .glo "taking_order",
  .glo "order_behind",
  .glo "check_map",
  .glo "is_deed",
  .glo "look_block",
  .glo "takes_of",
  .glo "execute",
  .glo "arranged",
  .glo "cycle_from",
  .glo "passed",
  .glo "leap",
  .glo "look_times",
  .glo "repeat",
  .glo "_law_cell_at",
  .glo "_law_state",
  .glo "_law_digit",
  .glo "_law_one",
  .glo "_law_notes",
  .glo "_law_taken",
  .glo "_law_given",
  .glo "_law_as_noted",
  .glo "_law_are",
  .glo "_law_round",
  .glo "_law_begun",
  .glo "_law_levelled",
  .glo "_law_by_turns",
  .glo "_law_by_repeat",
  .glo "_law_amounts",
  .glo "_law_right",
  .glo "_law_known_right",
  .glo "law",
  .glo "Slots",
  .glo "RULES",
  .int "MOST_SLOTS" 64,
  .int "MOST_GENERATIONS" 1000000000,
  .int "MAX_DEEDS" 40,
  .int "MAX_TIMES" 1000000000000000000,
  .int "MAX_PLAIN_TIMES" 1000,
  .free "isinstance",
  .free "len",
  .free "all",
  .free "sorted",
  .free "list",
  .free "range",
  .free "dict",
  .free "zip",
  .free "enumerate",
  .free "divmod",
  .free "sum",
  .free "int",
  .free "max",
  .free "min",
  .free "tuple",
  .free "str",
  .free "bool",
  .cls "Slots",
  .mkr "Slots",
  .noat "Slots" "n",
  .noat "Slots" "limit",
  .noat "Slots" "generations",
  .noat "Slots" "rule",
  .noat "Slots" "order",
  .noat "Slots" "ages",
  .noat "Slots" "taken",
  .noat "Slots" "held",
  .meth "Slots" "generation_of",
  .meth "Slots" "__contains__",
  .meth "Slots" "check_handle",
  .meth "Slots" "take",
  .meth "Slots" "give",
  .meth "Slots" "__getitem__",
  .meth "Slots" "__iter__",
  .meth "Slots" "__len__",
  .meth "Slots" "__eq__",
  .meth "Slots" "arguments",
  .meth "Slots" "state",
  .meth "Slots" "counts",
  .meth "Slots" "live",
  .meth "Slots" "free",
  .meth "Slots" "copy",
  .meth "Slots" "put_back"]
def RUL : List He.Dv := [.str "last", .str "first", .str "lowest", .str "least"]
def exB (K : PySem.W.Frag) : Bool := He.tupB K "RULES" RUL && PySem.W.noSeq K (He.ga K "Slots") && PySem.W.notFirst K (He.ga K "Slots") (.ref (He.ga K "Slots")) &&
  PySem.W.fnIn K (He.ma K (He.ga K "Slots") "__getitem__") && decide (PySem.W.mroIn K (He.ga K "Slots") (.type "object") = some true) &&
  He.eqO (PySem.W.findIn K (.ref (He.ga K "Slots")) "__ne__") (some (some (.builtin "object.__ne__"))) &&
  He.eqO (PySem.W.findIn K (.ref (He.ga K "Slots")) "__class__") (some (some (.builtin "object.__class__"))) &&
  He.eqO (PySem.W.specialIn K (.builtin "object.__class__") "__get__") (some (some (.builtin "getset_descriptor.__get__"))) &&
  decide (PySem.W.takesIn K (.builtin "object.__class__") = some true) && decide (PySem.W.kitOne K (.ref (He.ga K "Slots")) (.ref (He.ga K "Slots")) = some true) &&
  decide ((He.cT K ("taking_order", none)).2 ≠ (He.cT K ("_law_given", none)).2)
def tf : List He.Defn := [("taking_order", none), ("_law_given", none)]
abbrev R : PySem.W.OpenRow := PySem.W.OpenLaw.row PySem.Challenge.rw_slotwraps_k57_whole_maps_with_unlike_cou
abbrev hk : PySem.W.Hook := He.hookX 4 fa fn [] tf exB
def ob (s : PySem.W.SharedT) : He.AlX := He.obsX 4 fa fn [] tf exB (HandSHeadRun.getT s)
theorem ob_eq (s : PySem.W.SharedT) : ob s = hk.obs s.abs := He.obsX_eq (HandSHeadRun.getT_eq s)
/-! ### the facts in use -/
structure Tx (K : PySem.W.Frag) (mg : Str → Option Value) (base : Heap) : Prop where
  kin : ∃ h, K.In h ∧ h.Ns mainGlobals mg
  sd : He.SaysD fa fn K
  ex : exB K = true
  tb : ∀ p ∈ tf, LamX.TabB base mg (He.cT K p).1 (He.cT K p).2
section
variable {K : PySem.W.Frag} {mg : Str → Option Value} {base : Heap}
abbrev SC (K : PySem.W.Frag) : Addr := He.ga K "Slots"
theorem Tx.glo (t : Tx K mg base) {x : Str} (c : (He.Fa.glo x).ok K = true) : mg x = some (.ref (He.ga K x)) := by
  obtain ⟨h, X, G⟩ := t.kin
  exact He.glo_ok X G c
theorem Tx.free (t : Tx K mg base) {x : Str} (c : (He.Fa.free x).ok K = true) : mg x = none := by
  obtain ⟨h, X, G⟩ := t.kin
  exact He.free_ok X G c
theorem Tx.int (t : Tx K mg base) {x : Str} {i : Int} (c : (He.Fa.int x i).ok K = true) : ∃ u, mg x = some u ∧ RelV (.int i) u := by
  obtain ⟨h, X, G⟩ := t.kin
  obtain ⟨u, e⟩ := He.int_ok X G c
  exact ⟨_, e, ⟨u, rfl⟩⟩
theorem Tx.g_is_integer (t : Tx K mg base) : mg "is_integer" = some (.ref (He.ga K "is_integer")) := t.glo (t.sd.fact 0 (f := .glo "is_integer") rfl)
theorem Tx.g_is_between (t : Tx K mg base) : mg "is_between" = some (.ref (He.ga K "is_between")) := t.glo (t.sd.fact 1 (f := .glo "is_between") rfl)
theorem Tx.g_is_rule (t : Tx K mg base) : mg "is_rule" = some (.ref (He.ga K "is_rule")) := t.glo (t.sd.fact 2 (f := .glo "is_rule") rfl)
theorem Tx.g_taking_order (t : Tx K mg base) : mg "taking_order" = some (.ref (He.ga K "taking_order")) := t.glo (t.sd.fact 3 (f := .glo "taking_order") rfl)
theorem Tx.g_order_behind (t : Tx K mg base) : mg "order_behind" = some (.ref (He.ga K "order_behind")) := t.glo (t.sd.fact 4 (f := .glo "order_behind") rfl)
theorem Tx.g_check_map (t : Tx K mg base) : mg "check_map" = some (.ref (He.ga K "check_map")) := t.glo (t.sd.fact 5 (f := .glo "check_map") rfl)
theorem Tx.g_is_deed (t : Tx K mg base) : mg "is_deed" = some (.ref (He.ga K "is_deed")) := t.glo (t.sd.fact 6 (f := .glo "is_deed") rfl)
theorem Tx.g_look_block (t : Tx K mg base) : mg "look_block" = some (.ref (He.ga K "look_block")) := t.glo (t.sd.fact 7 (f := .glo "look_block") rfl)
theorem Tx.g_takes_of (t : Tx K mg base) : mg "takes_of" = some (.ref (He.ga K "takes_of")) := t.glo (t.sd.fact 8 (f := .glo "takes_of") rfl)
theorem Tx.g_execute (t : Tx K mg base) : mg "execute" = some (.ref (He.ga K "execute")) := t.glo (t.sd.fact 9 (f := .glo "execute") rfl)
theorem Tx.g_arranged (t : Tx K mg base) : mg "arranged" = some (.ref (He.ga K "arranged")) := t.glo (t.sd.fact 10 (f := .glo "arranged") rfl)
theorem Tx.g_cycle_from (t : Tx K mg base) : mg "cycle_from" = some (.ref (He.ga K "cycle_from")) := t.glo (t.sd.fact 11 (f := .glo "cycle_from") rfl)
theorem Tx.g_passed (t : Tx K mg base) : mg "passed" = some (.ref (He.ga K "passed")) := t.glo (t.sd.fact 12 (f := .glo "passed") rfl)
theorem Tx.g_leap (t : Tx K mg base) : mg "leap" = some (.ref (He.ga K "leap")) := t.glo (t.sd.fact 13 (f := .glo "leap") rfl)
theorem Tx.g_look_times (t : Tx K mg base) : mg "look_times" = some (.ref (He.ga K "look_times")) := t.glo (t.sd.fact 14 (f := .glo "look_times") rfl)
theorem Tx.g_repeat (t : Tx K mg base) : mg "repeat" = some (.ref (He.ga K "repeat")) := t.glo (t.sd.fact 15 (f := .glo "repeat") rfl)
theorem Tx.g_L_cell_at (t : Tx K mg base) : mg "_law_cell_at" = some (.ref (He.ga K "_law_cell_at")) := t.glo (t.sd.fact 16 (f := .glo "_law_cell_at") rfl)
theorem Tx.g_L_state (t : Tx K mg base) : mg "_law_state" = some (.ref (He.ga K "_law_state")) := t.glo (t.sd.fact 17 (f := .glo "_law_state") rfl)
theorem Tx.g_L_digit (t : Tx K mg base) : mg "_law_digit" = some (.ref (He.ga K "_law_digit")) := t.glo (t.sd.fact 18 (f := .glo "_law_digit") rfl)
theorem Tx.g_L_one (t : Tx K mg base) : mg "_law_one" = some (.ref (He.ga K "_law_one")) := t.glo (t.sd.fact 19 (f := .glo "_law_one") rfl)
theorem Tx.g_L_notes (t : Tx K mg base) : mg "_law_notes" = some (.ref (He.ga K "_law_notes")) := t.glo (t.sd.fact 20 (f := .glo "_law_notes") rfl)
theorem Tx.g_L_taken (t : Tx K mg base) : mg "_law_taken" = some (.ref (He.ga K "_law_taken")) := t.glo (t.sd.fact 21 (f := .glo "_law_taken") rfl)
theorem Tx.g_L_given (t : Tx K mg base) : mg "_law_given" = some (.ref (He.ga K "_law_given")) := t.glo (t.sd.fact 22 (f := .glo "_law_given") rfl)
theorem Tx.g_L_as_noted (t : Tx K mg base) : mg "_law_as_noted" = some (.ref (He.ga K "_law_as_noted")) := t.glo (t.sd.fact 23 (f := .glo "_law_as_noted") rfl)
theorem Tx.g_L_are (t : Tx K mg base) : mg "_law_are" = some (.ref (He.ga K "_law_are")) := t.glo (t.sd.fact 24 (f := .glo "_law_are") rfl)
theorem Tx.g_L_round (t : Tx K mg base) : mg "_law_round" = some (.ref (He.ga K "_law_round")) := t.glo (t.sd.fact 25 (f := .glo "_law_round") rfl)
theorem Tx.g_L_begun (t : Tx K mg base) : mg "_law_begun" = some (.ref (He.ga K "_law_begun")) := t.glo (t.sd.fact 26 (f := .glo "_law_begun") rfl)
theorem Tx.g_L_levelled (t : Tx K mg base) : mg "_law_levelled" = some (.ref (He.ga K "_law_levelled")) := t.glo (t.sd.fact 27 (f := .glo "_law_levelled") rfl)
theorem Tx.g_L_by_turns (t : Tx K mg base) : mg "_law_by_turns" = some (.ref (He.ga K "_law_by_turns")) := t.glo (t.sd.fact 28 (f := .glo "_law_by_turns") rfl)
theorem Tx.g_L_by_repeat (t : Tx K mg base) : mg "_law_by_repeat" = some (.ref (He.ga K "_law_by_repeat")) := t.glo (t.sd.fact 29 (f := .glo "_law_by_repeat") rfl)
theorem Tx.g_L_amounts (t : Tx K mg base) : mg "_law_amounts" = some (.ref (He.ga K "_law_amounts")) := t.glo (t.sd.fact 30 (f := .glo "_law_amounts") rfl)
theorem Tx.g_L_right (t : Tx K mg base) : mg "_law_right" = some (.ref (He.ga K "_law_right")) := t.glo (t.sd.fact 31 (f := .glo "_law_right") rfl)
theorem Tx.g_L_known_right (t : Tx K mg base) : mg "_law_known_right" = some (.ref (He.ga K "_law_known_right")) := t.glo (t.sd.fact 32 (f := .glo "_law_known_right") rfl)
theorem Tx.g_law (t : Tx K mg base) : mg "law" = some (.ref (He.ga K "law")) := t.glo (t.sd.fact 33 (f := .glo "law") rfl)
theorem Tx.g_Slots (t : Tx K mg base) : mg "Slots" = some (.ref (He.ga K "Slots")) := t.glo (t.sd.fact 34 (f := .glo "Slots") rfl)
theorem Tx.g_RULES (t : Tx K mg base) : mg "RULES" = some (.ref (He.ga K "RULES")) := t.glo (t.sd.fact 35 (f := .glo "RULES") rfl)
theorem Tx.i_MOST_SLOTS (t : Tx K mg base) : ∃ u, mg "MOST_SLOTS" = some u ∧ RelV (.int 64) u := t.int (t.sd.fact 36 (f := .int "MOST_SLOTS" 64) rfl)
theorem Tx.i_MOST_GENERATIONS (t : Tx K mg base) : ∃ u, mg "MOST_GENERATIONS" = some u ∧ RelV (.int 1000000000) u := t.int (t.sd.fact 37 (f := .int "MOST_GENERATIONS" 1000000000) rfl)
theorem Tx.i_MAX_DEEDS (t : Tx K mg base) : ∃ u, mg "MAX_DEEDS" = some u ∧ RelV (.int 40) u := t.int (t.sd.fact 38 (f := .int "MAX_DEEDS" 40) rfl)
theorem Tx.i_MAX_TIMES (t : Tx K mg base) : ∃ u, mg "MAX_TIMES" = some u ∧ RelV (.int 1000000000000000000) u := t.int (t.sd.fact 39 (f := .int "MAX_TIMES" 1000000000000000000) rfl)
theorem Tx.i_MAX_PLAIN_TIMES (t : Tx K mg base) : ∃ u, mg "MAX_PLAIN_TIMES" = some u ∧ RelV (.int 1000) u := t.int (t.sd.fact 40 (f := .int "MAX_PLAIN_TIMES" 1000) rfl)
theorem Tx.b_isinstance (t : Tx K mg base) : mg "isinstance" = none := t.free (t.sd.fact 41 (f := .free "isinstance") rfl)
theorem Tx.b_len (t : Tx K mg base) : mg "len" = none := t.free (t.sd.fact 42 (f := .free "len") rfl)
theorem Tx.b_all (t : Tx K mg base) : mg "all" = none := t.free (t.sd.fact 43 (f := .free "all") rfl)
theorem Tx.b_sorted (t : Tx K mg base) : mg "sorted" = none := t.free (t.sd.fact 44 (f := .free "sorted") rfl)
theorem Tx.b_list (t : Tx K mg base) : mg "list" = none := t.free (t.sd.fact 45 (f := .free "list") rfl)
theorem Tx.b_range (t : Tx K mg base) : mg "range" = none := t.free (t.sd.fact 46 (f := .free "range") rfl)
theorem Tx.b_dict (t : Tx K mg base) : mg "dict" = none := t.free (t.sd.fact 47 (f := .free "dict") rfl)
theorem Tx.b_zip (t : Tx K mg base) : mg "zip" = none := t.free (t.sd.fact 48 (f := .free "zip") rfl)
theorem Tx.b_enumerate (t : Tx K mg base) : mg "enumerate" = none := t.free (t.sd.fact 49 (f := .free "enumerate") rfl)
theorem Tx.b_divmod (t : Tx K mg base) : mg "divmod" = none := t.free (t.sd.fact 50 (f := .free "divmod") rfl)
theorem Tx.b_sum (t : Tx K mg base) : mg "sum" = none := t.free (t.sd.fact 51 (f := .free "sum") rfl)
theorem Tx.b_int (t : Tx K mg base) : mg "int" = none := t.free (t.sd.fact 52 (f := .free "int") rfl)
theorem Tx.b_max (t : Tx K mg base) : mg "max" = none := t.free (t.sd.fact 53 (f := .free "max") rfl)
theorem Tx.b_min (t : Tx K mg base) : mg "min" = none := t.free (t.sd.fact 54 (f := .free "min") rfl)
theorem Tx.b_tuple (t : Tx K mg base) : mg "tuple" = none := t.free (t.sd.fact 55 (f := .free "tuple") rfl)
theorem Tx.b_str (t : Tx K mg base) : mg "str" = none := t.free (t.sd.fact 56 (f := .free "str") rfl)
theorem Tx.b_bool (t : Tx K mg base) : mg "bool" = none := t.free (t.sd.fact 57 (f := .free "bool") rfl)
theorem Tx.cl (t : Tx K mg base) : Cls K (SC K) := He.cls_ok (t.sd.fact 58 (f := .cls "Slots") rfl)
theorem Tx.mkr (t : Tx K mg base) : Mk K (SC K) (He.ma K (SC K) "__init__") := He.mkr_ok (t.sd.fact 59 (f := .mkr "Slots") rfl)
theorem Tx.a_n (t : Tx K mg base) : NoAttr K (SC K) "n" := He.noat_ok (t.sd.fact 60 (f := .noat "Slots" "n") rfl)
theorem Tx.a_limit (t : Tx K mg base) : NoAttr K (SC K) "limit" := He.noat_ok (t.sd.fact 61 (f := .noat "Slots" "limit") rfl)
theorem Tx.a_generations (t : Tx K mg base) : NoAttr K (SC K) "generations" := He.noat_ok (t.sd.fact 62 (f := .noat "Slots" "generations") rfl)
theorem Tx.a_rule (t : Tx K mg base) : NoAttr K (SC K) "rule" := He.noat_ok (t.sd.fact 63 (f := .noat "Slots" "rule") rfl)
theorem Tx.a_order (t : Tx K mg base) : NoAttr K (SC K) "order" := He.noat_ok (t.sd.fact 64 (f := .noat "Slots" "order") rfl)
theorem Tx.a_ages (t : Tx K mg base) : NoAttr K (SC K) "ages" := He.noat_ok (t.sd.fact 65 (f := .noat "Slots" "ages") rfl)
theorem Tx.a_taken (t : Tx K mg base) : NoAttr K (SC K) "taken" := He.noat_ok (t.sd.fact 66 (f := .noat "Slots" "taken") rfl)
theorem Tx.a_held (t : Tx K mg base) : NoAttr K (SC K) "held" := He.noat_ok (t.sd.fact 67 (f := .noat "Slots" "held") rfl)
theorem Tx.m_generation_of (t : Tx K mg base) : Meth K (SC K) "generation_of" (He.ma K (SC K) "generation_of") := He.meth_ok (t.sd.fact 68 (f := .meth "Slots" "generation_of") rfl)
theorem Tx.m_contains (t : Tx K mg base) : Meth K (SC K) "__contains__" (He.ma K (SC K) "__contains__") := He.meth_ok (t.sd.fact 69 (f := .meth "Slots" "__contains__") rfl)
theorem Tx.m_check_handle (t : Tx K mg base) : Meth K (SC K) "check_handle" (He.ma K (SC K) "check_handle") := He.meth_ok (t.sd.fact 70 (f := .meth "Slots" "check_handle") rfl)
theorem Tx.m_take (t : Tx K mg base) : Meth K (SC K) "take" (He.ma K (SC K) "take") := He.meth_ok (t.sd.fact 71 (f := .meth "Slots" "take") rfl)
theorem Tx.m_give (t : Tx K mg base) : Meth K (SC K) "give" (He.ma K (SC K) "give") := He.meth_ok (t.sd.fact 72 (f := .meth "Slots" "give") rfl)
theorem Tx.m_getitem (t : Tx K mg base) : Meth K (SC K) "__getitem__" (He.ma K (SC K) "__getitem__") := He.meth_ok (t.sd.fact 73 (f := .meth "Slots" "__getitem__") rfl)
theorem Tx.m_iter (t : Tx K mg base) : Meth K (SC K) "__iter__" (He.ma K (SC K) "__iter__") := He.meth_ok (t.sd.fact 74 (f := .meth "Slots" "__iter__") rfl)
theorem Tx.m_len (t : Tx K mg base) : Meth K (SC K) "__len__" (He.ma K (SC K) "__len__") := He.meth_ok (t.sd.fact 75 (f := .meth "Slots" "__len__") rfl)
theorem Tx.m_eq (t : Tx K mg base) : Meth K (SC K) "__eq__" (He.ma K (SC K) "__eq__") := He.meth_ok (t.sd.fact 76 (f := .meth "Slots" "__eq__") rfl)
theorem Tx.m_arguments (t : Tx K mg base) : Meth K (SC K) "arguments" (He.ma K (SC K) "arguments") := He.meth_ok (t.sd.fact 77 (f := .meth "Slots" "arguments") rfl)
theorem Tx.m_state (t : Tx K mg base) : Meth K (SC K) "state" (He.ma K (SC K) "state") := He.meth_ok (t.sd.fact 78 (f := .meth "Slots" "state") rfl)
theorem Tx.m_counts (t : Tx K mg base) : Meth K (SC K) "counts" (He.ma K (SC K) "counts") := He.meth_ok (t.sd.fact 79 (f := .meth "Slots" "counts") rfl)
theorem Tx.m_live (t : Tx K mg base) : Meth K (SC K) "live" (He.ma K (SC K) "live") := He.meth_ok (t.sd.fact 80 (f := .meth "Slots" "live") rfl)
theorem Tx.m_free (t : Tx K mg base) : Meth K (SC K) "free" (He.ma K (SC K) "free") := He.meth_ok (t.sd.fact 81 (f := .meth "Slots" "free") rfl)
theorem Tx.m_copy (t : Tx K mg base) : Meth K (SC K) "copy" (He.ma K (SC K) "copy") := He.meth_ok (t.sd.fact 82 (f := .meth "Slots" "copy") rfl)
theorem Tx.m_put_back (t : Tx K mg base) : Meth K (SC K) "put_back" (He.ma K (SC K) "put_back") := He.meth_ok (t.sd.fact 83 (f := .meth "Slots" "put_back") rfl)
abbrev DF (K : PySem.W.Frag) (d : He.DefD) (fd : FuncData) : Prop := FunD K d.name d.qual d.params d.body d.scope [] [] (He.fAd K d.at_) fd
theorem Tx.e_is_integer (t : Tx K mg base) : ∃ fd, DF K d_is_integer fd := t.sd.def_ 0 (d := d_is_integer) rfl
theorem Tx.e_is_between (t : Tx K mg base) : ∃ fd, DF K d_is_between fd := t.sd.def_ 1 (d := d_is_between) rfl
theorem Tx.e_is_rule (t : Tx K mg base) : ∃ fd, DF K d_is_rule fd := t.sd.def_ 2 (d := d_is_rule) rfl
theorem Tx.e_taking_order (t : Tx K mg base) : ∃ fd, DF K d_taking_order fd := t.sd.def_ 3 (d := d_taking_order) rfl
theorem Tx.e_order_behind (t : Tx K mg base) : ∃ fd, DF K d_order_behind fd := t.sd.def_ 4 (d := d_order_behind) rfl
theorem Tx.e_check_map (t : Tx K mg base) : ∃ fd, DF K d_check_map fd := t.sd.def_ 5 (d := d_check_map) rfl
theorem Tx.e_m_init (t : Tx K mg base) : ∃ fd, DF K d_m_init fd := t.sd.def_ 6 (d := d_m_init) rfl
theorem Tx.e_m_generation_of (t : Tx K mg base) : ∃ fd, DF K d_m_generation_of fd := t.sd.def_ 7 (d := d_m_generation_of) rfl
theorem Tx.e_m_contains (t : Tx K mg base) : ∃ fd, DF K d_m_contains fd := t.sd.def_ 8 (d := d_m_contains) rfl
theorem Tx.e_m_check_handle (t : Tx K mg base) : ∃ fd, DF K d_m_check_handle fd := t.sd.def_ 9 (d := d_m_check_handle) rfl
theorem Tx.e_m_take (t : Tx K mg base) : ∃ fd, DF K d_m_take fd := t.sd.def_ 10 (d := d_m_take) rfl
theorem Tx.e_m_give (t : Tx K mg base) : ∃ fd, DF K d_m_give fd := t.sd.def_ 11 (d := d_m_give) rfl
theorem Tx.e_m_getitem (t : Tx K mg base) : ∃ fd, DF K d_m_getitem fd := t.sd.def_ 12 (d := d_m_getitem) rfl
theorem Tx.e_m_iter (t : Tx K mg base) : ∃ fd, DF K d_m_iter fd := t.sd.def_ 13 (d := d_m_iter) rfl
theorem Tx.e_m_len (t : Tx K mg base) : ∃ fd, DF K d_m_len fd := t.sd.def_ 14 (d := d_m_len) rfl
theorem Tx.e_m_eq (t : Tx K mg base) : ∃ fd, DF K d_m_eq fd := t.sd.def_ 15 (d := d_m_eq) rfl
theorem Tx.e_m_arguments (t : Tx K mg base) : ∃ fd, DF K d_m_arguments fd := t.sd.def_ 16 (d := d_m_arguments) rfl
theorem Tx.e_m_state (t : Tx K mg base) : ∃ fd, DF K d_m_state fd := t.sd.def_ 17 (d := d_m_state) rfl
theorem Tx.e_m_counts (t : Tx K mg base) : ∃ fd, DF K d_m_counts fd := t.sd.def_ 18 (d := d_m_counts) rfl
theorem Tx.e_m_live (t : Tx K mg base) : ∃ fd, DF K d_m_live fd := t.sd.def_ 19 (d := d_m_live) rfl
theorem Tx.e_m_free (t : Tx K mg base) : ∃ fd, DF K d_m_free fd := t.sd.def_ 20 (d := d_m_free) rfl
theorem Tx.e_m_copy (t : Tx K mg base) : ∃ fd, DF K d_m_copy fd := t.sd.def_ 21 (d := d_m_copy) rfl
theorem Tx.e_m_put_back (t : Tx K mg base) : ∃ fd, DF K d_m_put_back fd := t.sd.def_ 22 (d := d_m_put_back) rfl
theorem Tx.e_is_deed (t : Tx K mg base) : ∃ fd, DF K d_is_deed fd := t.sd.def_ 23 (d := d_is_deed) rfl
theorem Tx.e_look_block (t : Tx K mg base) : ∃ fd, DF K d_look_block fd := t.sd.def_ 24 (d := d_look_block) rfl
theorem Tx.e_takes_of (t : Tx K mg base) : ∃ fd, DF K d_takes_of fd := t.sd.def_ 25 (d := d_takes_of) rfl
theorem Tx.e_execute (t : Tx K mg base) : ∃ fd, DF K d_execute fd := t.sd.def_ 26 (d := d_execute) rfl
theorem Tx.e_arranged (t : Tx K mg base) : ∃ fd, DF K d_arranged fd := t.sd.def_ 27 (d := d_arranged) rfl
theorem Tx.e_cycle_from (t : Tx K mg base) : ∃ fd, DF K d_cycle_from fd := t.sd.def_ 28 (d := d_cycle_from) rfl
theorem Tx.e_passed (t : Tx K mg base) : ∃ fd, DF K d_passed fd := t.sd.def_ 29 (d := d_passed) rfl
theorem Tx.e_leap (t : Tx K mg base) : ∃ fd, DF K d_leap fd := t.sd.def_ 30 (d := d_leap) rfl
theorem Tx.e_look_times (t : Tx K mg base) : ∃ fd, DF K d_look_times fd := t.sd.def_ 31 (d := d_look_times) rfl
theorem Tx.e_repeat (t : Tx K mg base) : ∃ fd, DF K d_repeat fd := t.sd.def_ 32 (d := d_repeat) rfl
theorem Tx.e_L_cell_at (t : Tx K mg base) : ∃ fd, DF K d_L_cell_at fd := t.sd.def_ 33 (d := d_L_cell_at) rfl
theorem Tx.e_L_state (t : Tx K mg base) : ∃ fd, DF K d_L_state fd := t.sd.def_ 34 (d := d_L_state) rfl
theorem Tx.e_L_digit (t : Tx K mg base) : ∃ fd, DF K d_L_digit fd := t.sd.def_ 35 (d := d_L_digit) rfl
theorem Tx.e_L_one (t : Tx K mg base) : ∃ fd, DF K d_L_one fd := t.sd.def_ 36 (d := d_L_one) rfl
theorem Tx.e_L_notes (t : Tx K mg base) : ∃ fd, DF K d_L_notes fd := t.sd.def_ 37 (d := d_L_notes) rfl
theorem Tx.e_L_taken (t : Tx K mg base) : ∃ fd, DF K d_L_taken fd := t.sd.def_ 38 (d := d_L_taken) rfl
theorem Tx.e_L_given (t : Tx K mg base) : ∃ fd, DF K d_L_given fd := t.sd.def_ 39 (d := d_L_given) rfl
theorem Tx.e_L_as_noted (t : Tx K mg base) : ∃ fd, DF K d_L_as_noted fd := t.sd.def_ 40 (d := d_L_as_noted) rfl
theorem Tx.e_L_are (t : Tx K mg base) : ∃ fd, DF K d_L_are fd := t.sd.def_ 41 (d := d_L_are) rfl
theorem Tx.e_L_round (t : Tx K mg base) : ∃ fd, DF K d_L_round fd := t.sd.def_ 42 (d := d_L_round) rfl
theorem Tx.e_L_begun (t : Tx K mg base) : ∃ fd, DF K d_L_begun fd := t.sd.def_ 43 (d := d_L_begun) rfl
theorem Tx.e_L_levelled (t : Tx K mg base) : ∃ fd, DF K d_L_levelled fd := t.sd.def_ 44 (d := d_L_levelled) rfl
theorem Tx.e_L_by_turns (t : Tx K mg base) : ∃ fd, DF K d_L_by_turns fd := t.sd.def_ 45 (d := d_L_by_turns) rfl
theorem Tx.e_L_by_repeat (t : Tx K mg base) : ∃ fd, DF K d_L_by_repeat fd := t.sd.def_ 46 (d := d_L_by_repeat) rfl
theorem Tx.e_L_amounts (t : Tx K mg base) : ∃ fd, DF K d_L_amounts fd := t.sd.def_ 47 (d := d_L_amounts) rfl
theorem Tx.e_L_right (t : Tx K mg base) : ∃ fd, DF K d_L_right fd := t.sd.def_ 48 (d := d_L_right) rfl
theorem Tx.e_L_known_right (t : Tx K mg base) : ∃ fd, DF K d_L_known_right fd := t.sd.def_ 49 (d := d_L_known_right) rfl
theorem Tx.e_law (t : Tx K mg base) : ∃ fd, DF K d_law fd := t.sd.def_ 50 (d := d_law) rfl
end
def loose1 : List PySem.Str := ["SlotError", "NoSlots", "Full", "NoHandle", "NoTimes", "NoBlock", "Stuck", "RULES", "is_integer", "is_between", "is_rule", "taking_order", "order_behind", "MOST_SLOTS", "MOST_GENERATIONS", "check_map", "Slots", "MAX_DEEDS", "MAX_TIMES", "MAX_PLAIN_TIMES", "is_deed", "look_block", "takes_of", "execute"]
def loose2 : List PySem.Str := ["arranged", "cycle_from", "passed", "leap", "look_times", "repeat", "_law_cell_at", "_law_state", "_law_digit", "_law_one", "_law_notes", "_law_taken", "_law_given", "_law_as_noted", "_law_are", "_law_round", "_law_begun", "_law_levelled", "_law_by_turns", "_law_by_repeat", "_law_amounts", "_law_right", "_law_known_right"]
def loose : List PySem.Str := loose1 ++ loose2
end Sw
namespace Sw
open PySem PySem.Spec PyProof.Rows L2 LamX
section
variable {P : Program} {w : World} {K : PySem.W.Frag} {mg : Str → Option Value} {base : Heap}
/-! a def's promise by its body -/
theorem mkCl {d : He.DefD} {fd : FuncData} {N ps : List Str} {k : Nat} {sp : Sp} (F : DF K d fd) (hm : mg d.name = some (.ref (He.fAd K d.at_)))
    (h : ∀ (kV doc pm : Value) (an : Option Addr) (cdv ct : Value) (us : List Value), us.length = ps.length → bindArgs (PySem.W.fnOf d.name d.qual d.params d.body d.scope .none kV doc pm an cdv ct) ⟨us, []⟩ = pure (ps.zip us))
    (S : FnScope N ps d.scope) (len : ∀ vs H Q E, sp vs H Q E → vs.length = ps.length)
    (hbody : ∀ (cdv : Value) (A : Around) (outer : List Env) (s : Shared) (H : Hp) (vs : List V) (Q : VK) (E : XK), Room k (A.deeper (envOfC d.qual d.scope s.heap.objs.size (He.fAd K d.at_) cdv)) → sp vs H Q E →
      ∃ t, PSs (cxOf L2.CX0 P w K mg base N d.qual d.scope (He.fAd K d.at_) cdv A outer s H E).nox d.body t ∧ t { nx := fun _ H' => Q .non H', rt := Q } (L2.start N vs) H) : Cl P w K mg base (k + 1) d.name sp :=
  ⟨_, fd, ps, FunD.ok F S len fun cdv A outer s H vs Q E hr hsp => (hbody cdv A outer s H vs Q E hr hsp).imp fun t z => ⟨z.1.nox, z.2⟩, hm, F.kp, FunD.bindsN F h⟩
theorem mkMt {d : He.DefD} {fd : FuncData} {N ps : List Str} {k : Nat} {sp : Sp} {C : Addr} (F : DF K d fd) (c : Cls K C) (m : Meth K C d.name (He.fAd K d.at_))
    (h : ∀ (kV doc pm : Value) (an : Option Addr) (cdv ct : Value) (us : List Value), us.length = ps.length → bindArgs (PySem.W.fnOf d.name d.qual d.params d.body d.scope .none kV doc pm an cdv ct) ⟨us, []⟩ = pure (ps.zip us))
    (S : FnScope N ps d.scope) (len : ∀ vs H Q E, sp vs H Q E → vs.length = ps.length)
    (hbody : ∀ (cdv : Value) (A : Around) (outer : List Env) (s : Shared) (H : Hp) (vs : List V) (Q : VK) (E : XK), Room k (A.deeper (envOfC d.qual d.scope s.heap.objs.size (He.fAd K d.at_) cdv)) → sp vs H Q E →
      ∃ t, PSs (cxOf L2.CX0 P w K mg base N d.qual d.scope (He.fAd K d.at_) cdv A outer s H E).nox d.body t ∧ t { nx := fun _ H' => Q .non H', rt := Q } (L2.start N vs) H) : Mt P w K mg base (k + 1) C d.name sp :=
  ⟨_, fd, ps, c, m, FunD.ok F S len fun cdv A outer s H vs Q E hr hsp => (hbody cdv A outer s H vs Q E hr hsp).imp fun t z => ⟨z.1.nox, z.2⟩, FunD.bindsN F h⟩
/-! is_integer -/
def isI : V → Bool
  | .int _ => true
  | _ => false
/-- a value without a heap: None, bool, int, text -/
def plainV : V → Bool
  | .non => true
  | .bl _ => true
  | .int _ => true
  | .str _ => true
  | _ => false
def spIsInt : Sp := fun vs H Q _ => ∃ i, vs = [.int i] ∧ Q (.bl true) H
theorem sc_isInt : FnScope ["value"] ["value"] d_is_integer.scope := ⟨rfl, rfl, rfl, by decide +kernel, rfl, by decide +kernel, by decide +kernel⟩
theorem ok_isInt (t : Tx K mg base) : Cl P w K mg base 1 "is_integer" spIsInt := by
  obtain ⟨fd, F⟩ := t.e_is_integer
  refine mkCl (N := ["value"]) (ps := ["value"]) F t.g_is_integer (fun _ _ _ _ _ _ us hl => match us, hl with | [_], _ => rfl) sc_isInt (fun vs H Q E h => ?_) (fun cdv A outer s H vs Q E hr h => ?_)
  · obtain ⟨i, rfl, _⟩ := h
    rfl
  · obtain ⟨i, rfl, q⟩ := h
    refine ⟨_, pss_one (ps_ret (pe_and (pe_callB call_isi rfl t.b_isinstance (by decide +kernel) (pa_cons (pv 0) (pa_cons (pe_bltn (v := .ty "int") rfl t.b_int (by decide +kernel) rfl) pa_nil)))
      (pe_one (pe_not (pe_callB call_isi rfl t.b_isinstance (by decide +kernel) (pa_cons (pv 0) (pa_cons (pe_bltn (v := .ty "bool") rfl t.b_bool (by decide +kernel) rfl) pa_nil))))))), ?_⟩
    refine ⟨_, rfl, _, _, _, _, true, rfl, .ty _, .base (.int i), kit_ty (by decide +kernel), true, rfl, iteT ?_⟩
    refine ⟨_, rfl, _, _, _, _, false, rfl, .ty _, .base (.int i), kit_ty (by decide +kernel), false, rfl, ?_⟩
    exact q
/-- the same, the code object told -/
theorem mkClC {d : He.DefD} {fd : FuncData} {N ps : List Str} {k : Nat} {sp : Sp} (F : DF K d fd) (hm : mg d.name = some (.ref (He.fAd K d.at_)))
    (h : ∀ (kV doc pm : Value) (an : Option Addr) (cdv ct : Value) (us : List Value), us.length = ps.length → bindArgs (PySem.W.fnOf d.name d.qual d.params d.body d.scope .none kV doc pm an cdv ct) ⟨us, []⟩ = pure (ps.zip us))
    (S : FnScope N ps d.scope) (len : ∀ vs H Q E, sp vs H Q E → vs.length = ps.length)
    (hbody : ∀ (A : Around) (outer : List Env) (s : Shared) (H : Hp) (vs : List V) (Q : VK) (E : XK), Room k (A.deeper (envOfC d.qual d.scope s.heap.objs.size (He.fAd K d.at_) (.ref (He.cT K d.at_).1))) → sp vs H Q E →
      ∃ t, PSs (cxOf L2.CX0 P w K mg base N d.qual d.scope (He.fAd K d.at_) (.ref (He.cT K d.at_).1) A outer s H E).nox d.body t ∧ t { nx := fun _ H' => Q .non H', rt := Q } (L2.start N vs) H) : Cl P w K mg base (k + 1) d.name sp := by
  have b := FunD.bindsN F h
  have kp := F.kp
  obtain ⟨oc, od, dV, kV, doc, pm, an, cdv, ct, osl, rfl, lk, hcd, _, _⟩ := F.ex
  obtain ⟨c, rfl⟩ := He.codeIn_ref hcd
  have ec : (He.cT K d.at_).1 = c := He.codeOf_eq lk rfl
  rw [ec] at hbody
  exact ⟨_, _, ps, fn_of lk hcd S len fun A outer s H vs Q E hr hsp => (hbody A outer s H vs Q E hr hsp).imp fun t z => ⟨z.1.nox, z.2⟩, hm, kp, b⟩
/-! is_between -/
structure ClK (P : Program) (w : World) (K : PySem.W.Frag) (mg : Str → Option Value) (base : Heap) (k : Nat) (x : Str) (n : Nat) (ks : List Str) (gV : List V → List V → List V) (sp : Sp) : Prop where
  ex : ∃ (f : Addr) (fd : FuncData) (ps : List Str) (g : List Value → List Value → List Value), FnOk P w K mg base L2.CX0 k f fd ps sp ∧ mg x = some (.ref f) ∧ PySem.W.keepIn K (.ref f) = true ∧ KBn K fd ps n ks g gV
theorem pe_ck {X : Cx} {k j n : Nat} {x : Str} {ks : List Str} {gV : List V → List V → List V} {sp : Sp} {p pos : Pos} {e : Expr} {es : List Expr} {kws : List Keyword} {ta tk : TA} (c : ClK X.prog X.w X.K X.mg X.base k x n ks gV sp) (hr : Room j X.A) (hk : k ≤ j) (hg : Gl X x)
    (ha : PA X (e :: es) ta) (hkw : PK X kws tk) (hall : (backToKw pos (keywordEach kws X.env)).all (·.1.isSome) = true := by rfl) (hks : (backToKw pos (keywordEach kws X.env)).filterMap (·.1) = ks := by rfl)
    (hdb : (x == ("__debug__" : Str)) = false := by decide) (he : starEach (e :: es) X.env = (false, eval e X.env) :: starEach es X.env := by rfl)
    (hpl : ((backTo pos (starEach (e :: es) X.env)).any (·.1) || (backToKw pos (keywordEach kws X.env)).any (·.1.isNone)) = false := by rfl) : PE X (.Call (.Name x p) (e :: es) kws pos) (tCallN n ks.length sp gV L2.E0 ta tk) := by
  obtain ⟨f, fd, ps, g, F, hm, kp, b⟩ := c.ex
  exact pe_callN F (hr.mono hk) hg hm kp b L2.pass0 ha hkw hall hks hdb he hpl
def spBetw : Sp := fun vs H Q _ => ∃ i lo hi : Int, vs = [.int i, .int lo, .int hi] ∧ lo ≤ i ∧ i ≤ hi ∧ Q (.bl true) H
theorem sc_isBetw : FnScope ["value", "low", "high"] ["value", "low", "high"] d_is_between.scope := ⟨rfl, rfl, rfl, by decide +kernel, rfl, by decide +kernel, by decide +kernel⟩
theorem ok_isBetw (t : Tx K mg base) : ClK P w K mg base 2 "is_between" 1 ["low", "high"] (fun vs zs => vs ++ zs) spBetw := by
  obtain ⟨fd, F⟩ := t.e_is_between
  have kp := F.kp
  have b : KBn K fd ["value", "low", "high"] 1 ["low", "high"] (fun us ws => us ++ ws) (fun vs zs => vs ++ zs) := by
    obtain ⟨oc, od, dV, kV, doc, pm, an, cdv, ct, osl, rfl, lk, hcd, hD, _⟩ := F.ex
    rcases hD with ⟨_, rfl⟩ | ⟨e, _⟩
    · refine ⟨fun s us ws X h1 h2 => ?_, fun r1 r2 => r1.append r2⟩
      match us, ws, h1, h2 with
      | [u], [a, c], _, _ => exact .of_eq rfl
    · exact absurd rfl e
  refine ⟨_, fd, ["value", "low", "high"], _, FunD.ok (N := ["value", "low", "high"]) F sc_isBetw (fun vs H Q E h => ?_) (fun cdv A outer s H vs Q E hr h => ?_), t.g_is_between, kp, b⟩
  · obtain ⟨i, lo, hi, rfl, _⟩ := h
    rfl
  · obtain ⟨i, lo, hi, rfl, h1, h2, q⟩ := h
    refine ⟨_, pss_one (ps_ret (pe_and (pe_c (ok_isInt t) hr (Nat.le_refl _) rfl (pa_cons (pv 0) pa_nil)) (pe_one (pe_chain op_le op_le (pv 1) (pv 0) (pv 2))))), ?_⟩
    refine ⟨_, rfl, i, rfl, true, rfl, iteT ?_⟩
    refine ⟨_, rfl, _, rfl, _, _, rfl, rfl, _, rfl, ?_⟩
    rw [decide_eq_true h1]
    refine iteT ⟨_, rfl, _, _, rfl, rfl, ?_⟩
    show Q (V.bl (decide (i ≤ hi))) H
    rw [decide_eq_true h2]
    exact q
/-! is_rule -/
theorem Tx.rules (t : Tx K mg base) (H : Hp) : SqT K H (He.ga K "RULES") [.str "last", .str "first", .str "lowest", .str "least"] := by
  have e := t.ex
  unfold exB at e
  simp only [Bool.and_eq_true] at e
  exact He.tupB_ok e.1.1.1.1.1.1.1.1.1.1 H
def spRule : Sp := fun vs H Q _ => ∃ r : Rl, vs = [.str r.s] ∧ Q (.bl true) H
theorem sc_isRule : FnScope ["value"] ["value"] d_is_rule.scope := ⟨rfl, rfl, rfl, by decide +kernel, rfl, by decide +kernel, by decide +kernel⟩
theorem ok_isRule (t : Tx K mg base) : Cl P w K mg base 1 "is_rule" spRule := by
  obtain ⟨fd, F⟩ := t.e_is_rule
  refine mkCl (N := ["value"]) (ps := ["value"]) F t.g_is_rule (fun _ _ _ _ _ _ us hl => match us, hl with | [_], _ => rfl) sc_isRule (fun vs H Q E h => ?_) (fun cdv A outer s H vs Q E hr h => ?_)
  · obtain ⟨i, rfl, _⟩ := h
    rfl
  · obtain ⟨r, rfl, q⟩ := h
    refine ⟨_, pss_one (ps_ret (pe_and (pe_callB call_isi rfl t.b_isinstance (by decide +kernel) (pa_cons (pv 0) (pa_cons (pe_bltn (v := .ty "str") rfl t.b_str (by decide +kernel) rfl) pa_nil)))
      (pe_one (pe_cmpR op_in_seq (pv 0) (pe_glob (v := .ref (He.ga K "RULES")) rfl t.g_RULES rfl) rfl)))), ?_⟩
    refine ⟨_, rfl, _, _, _, _, true, rfl, .ty _, .base (.str r.s), kit_ty (by decide +kernel), true, rfl, iteT ?_⟩
    refine ⟨_, rfl, _, _, rfl, .inr (t.rules _), rfl, rfl, ?_⟩
    have e : inV (.str r.s) [.str "last", .str "first", .str "lowest", .str "least"] = true := by cases r <;> decide +kernel
    show Q (.bl (inV (.str r.s) [.str "last", .str "first", .str "lowest", .str "least"])) H
    rw [e]
    exact q
/-! check_map -/
def spCheck : Sp := fun vs H Q _ => ∃ A : Ag, A.Ok ∧ vs = [.int A.n, .int A.lim, .int A.g, .str A.r.s] ∧ Q .non H
theorem sc_check : FnScope ["n", "limit", "generations", "rule"] ["n", "limit", "generations", "rule"] d_check_map.scope := ⟨rfl, rfl, rfl, by decide +kernel, rfl, by decide +kernel, by decide +kernel⟩
theorem ok_check (t : Tx K mg base) : Cl P w K mg base 3 "check_map" spCheck := by
  obtain ⟨fd, F⟩ := t.e_check_map
  refine mkCl (N := ["n", "limit", "generations", "rule"]) (ps := ["n", "limit", "generations", "rule"]) F t.g_check_map (fun _ _ _ _ _ _ us hl => match us, hl with | [_, _, _, _], _ => rfl) sc_check (fun vs H Q E h => ?_) (fun cdv A outer s H vs Q E hr h => ?_)
  · obtain ⟨i, _, rfl, _⟩ := h
    rfl
  · obtain ⟨G, ok, rfl, q⟩ := h
    have B := ok_isBetw (P := P) (w := w) t
    refine ⟨_, pss_cons (ps_if (pt_not (pt_val (pe_ck B hr (Nat.le_refl _) rfl (pa_cons (pv 0) pa_nil) (pk_cons pe_int (pk_cons (C8.pe_gc rfl t.i_MOST_SLOTS) pk_nil))))) (pss_one ps_never) pss_nil)
      (pss_cons (ps_if (pt_not (pt_val (pe_ck B hr (Nat.le_refl _) rfl (pa_cons (pv 1) pa_nil) (pk_cons pe_int (pk_cons (pv 0) pk_nil))))) (pss_one ps_never) pss_nil)
      (pss_cons (ps_if (pt_not (pt_val (pe_ck B hr (Nat.le_refl _) rfl (pa_cons (pv 2) pa_nil) (pk_cons pe_int (pk_cons (C8.pe_gc rfl t.i_MOST_GENERATIONS) pk_nil))))) (pss_one ps_never) pss_nil)
      (pss_one (ps_if (pt_not (pt_val (pe_c (ok_isRule t) hr (by decide) rfl (pa_cons (pv 3) pa_nil)))) (pss_one ps_never) pss_nil)))), ?_⟩
    obtain ⟨o1, o2, o3, o4, o5⟩ := ok
    refine ⟨_, rfl, rfl, rfl, _, _, _, rfl, by omega, by omega, true, rfl, iteF ?_⟩
    refine ⟨_, rfl, _, rfl, rfl, rfl, _, _, _, rfl, by omega, by omega, true, rfl, iteF ?_⟩
    refine ⟨_, rfl, rfl, rfl, _, _, _, rfl, by omega, by omega, true, rfl, iteF ?_⟩
    exact ⟨_, rfl, _, rfl, true, rfl, iteF q⟩
end
end Sw
namespace Sw
open PySem PySem.Spec PyProof.Rows L2 LamX
/-- the two tables of code objects and the names in them -/
def qOf (x : Str) : Str := (envOfC x d_taking_order.scope 0 0 .none).qual
def TT (K : PySem.W.Frag) : List (Addr × Str) := [((He.cT K ("taking_order", none)).2, qOf "taking_order" ++ "<lambda>"), ((He.cT K ("_law_given", none)).2, qOf "_law_given" ++ "<lambda>")]
theorem rl_yes {r r' : Rl} (h : decide (V.str r.s = V.str r'.s) = true) : r = r' := by
  cases r <;> cases r' <;> first | rfl | exact absurd h (by decide +kernel)
theorem rl_no {r r' : Rl} (h : ¬ decide (V.str r.s = V.str r'.s) = true) : r ≠ r' := fun e => h (by rw [e]; exact decide_eq_true rfl)
section
variable {P : Program} {w : World} {K : PySem.W.Frag} {mg : Str → Option Value} {base : Heap}
theorem Tx.tabne (t : Tx K mg base) : (He.cT K ("taking_order", none)).2 ≠ (He.cT K ("_law_given", none)).2 := by
  have e := t.ex
  unfold exB at e
  simp only [Bool.and_eq_true, decide_eq_true_eq] at e
  exact e.2
/-! order_behind -/
def ordB (r : Rl) (order : List Nat) (s : Nat) : List Nat := if r = .last then s :: order else order ++ [s]
def spBehind (T : List (Addr × Str)) : Sp := fun vs H Q _ => ∃ (r : Rl) (lo : Addr) (order : List Nat) (s : Nat), vs = [.str r.s, .ref lo, .int s] ∧ H lo = some (.lst (fr order)) ∧ order.length ≤ 100 ∧
  ∀ p H', Kp T [] H H' → ¬ Al H p → H' p = some (.lst (fr (ordB r order s))) → Q (.ref p) H'
theorem sc_behind : FnScope ["rule", "order", "slot"] ["rule", "order", "slot"] d_order_behind.scope := ⟨rfl, rfl, rfl, by decide +kernel, rfl, by decide +kernel, by decide +kernel⟩
theorem fr_len {l : List Nat} : (fr l).length = l.length := by unfold fr; rw [List.length_map]
theorem fr_app {l l' : List Nat} : fr (l ++ l') = fr l ++ fr l' := by unfold fr; rw [List.map_append]
theorem sz {n : Nat} (h : n ≤ 1000) : n ≤ sizeLine := Nat.le_trans h (by decide)
theorem ok_behind (t : Tx K mg base) : Cl P w K mg base 1 "order_behind" (spBehind (TT K)) := by
  obtain ⟨fd, F⟩ := t.e_order_behind
  refine mkCl (N := ["rule", "order", "slot"]) (ps := ["rule", "order", "slot"]) F t.g_order_behind (fun _ _ _ _ _ _ us hl => match us, hl with | [_, _, _], _ => rfl) sc_behind (fun vs H Q E h => ?_) (fun cdv A outer s H vs Q E hr h => ?_)
  · obtain ⟨_, _, _, _, rfl, _⟩ := h
    rfl
  · obtain ⟨r, lo, order, s, rfl, hlo, hz, q⟩ := h
    refine ⟨_, pss_one (ps_ret (pe_ifExp (pt_cmpR op_eq (pv 0) pe_str (nomark _)) (pe_op op_cat (pe_lst (pa_cons (pv 2) pa_nil)) (pv 1)) (pe_op op_cat (pv 1) (pe_lst (pa_cons (pv 2) pa_nil))))), ?_⟩
    refine ⟨_, rfl, rfl, _, rfl, ite2 (fun h => ?_) (fun h => ?_)⟩
    · have e : r = .last := rl_yes (r' := .last) h
      refine ⟨_, rfl, sz (show 1 ≤ 1000 by decide), fun p hp => ?_⟩
      have k1 : Kp (TT K) [] H (upd H p (.lst [.int s])) := Kp.new hp fun ps z => by cases z
      have n1 : lo ≠ p := ne_of_none hlo hp
      refine ⟨_, rfl, _, _, _, _, rfl, rfl, upd_same, by rw [upd_ne n1]; exact hlo, by rw [fr_len]; exact sz (by simp; omega), fun p2 hp2 => ?_⟩
      refine q p2 _ (k1.then (Kp.new hp2 fun ps z => by cases z)) (k1.back (nAl hp2)) ?_
      rw [upd_same]
      unfold ordB
      rw [if_pos e]
      rfl
    · have e : r ≠ .last := rl_no (r' := .last) h
      refine ⟨_, rfl, _, rfl, sz (show 1 ≤ 1000 by decide), fun p hp => ?_⟩
      have k1 : Kp (TT K) [] H (upd H p (.lst [.int s])) := Kp.new hp fun ps z => by cases z
      have n1 : lo ≠ p := ne_of_none hlo hp
      refine ⟨_, _, _, _, rfl, rfl, by rw [upd_ne n1]; exact hlo, upd_same, by rw [fr_len]; exact sz (by simp; omega), fun p2 hp2 => ?_⟩
      refine q p2 _ (k1.then (Kp.new hp2 fun ps z => by cases z)) (k1.back (nAl hp2)) ?_
      rw [upd_same]
      unfold ordB
      rw [if_neg e, fr_app]
      rfl
/-! taking_order -/
theorem hfr1 : ∀ y ∈ ([("slot", NameKind.local), ("counts", NameKind.free)] : List (Str × NameKind)), y.2 = .free → d_taking_order.scope.names.lookup y.1 = some .cell ∨ d_taking_order.scope.names.lookup y.1 = some .free := by decide +kernel
theorem hcl1 : d_taking_order.scope.names.lookup ("counts" : Str) = some .cell := by decide +kernel
theorem KF1.keeps {y : Str} {cl : List (Str × Addr)} {ns : List Int} {kf : Int → Int} {h h' : Heap} (F : KF1 y cl ns kf h) (k : ∀ b o, h.get? b = some o → h'.get? b = some o) : KF1 y cl ns kf h' := by
  obtain ⟨cy, l, its, e1, e2, e3, e4⟩ := F
  exact ⟨cy, l, its, e1, e2.keeps k, e3.at fun o e => k _ o e, e4⟩
theorem tab_u1 (t : Tx K mg base) : ∀ p ∈ TT K, p.1 = (He.cT K ("taking_order", none)).2 → p.2 = qOf "taking_order" ++ "<lambda>" := by
  intro p hp e
  simp only [TT, List.mem_cons, List.not_mem_nil, or_false] at hp
  rcases hp with h | h
  · rw [h]
  · rw [h] at e
    exact absurd e.symm t.tabne
theorem tab_u2 (t : Tx K mg base) : ∀ p ∈ TT K, p.1 = (He.cT K ("_law_given", none)).2 → p.2 = qOf "_law_given" ++ "<lambda>" := by
  intro p hp e
  simp only [TT, List.mem_cons, List.not_mem_nil, or_false] at hp
  rcases hp with h | h
  · rw [h] at e
    exact absurd e t.tabne
  · rw [h]
def spOrder (T : List (Addr × Str)) : Sp := fun vs H Q _ => ∃ (r : Rl) (lo lt : Addr) (order free : List Nat) (cnt : List Int), vs = [.str r.s, .ref lo, .ref lt] ∧ H lo = some (.lst (fr order)) ∧ H lt = some (.lst (cnt.map V.int)) ∧
  order.Perm free ∧ free.Nodup ∧ Ord r cnt free ∧ (¬ Srt r → order = free) ∧ (∀ s ∈ free, s < cnt.length ∧ s < 1000) ∧ Tabs T H ∧
  ∀ p H', Kp T [] H H' → ¬ Al H p → H' p = some (.lst (fr free)) → Q (.ref p) H'
theorem sc_order : FnScope ["rule", "order", "counts"] ["rule", "order", "counts"] d_taking_order.scope := ⟨rfl, rfl, rfl, by decide +kernel, rfl, by decide +kernel, by decide +kernel⟩
theorem ok_order (t : Tx K mg base) : Cl P w K mg base 2 "taking_order" (spOrder (TT K)) := by
  obtain ⟨fd, F⟩ := t.e_taking_order
  refine mkClC (N := ["rule", "order", "counts"]) (ps := ["rule", "order", "counts"]) F t.g_taking_order (fun _ _ _ _ _ _ us hl => match us, hl with | [_, _, _], _ => rfl) sc_order (fun vs H Q E h => ?_) (fun A outer s H vs Q E hr h => ?_)
  · obtain ⟨_, _, _, _, _, _, rfl, _⟩ := h
    rfl
  · obtain ⟨r, lo, lt, order, free, cnt, rfl, hlo, hlt, pm, nd, od, same, lts, hT, q⟩ := h
    refine ⟨_, pss_cons (ps_if (pt_cmpR op_eq (pv 0) pe_str (nomark _)) (pss_one (ps_ret (pe_callB cr_sortedI rfl t.b_sorted (by decide +kernel) (pa_cons (pv 1) pa_nil)))) pss_nil)
      (pss_cons (ps_if (pt_cmpR op_eq (pv 0) pe_str (nomark _)) (pss_one (ps_ret (pe_sortLam (T := TT K) (KW := KW1 K 2) (FK := fun ns kf => KF1 "counts" _ ns kf) (x := "slot") (j := 1) (by rfl) rfl t.b_sorted (pv 1) hr (t.tb ("taking_order", none) List.mem_cons_self) rfl (by exact List.mem_cons_self)
          (tab_u1 t) (by rfl) ⟨by rfl, by rfl, by rfl, by decide +kernel, by decide +kernel⟩ (by exact hfr1) (fun _ _ _ _ _ _ => by rfl) (fun ns kf h h' F k => F.keeps k) (fun pins σ H H2 s s2 ns kf I kw e I2 => kf1_of (y := "counts") rfl (by exact hcl1) (by decide +kernel) (by exact hfr1) kw e I2)
          (fun A L f c' h h₁ tk tk1 ns kf n t s hn F k hns => body1 ⟨by rfl, by decide +kernel, by decide +kernel⟩ (by decide) (by decide) (by decide) L f c' h h₁ tk tk1 n t s hn F k hns)))) pss_nil)
      (pss_one (ps_ret (pe_callTy call_list_of rfl t.b_list (by decide +kernel) (pa_cons (pv 1) pa_nil))))), ?_⟩
    refine ⟨_, rfl, rfl, _, rfl, ite2 (fun h => ?_) (fun h => ?_)⟩
    · obtain rfl := rl_yes (r' := .lowest) h
      refine ⟨_, rfl, lo, nI order, rfl, SqL.of (by rw [← fr_nI]; exact hlo), fun ns' p p1 o1 hp => q p _ (Kp.new hp fun ps z => by cases z) (nAl hp) ?_⟩
      rw [upd_same, fr_nI, sort_lowest pm nd od p1 o1]
    · have n1 : r ≠ .lowest := rl_no (r' := .lowest) h
      refine ⟨_, rfl, rfl, _, rfl, ite2 (fun h => ?_) (fun h => ?_)⟩
      · obtain rfl := rl_yes (r' := .least) h
        refine ⟨_, rfl, lo, nI order, fun n => cn cnt n.toNat, rfl, SqL.of (by rw [← fr_nI]; exact hlo), ⟨lt, cnt, rfl, hlt, fun n hn => ?_⟩, hT, fun p H2 eN T2 hp => ?_⟩
        · obtain ⟨s, hs, rfl⟩ := List.mem_map.mp hn
          obtain ⟨l1, l2⟩ := lts s (pm.mem_iff.mp hs)
          exact ⟨by omega, by omega, by rw [Int.toNat_natCast]; exact at_cn l1⟩
        · refine q p _ ((Kp.ext (fp := []) eN T2).then (Kp.new hp fun ps z => by cases z)) ((Kp.ext (T := TT K) (fp := []) eN T2).back (nAl hp)) ?_
          rw [upd_same, fr_nI, sort_least pm nd od _ fun s hs => by rw [Int.toNat_natCast]]
      · have n2 : r ≠ .least := rl_no (r' := .least) h
        refine ⟨_, rfl, lo, fr order, rfl, .inl (SqL.of hlo), fun p hp => q p _ (Kp.new hp fun ps z => by cases z) (nAl hp) ?_⟩
        rw [upd_same, same fun z => z.elim n1 n2]
end
end Sw
namespace Sw
open PySem PySem.Spec PyProof.Rows L2 LamX
theorem up {H : Hp} {a b : Addr} {o u : HO} (n : b ≠ a) (e : H b = some o) : upd H a u b = some o := by rw [upd_ne n]; exact e
theorem upn {H : Hp} {a b : Addr} {u : HO} (n : b ≠ a) (e : upd H a u b = none) : H b = none := by rw [upd_ne n] at e; exact e
theorem nn {H : Hp} {a b : Addr} {u : HO} (e : upd H a u b = none) : b ≠ a := fun z => by rw [z, upd_same] at e; cases e
theorem upm {H : Hp} {a b : Addr} {u : HO} (e : upd H a u b = none) : H b = none := upn (nn e) e
section
variable {P : Program} {w : World} {K : PySem.W.Frag} {mg : Str → Option Value} {base : Heap}
/-! __init__ -/
def spInit (T : List (Addr × Str)) (C : Addr) : Sp := fun vs H Q _ => ∃ (A : Ag) (p dx : Addr), A.Ok ∧ vs = [.ref p, .int A.n, .int A.lim, .int A.g, .str A.r.s] ∧ H p = some (.ins C dx []) ∧
  ∀ (a : SA) (H' : Hp), a.p = p → SlotsAt C H' [] A (SM.new A.n) a → Kp T [p] H H' → Fr H [p] a.fp → Q .non H'
theorem sc_init : FnScope ["self", "n", "limit", "generations", "rule"] ["self", "n", "limit", "generations", "rule"] d_m_init.scope := ⟨rfl, rfl, rfl, by decide +kernel, rfl, by decide +kernel, by decide +kernel⟩
theorem rg_fr (n : Nat) : rgV 0 (n : Int) = fr (List.range n) := by
  unfold rgV fr
  rw [show ((n : Int) - 0).toNat = n by omega]
  exact List.map_congr_left fun i _ => by rw [Int.zero_add]
theorem rep_z (n : Nat) : (List.replicate (n : Int).toNat [V.int 0]).flatten = (List.replicate n (0 : Int)).map V.int := by
  rw [Int.toNat_natCast, List.map_replicate]
  induction n with
  | zero => rfl
  | succ n ih => rw [List.replicate_succ, List.flatten_cons, ih, List.replicate_succ]; rfl
theorem ok_init (t : Tx K mg base) : Mkr P w K mg base 4 "Slots" (SC K) (spInit (TT K) (SC K)) := by
  obtain ⟨fd, F⟩ := t.e_m_init
  refine ⟨_, fd, ["self", "n", "limit", "generations", "rule"], t.mkr, FunD.ok (N := ["self", "n", "limit", "generations", "rule"]) F sc_init (fun vs H Q E h => ?_) (fun cdv A outer s H vs Q E hr h => ?_), t.g_Slots, FunD.bindsN F (fun _ _ _ _ _ _ us hl => match us, hl with | [_, _, _, _, _], _ => rfl)⟩
  · obtain ⟨_, _, _, _, rfl, _⟩ := h
    rfl
  · obtain ⟨G, p, dx, ok, rfl, hp, q⟩ := h
    refine ⟨_, PSs.nox (pss_cons (ps_expr (pe_c (ok_check t) hr (Nat.le_refl _) rfl (pa_cons (pv 1) (pa_cons (pv 2) (pa_cons (pv 3) (pa_cons (pv 4) pa_nil))))))
      (pss_cons (ps_fld (pv 0) (pv 1) rfl) (pss_cons (ps_fld (pv 0) (pv 2) rfl) (pss_cons (ps_fld (pv 0) (pv 3) rfl) (pss_cons (ps_fld (pv 0) (pv 4) rfl)
      (pss_cons (ps_fld (pv 0) (pe_listRg rfl rfl t.b_list (prg_1 rfl t.b_range (pv 1))) rfl)
      (pss_cons (ps_fld (pv 0) (pe_lst pa_nil) rfl)
      (pss_cons (ps_fld (pv 0) (pe_op op_rep (pe_lst (pa_cons pe_int pa_nil)) (pv 1)) rfl)
      (pss_one (ps_fld (pv 0) pe_dnewK rfl)))))))))), ?_⟩
    have n6 := ok.n6
    have cl := t.cl
    refine ⟨_, rfl, _, rfl, _, rfl, _, rfl, G, ok, rfl, ?_⟩
    refine ⟨_, rfl, _, rfl, p, SC K, dx, [], rfl, hp, cl, t.a_n, (by show 0 < 1000; decide), ?_⟩
    refine ⟨_, rfl, _, rfl, p, SC K, dx, _, rfl, upd_same, cl, t.a_limit, (by show 1 < 1000; decide), ?_⟩
    rw [upd_upd]
    refine ⟨_, rfl, _, rfl, p, SC K, dx, _, rfl, upd_same, cl, t.a_generations, (by show 2 < 1000; decide), ?_⟩
    rw [upd_upd]
    refine ⟨_, rfl, _, rfl, p, SC K, dx, _, rfl, upd_same, cl, t.a_rule, (by show 3 < 1000; decide), ?_⟩
    rw [upd_upd]
    -- order
    refine ⟨_, rfl, _, rfl, .of_le (by decide) (by omega) (by decide) (by omega), fun lo hlo => ?_⟩
    have k0 : ∀ fs : List (Str × V), Kp (TT K) [p] H (upd H p (.ins (SC K) dx fs)) := fun fs => Kp.write hp rfl rfl (by simp)
    refine ⟨_, rfl, p, SC K, dx, _, rfl, up (nn hlo).symm upd_same, cl, t.a_order, (by show 4 < 1000; decide), ?_⟩
    -- ages
    refine ⟨sz (Nat.zero_le _), fun la hla => ?_⟩
    refine ⟨_, rfl, p, SC K, dx, _, rfl, up (nn hla).symm upd_same, cl, t.a_ages, (by show 5 < 1000; decide), ?_⟩
    -- taken
    refine ⟨sz (show 1 ≤ 1000 by decide), fun lz hz => ?_⟩
    refine ⟨_, rfl, lz, G.n, _, rfl, rfl, upd_same, by omega, by omega, sz (by show 1 * _ ≤ 1000; omega), fun lt hlt => ?_⟩
    have npo : p ≠ lo := (nn hlo).symm
    have npa : p ≠ la := (nn hla).symm
    have npz : p ≠ lz := (nn hz).symm
    have npt : p ≠ lt := (nn (upm hlt)).symm
    have noa : lo ≠ la := (nn (upm hla)).symm
    have noz : lo ≠ lz := (nn (upm (upm (upm hz)))).symm
    have nat : la ≠ lt := (nn (upm (upm hlt))).symm
    have naz : la ≠ lz := (nn (upm hz)).symm
    have not : lo ≠ lt := (nn (upm (upm (upm (upm hlt))))).symm
    refine ⟨_, rfl, p, SC K, dx, _, rfl, up npt (up npz upd_same), cl, t.a_taken, (by show 6 < 1000; decide), ?_⟩
    refine fun dh hdh => ?_
    have nph : p ≠ dh := (nn hdh).symm
    have nth : lt ≠ dh := (nn (upm hdh)).symm
    have nah : la ≠ dh := (nn (upm (upm (upm (upm hdh))))).symm
    have noh : lo ≠ dh := (nn (upm (upm (upm (upm (upm (upm hdh))))))).symm
    refine ⟨_, rfl, p, SC K, dx, _, rfl, up nph upd_same, cl, t.a_held, (by show 7 < 1000; decide), ?_⟩
    refine q ⟨p, lo, la, lt, dh⟩ _ rfl ⟨⟨dx, upd_same⟩, ⟨List.range G.n, ?_, .refl _, fun _ => rfl⟩, ?_, ?_, ⟨[], ?_, .nil⟩, noa, not, nat, fun _ _ z => (by cases z), fun _ z => (by cases z)⟩ ?_ ?_
    · rw [← rg_fr]
      exact up npo.symm (up noh (up npo.symm (up not (up noz (up npo.symm (up noa (up npo.symm upd_same)))))))
    · exact up npa.symm (up nah (up npa.symm (up nat (up naz (up npa.symm upd_same)))))
    · refine up npt.symm (up nth (up npt.symm ?_))
      rw [upd_same, rep_z]
      rfl
    · exact up nph.symm upd_same
    · have w : ∀ {H0 : Hp} {fs fs' : List (Str × V)}, H0 p = some (.ins (SC K) dx fs) → Kp (TT K) [p] H0 (upd H0 p (.ins (SC K) dx fs')) := fun e => Kp.write e rfl rfl List.mem_cons_self
      have nw : ∀ {H0 : Hp} {x : Addr} {o : HO}, H0 x = none → (∀ ps, o ≠ .tbl ps) → Kp (TT K) [p] H0 (upd H0 x o) := fun e n => Kp.new e n
      exact (w hp).then ((nw hlo (fun _ z => by cases z)).then ((w (up npo upd_same)).then ((nw hla (fun _ z => by cases z)).then ((w (up npa upd_same)).then ((nw hz (fun _ z => by cases z)).then ((nw hlt (fun _ z => by cases z)).then ((w (up npt (up npz upd_same))).then ((nw hdh (fun _ z => by cases z)).then (w (up nph upd_same))))))))))
    · intro b hb
      simp only [SA.fp, List.mem_cons, List.not_mem_nil, or_false] at hb
      rcases hb with e | e | e | e | e <;> subst e
      · exact .inl List.mem_cons_self
      · exact .inr (nAl (upm hlo))
      · exact .inr (nAl (upm (upm (upm hla))))
      · exact .inr (nAl (upm (upm (upm (upm (upm (upm hlt)))))))
      · exact .inr (nAl (upm (upm (upm (upm (upm (upm (upm (upm hdh)))))))))
end
end Sw
namespace Sw
open PySem PySem.Spec PyProof.Rows L2 LamX
section
variable {K : PySem.W.Frag} {C : Addr} {H : Hp} {vp : List Addr} {A : Ag} {S : SM} {a : SA}
/-- a field's read -/
theorem SlotsAt.fd (s : SlotsAt C H vp A S a) {f : Str} {v : V} {Q : V → Prop} (c : Cls K C) (n : NoAttr K C f) (l : (fsl A a).lookup f = some v) (q : Q v) :
    ∃ b D dx fs v, V.ref a.p = .ref b ∧ H b = some (.ins D dx fs) ∧ Cls K D ∧ NoAttr K D f ∧ fs.lookup f = some v ∧ Q v := by
  obtain ⟨dx, h1⟩ := s.ob
  exact ⟨a.p, C, dx, _, v, rfl, h1, c, n, l, q⟩
/-- a method's call -/
theorem SlotsAt.md (s : SlotsAt C H vp A S a) {m : Str} {R : Prop} (l : (fsl A a).lookup m = none) (h : R) : ∃ b dx fs, V.ref a.p = .ref b ∧ H b = some (.ins C dx fs) ∧ fs.lookup m = none ∧ R := by
  obtain ⟨dx, h1⟩ := s.ob
  exact ⟨a.p, dx, _, rfl, h1, l, h⟩
end
theorem at_nat {xs : List V} {i : Nat} {x : V} (h : xs[i]? = some x) : atI xs (i : Int) = some x := atI_nat h
section
variable {P : Program} {w : World} {K : PySem.W.Frag} {mg : Str → Option Value} {base : Heap}
/-! generation_of -/
def spGen (C : Addr) : Sp := fun vs H Q _ => ∃ (vp : List Addr) (A : Ag) (S : SM) (a : SA) (s : Nat), vs = [.ref a.p, .int s] ∧ SlotsAt C H vp A S a ∧ Wf A S ∧ s < S.cnt.length ∧ Q (.int (gen A (cn S.cnt s))) H
theorem sc_gen : FnScope ["self", "slot"] ["self", "slot"] d_m_generation_of.scope := ⟨rfl, rfl, rfl, by decide +kernel, rfl, by decide +kernel, by decide +kernel⟩
theorem ok_gen (t : Tx K mg base) : Mt P w K mg base 1 (SC K) "generation_of" (spGen (SC K)) := by
  obtain ⟨fd, F⟩ := t.e_m_generation_of
  refine mkMt (N := ["self", "slot"]) (ps := ["self", "slot"]) F t.cl t.m_generation_of (fun _ _ _ _ _ _ us hl => match us, hl with | [_, _], _ => rfl) sc_gen (fun vs H Q E h => ?_) (fun cdv A outer s H vs Q E hr h => ?_)
  · obtain ⟨_, _, _, _, _, rfl, _⟩ := h
    rfl
  · obtain ⟨vp, G, S, a, sl, rfl, sa, wf, hs, q⟩ := h
    refine ⟨_, pss_one (ps_ret (pe_op op_mod (pe_op op_sub (pe_ix ix_seq (pe_fld (pv 0) rfl) (pv 1) fun _ _ => rfl) pe_int) (pe_fld (pv 0) rfl))), ?_⟩
    refine ⟨_, rfl, ?_⟩
    refine sa.fd t.cl t.a_taken f_t ?_
    refine ⟨_, rfl, .inl ⟨a.lt, _, sl, .int (cn S.cnt sl), rfl, rfl, SqL.of sa.tak, at_nat (by rw [List.getElem?_map, at_cn hs]; rfl), ?_⟩⟩
    refine ⟨_, _, rfl, rfl, ?_⟩
    refine ⟨_, rfl, sa.fd t.cl t.a_generations f_g ⟨_, _, rfl, rfl, ?_, q⟩⟩
    have := wf.ok.g1
    omega
/-! __len__ -/
def spLen (C : Addr) : Sp := fun vs H Q _ => ∃ (vp : List Addr) (A : Ag) (S : SM) (a : SA), vs = [.ref a.p] ∧ SlotsAt C H vp A S a ∧ Q (.int ((S.live.length : Nat) : Int)) H
theorem sc_len : FnScope ["self"] ["self"] d_m_len.scope := ⟨rfl, rfl, rfl, by decide +kernel, rfl, by decide +kernel, by decide +kernel⟩
theorem ok_len (t : Tx K mg base) : Mt P w K mg base 1 (SC K) "__len__" (spLen (SC K)) := by
  obtain ⟨fd, F⟩ := t.e_m_len
  refine mkMt (N := ["self"]) (ps := ["self"]) F t.cl t.m_len (fun _ _ _ _ _ _ us hl => match us, hl with | [_], _ => rfl) sc_len (fun vs H Q E h => ?_) (fun cdv A outer s H vs Q E hr h => ?_)
  · obtain ⟨_, _, _, _, rfl, _⟩ := h
    rfl
  · obtain ⟨vp, G, S, a, rfl, sa, q⟩ := h
    refine ⟨_, pss_one (ps_ret (pe_callB call_len_seq rfl t.b_len (by decide +kernel) (pa_cons (pe_fld (pv 0) rfl) pa_nil))), ?_⟩
    refine ⟨_, rfl, sa.fd t.cl t.a_ages f_a ⟨_, _, rfl, .inl (SqL.of sa.ages), ?_⟩⟩
    rw [fr_len, List.length_map]
    exact q
/-! counts -/
def spCounts (T : List (Addr × Str)) (C : Addr) : Sp := fun vs H Q _ => ∃ (vp : List Addr) (A : Ag) (S : SM) (a : SA), vs = [.ref a.p] ∧ SlotsAt C H vp A S a ∧ ∀ p H', Kp T [] H H' → ¬ Al H p → H' p = some (.lst (S.cnt.map V.int)) → Q (.ref p) H'
theorem sc_counts : FnScope ["self"] ["self"] d_m_counts.scope := ⟨rfl, rfl, rfl, by decide +kernel, rfl, by decide +kernel, by decide +kernel⟩
theorem ok_counts (t : Tx K mg base) : Mt P w K mg base 1 (SC K) "counts" (spCounts (TT K) (SC K)) := by
  obtain ⟨fd, F⟩ := t.e_m_counts
  refine mkMt (N := ["self"]) (ps := ["self"]) F t.cl t.m_counts (fun _ _ _ _ _ _ us hl => match us, hl with | [_], _ => rfl) sc_counts (fun vs H Q E h => ?_) (fun cdv A outer s H vs Q E hr h => ?_)
  · obtain ⟨_, _, _, _, rfl, _⟩ := h
    rfl
  · obtain ⟨vp, G, S, a, rfl, sa, q⟩ := h
    refine ⟨_, pss_one (ps_ret (pe_callTy call_list_of rfl t.b_list (by decide +kernel) (pa_cons (pe_fld (pv 0) rfl) pa_nil))), ?_⟩
    exact ⟨_, rfl, sa.fd t.cl t.a_taken f_t ⟨a.lt, _, rfl, .inl (SqL.of sa.tak), fun p hp => q p _ (Kp.new hp fun ps z => by cases z) (nAl hp) upd_same⟩⟩
/-! arguments -/
def spArgs (T : List (Addr × Str)) (C : Addr) : Sp := fun vs H Q _ => ∃ (vp : List Addr) (A : Ag) (S : SM) (a : SA), vs = [.ref a.p] ∧ SlotsAt C H vp A S a ∧ ∀ p H', Kp T [] H H' → ¬ Al H p → H' p = some (.tup (agV A)) → Q (.ref p) H'
theorem sc_args : FnScope ["self"] ["self"] d_m_arguments.scope := ⟨rfl, rfl, rfl, by decide +kernel, rfl, by decide +kernel, by decide +kernel⟩
theorem ok_args (t : Tx K mg base) : Mt P w K mg base 1 (SC K) "arguments" (spArgs (TT K) (SC K)) := by
  obtain ⟨fd, F⟩ := t.e_m_arguments
  refine mkMt (N := ["self"]) (ps := ["self"]) F t.cl t.m_arguments (fun _ _ _ _ _ _ us hl => match us, hl with | [_], _ => rfl) sc_args (fun vs H Q E h => ?_) (fun cdv A outer s H vs Q E hr h => ?_)
  · obtain ⟨_, _, _, _, rfl, _⟩ := h
    rfl
  · obtain ⟨vp, G, S, a, rfl, sa, q⟩ := h
    refine ⟨_, pss_one (ps_ret (pe_tup (pa_cons (pe_fld (pv 0) rfl) (pa_cons (pe_fld (pv 0) rfl) (pa_cons (pe_fld (pv 0) rfl) (pa_cons (pe_fld (pv 0) rfl) pa_nil)))))), ?_⟩
    refine ⟨_, rfl, sa.fd t.cl t.a_n f_n ⟨_, rfl, sa.fd t.cl t.a_limit f_lim ⟨_, rfl, sa.fd t.cl t.a_generations f_g ⟨_, rfl, sa.fd t.cl t.a_rule f_r ?_⟩⟩⟩⟩
    exact ⟨sz (show 4 ≤ 1000 by decide), fun p hp => q p _ (Kp.new hp fun ps z => by cases z) (nAl hp) upd_same⟩
end
end Sw
namespace Sw
open PySem PySem.Spec PyProof.Rows L2 LamX
section
variable {K : PySem.W.Frag} {T : List (Addr × Str)} {fp : List Addr} {H H1 H2 : Hp} {a D : Addr} {o o' : HO}
/-- a write to what was not there -/
theorem Kp.dst (k : Kp T fp H H1) (n : ¬ Al H a) (h : H1 a = some o) (w : isW o = true) (w' : isW o' = true) : Kp T fp H (upd H1 a o') :=
  k.trans (Kp.write (fp := [a]) h w w' List.mem_cons_self) fun b hb => .inr (by rw [List.mem_singleton.mp hb]; exact n)
theorem Kp.sub (k : Kp T [] H H1) : Kp T fp H H1 := k.mono fun _ h => (by cases h)
variable {xs : List V} {g : TG} {tt : L2.TT} {te : TE} {vs : List Nat} {σ : L2.St} {Qd : Hp → Prop} {n : Nat}
/-- what stands in a comprehension's way, turn by turn -/
abbrev LcInv (T : List (Addr × Str)) (D : Addr) (H1 : Hp) (R : Nat → List V → Hp → Prop) (i : Nat) (H' : Hp) : Prop := ∃ acc, Kp T [] H1 H' ∧ H' D = some (.lst acc) ∧ acc.length ≤ i ∧ R i acc H'
theorem lc_turn {R : Nat → List V → Hp → Prop} {x : V} {i : Nat} {H' : Hp} (hn : i ≤ 100000) (hD : H1 D = none) (st : ∀ i acc H H', R i acc H → Kp T [D] H H' → R i acc H') (p : LcInv T D H1 R i H')
    (hs : ∀ (acc : List V) (N : V → Hp → Prop) (M : Hp → Prop), Kp T [] H1 H' → H' D = some (.lst acc) → R i acc H' → (∀ y H4, Kp T [] H' H4 → R (i + 1) (acc ++ [y]) H4 → N y H4) → (∀ H3, Kp T [] H' H3 → R (i + 1) acc H3 → M H3) →
      g x (wipe σ vs) H' fun σ2 H2 => wipe σ2 vs = wipe σ vs ∧ tt σ2 H2 fun b H3 => if b = true then te σ2 H3 N else M H3) :
    g x (wipe σ vs) H' fun σ2 H2 => wipe σ2 vs = wipe σ vs ∧ tt σ2 H2 fun b H3 =>
      if b = true then te σ2 H3 fun y H4 => ∃ acc, H4 D = some (.lst acc) ∧ acc.length < sizeLine ∧ LcInv T D H1 R (i + 1) (upd H4 D (.lst (acc ++ [y]))) else LcInv T D H1 R (i + 1) H3 := by
  obtain ⟨acc, k, hd, hl, r⟩ := p
  have big : (100000 : Nat) < sizeLine := by decide
  refine hs acc _ _ k hd r (fun y H4 k4 r4 => ?_) fun H3 k3 r3 => ⟨acc, k.then k3, k3.get hd (fun z => (by cases z)) rfl, by omega, r3⟩
  have h4 : H4 D = some (.lst acc) := k4.get hd (fun z => (by cases z)) rfl
  refine ⟨acc, h4, by omega, acc ++ [y], (k.then k4).dst (nAl hD) h4 rfl rfl, upd_same, by simp; omega, st _ _ _ _ r4 (Kp.write (fp := [D]) h4 rfl rfl List.mem_cons_self)⟩
theorem lcL (R : Nat → List V → Hp → Prop) (hx : ∀ H', Kp T [] H1 H' → SqL K H' a xs) (hn : xs.length ≤ 100000) (hD : H1 D = none) (st : ∀ i acc H H', R i acc H → Kp T [D] H H' → R i acc H') (h0 : R 0 [] H1)
    (hs : ∀ (i : Nat) (x : V) (acc : List V) (H' : Hp) (N : V → Hp → Prop) (M : Hp → Prop), xs[i]? = some x → Kp T [] H1 H' → H' D = some (.lst acc) → R i acc H' → (∀ y H4, Kp T [] H' H4 → R (i + 1) (acc ++ [y]) H4 → N y H4) → (∀ H3, Kp T [] H' H3 → R (i + 1) acc H3 → M H3) →
      g x (wipe σ vs) H' fun σ2 H2 => wipe σ2 vs = wipe σ vs ∧ tt σ2 H2 fun b H3 => if b = true then te σ2 H3 N else M H3)
    (hd : ∀ H' acc, Kp T [] H1 H' → H' D = some (.lst acc) → acc.length ≤ xs.length → R xs.length acc H' → Qd H') :
    ∃ W : Nat → Nat → Hp → Prop, (∃ m, W 0 m (upd H1 D (.lst []))) ∧ ∀ i m H, W i m H →
      ((Itl K a).stop i H ∧ Qd H) ∨ ((Itl K a).go i H ∧ ∃ Nx : Hp → Prop, (∀ H', Nx H' → ∃ m', m' < m ∧ W (i + 1) m' H') ∧ ∀ x H', (Itl K a).yld i H x H' → g x (wipe σ vs) H' fun σ2 H2 => wipe σ2 vs = wipe σ vs ∧ tt σ2 H2 fun b H3 =>
        if b = true then te σ2 H3 fun y H4 => ∃ acc, H4 D = some (.lst acc) ∧ acc.length < sizeLine ∧ Nx (upd H4 D (.lst (acc ++ [y]))) else Nx H3) :=
  lc_list (xs := xs) (LcInv T D H1 R) ⟨[], Kp.new hD (fun _ z => (by cases z)), upd_same, Nat.le_refl _, st _ _ _ _ h0 (Kp.sub (Kp.new hD fun _ z => (by cases z)))⟩ (fun i H' _ p => hx H' p.choose_spec.1)
    (fun i x H' hi p => lc_turn (by have := (List.getElem?_eq_some_iff.mp hi).1; omega) hD st p fun acc N M k hd r n m => hs i x acc H' N M hi k hd r n m) fun H' p => p.elim fun acc z => hd H' acc z.1 z.2.1 z.2.2.1 z.2.2.2
theorem lcT (R : Nat → List V → Hp → Prop) (hx : ∀ H', Kp T [] H1 H' → SqT K H' a xs) (hn : xs.length ≤ 100000) (hD : H1 D = none) (st : ∀ i acc H H', R i acc H → Kp T [D] H H' → R i acc H') (h0 : R 0 [] H1)
    (hs : ∀ (i : Nat) (x : V) (acc : List V) (H' : Hp) (N : V → Hp → Prop) (M : Hp → Prop), xs[i]? = some x → Kp T [] H1 H' → H' D = some (.lst acc) → R i acc H' → (∀ y H4, Kp T [] H' H4 → R (i + 1) (acc ++ [y]) H4 → N y H4) → (∀ H3, Kp T [] H' H3 → R (i + 1) acc H3 → M H3) →
      g x (wipe σ vs) H' fun σ2 H2 => wipe σ2 vs = wipe σ vs ∧ tt σ2 H2 fun b H3 => if b = true then te σ2 H3 N else M H3)
    (hd : ∀ H' acc, Kp T [] H1 H' → H' D = some (.lst acc) → acc.length ≤ xs.length → R xs.length acc H' → Qd H') :
    ∃ W : Nat → Nat → Hp → Prop, (∃ m, W 0 m (upd H1 D (.lst []))) ∧ ∀ i m H, W i m H →
      ((Itt K a).stop i H ∧ Qd H) ∨ ((Itt K a).go i H ∧ ∃ Nx : Hp → Prop, (∀ H', Nx H' → ∃ m', m' < m ∧ W (i + 1) m' H') ∧ ∀ x H', (Itt K a).yld i H x H' → g x (wipe σ vs) H' fun σ2 H2 => wipe σ2 vs = wipe σ vs ∧ tt σ2 H2 fun b H3 =>
        if b = true then te σ2 H3 fun y H4 => ∃ acc, H4 D = some (.lst acc) ∧ acc.length < sizeLine ∧ Nx (upd H4 D (.lst (acc ++ [y]))) else Nx H3) :=
  lc_tup (xs := xs) (LcInv T D H1 R) ⟨[], Kp.new hD (fun _ z => (by cases z)), upd_same, Nat.le_refl _, st _ _ _ _ h0 (Kp.sub (Kp.new hD fun _ z => (by cases z)))⟩ (fun i H' _ p => hx H' p.choose_spec.1)
    (fun i x H' hi p => lc_turn (by have := (List.getElem?_eq_some_iff.mp hi).1; omega) hD st p fun acc N M k hd r n m => hs i x acc H' N M hi k hd r n m) fun H' p => p.elim fun acc z => hd H' acc z.1 z.2.1 z.2.2.1 z.2.2.2
theorem lcR {lo : Int} (R : Nat → List V → Hp → Prop) (hn : n ≤ 100000) (hD : H1 D = none) (st : ∀ i acc H H', R i acc H → Kp T [D] H H' → R i acc H') (h0 : R 0 [] H1)
    (hs : ∀ (i : Nat) (acc : List V) (H' : Hp) (N : V → Hp → Prop) (M : Hp → Prop), i < n → Kp T [] H1 H' → H' D = some (.lst acc) → R i acc H' → (∀ y H4, Kp T [] H' H4 → R (i + 1) (acc ++ [y]) H4 → N y H4) → (∀ H3, Kp T [] H' H3 → R (i + 1) acc H3 → M H3) →
      g (.int (lo + i)) (wipe σ vs) H' fun σ2 H2 => wipe σ2 vs = wipe σ vs ∧ tt σ2 H2 fun b H3 => if b = true then te σ2 H3 N else M H3)
    (hd : ∀ H' acc, Kp T [] H1 H' → H' D = some (.lst acc) → acc.length ≤ n → R n acc H' → Qd H') :
    ∃ W : Nat → Nat → Hp → Prop, (∃ m, W 0 m (upd H1 D (.lst []))) ∧ ∀ i m H, W i m H →
      ((Itr lo n).stop i H ∧ Qd H) ∨ ((Itr lo n).go i H ∧ ∃ Nx : Hp → Prop, (∀ H', Nx H' → ∃ m', m' < m ∧ W (i + 1) m' H') ∧ ∀ x H', (Itr lo n).yld i H x H' → g x (wipe σ vs) H' fun σ2 H2 => wipe σ2 vs = wipe σ vs ∧ tt σ2 H2 fun b H3 =>
        if b = true then te σ2 H3 fun y H4 => ∃ acc, H4 D = some (.lst acc) ∧ acc.length < sizeLine ∧ Nx (upd H4 D (.lst (acc ++ [y]))) else Nx H3) :=
  lc_range (LcInv T D H1 R) ⟨[], Kp.new hD (fun _ z => (by cases z)), upd_same, Nat.le_refl _, st _ _ _ _ h0 (Kp.sub (Kp.new hD fun _ z => (by cases z)))⟩
    (fun i H' hi p => lc_turn (by omega) hD st p fun acc N M k hd r n m => hs i acc H' N M hi k hd r n m) fun H' p => p.elim fun acc z => hd H' acc z.1 z.2.1 z.2.2.1 z.2.2.2
end
theorem SqL.kp {K : PySem.W.Frag} {T : List (Addr × Str)} {H H' : Hp} {a : Addr} {xs : List V} (h : H a = some (.lst xs)) (k : Kp T [] H H') : SqL K H' a xs := SqL.of (k.get h (fun z => (by cases z)) rfl)
theorem SqT.kp {K : PySem.W.Frag} {T : List (Addr × Str)} {fp : List Addr} {H H' : Hp} {a : Addr} {xs : List V} (h : H a = some (.tup xs)) (k : Kp T fp H H') : SqT K H' a xs := SqT.of (k.t _ _ h)
end Sw
namespace Sw
open PySem PySem.Spec PyProof.Rows L2 LamX
theorem it1 {A B : Prop} (h : A) : if true = true then A else B := h
theorem it0 {A B : Prop} (h : B) : if false = true then A else B := h
theorem inV_fr {s : Nat} {l : List Nat} (h : s ∈ l) : inV (.int (s : Int)) (fr l) = true := by
  unfold inV fr
  rw [List.any_map, List.any_eq_true]
  exact ⟨s, h, by simp [eqV]⟩
theorem flat_fr {l : List Nat} : (fr l).all flatV = true := by
  unfold fr
  rw [List.all_map, List.all_eq_true]
  exact fun _ _ => rfl
section
variable {P : Program} {w : World} {K : PySem.W.Frag} {mg : Str → Option Value} {base : Heap}
/-! __contains__ -/
def spIn (T : List (Addr × Str)) (C : Addr) : Sp := fun vs H Q _ => ∃ (vp : List Addr) (A : Ag) (S : SM) (a : SA) (h : Addr) (s : Nat), vs = [.ref a.p, .ref h] ∧ SlotsAt C H vp A S a ∧ Wf A S ∧ s ∈ S.live.map (·.1) ∧ H h = some (.tup (hdV A s (cn S.cnt s))) ∧
  ∀ H', Kp T [] H H' → Q (.bl true) H'
theorem sc_in : FnScope ["self", "handle", "part"] ["self", "handle"] d_m_contains.scope := ⟨rfl, rfl, rfl, by decide +kernel, rfl, by decide +kernel, by decide +kernel⟩
theorem ok_in (t : Tx K mg base) : Mt P w K mg base 2 (SC K) "__contains__" (spIn (TT K) (SC K)) := by
  obtain ⟨fd, F⟩ := t.e_m_contains
  refine mkMt (N := ["self", "handle", "part"]) (ps := ["self", "handle"]) F t.cl t.m_contains (fun _ _ _ _ _ _ us hl => match us, hl with | [_, _], _ => rfl) sc_in (fun vs H Q E h => ?_) (fun cdv A outer s H vs Q E hr h => ?_)
  · obtain ⟨_, _, _, _, _, _, rfl, _⟩ := h
    rfl
  · obtain ⟨vp, G, S, a, hd, sl, rfl, sa, wf, hl, hh, q⟩ := h
    have nd : (["self", "handle", "part"] : List Str).Nodup := by decide +kernel
    have lt := wf.lt' hl
    refine ⟨_, pss_cons (ps_if (PW.pt (pw_or (pt_not (pt_val (pe_callB call_isi rfl t.b_isinstance (by decide +kernel) (pa_cons (pv 1) (pa_cons (pe_bltn (v := .ty "tuple") rfl t.b_tuple (by decide +kernel) rfl) pa_nil)))))
        (pw_or (pt_cmpR op_ne (pe_callB call_len_seq rfl t.b_len (by decide +kernel) (pa_cons (pv 1) pa_nil)) pe_int (nomark _))
        (pw_or1 (pt_not (pt_val (pe_callB (cr_all rfl) rfl t.b_all (by decide +kernel) (pa_cons
          (pe_lc (own := [("part", 2)]) (g := gName 2) (tt := tYes) rfl nd (pi_tup (pv 1)) (blkOk_by (own := [("part", 2)]) (N := ["self", "handle", "part"]) (sc := d_m_contains.scope) (by decide +kernel)) (fun _ _ _ _ _ => pg_name (i := 2) nd rfl (Or.inl rfl)) (fun _ _ _ _ _ => pts_nil)
            (fun _ _ _ _ _ => pe_c (ok_isInt t) hr (Nat.le_refl _) rfl (pa_cons (pv 2) pa_nil))) pa_nil)))))))) (pss_one ps_never) pss_nil)
      (pss_one (ps_ret (pe_and (pe_cmpR op_in_seq (pe_ix ix_seq (pv 1) pe_int fun _ _ => rfl) (pe_fld (pv 0) rfl) rfl) (pe_one (pe_cmpR op_eq (pe_ix ix_seq (pv 1) pe_int fun _ _ => rfl) (pe_mt (ok_gen t) hr (Nat.le_refl _) (pv 0) (pa_cons (pe_ix ix_seq (pv 1) pe_int fun _ _ => rfl) pa_nil)) rfl))))), ?_⟩
    refine ⟨_, rfl, _, _, _, _, true, rfl, .ty _, .base (.tup hh), kit_ty (by decide +kernel), true, rfl, iteF ?_⟩
    refine ⟨_, rfl, hd, _, rfl, .inr (SqT.of hh), rfl, false, rfl, iteF ?_⟩
    refine ⟨_, rfl, hd, rfl, ⟨_, SqT.of hh⟩, fun D hD => ?_⟩
    refine lcT (T := TT K) (fun i acc _ => acc = List.replicate i (V.bl true)) (fun H' k => SqT.kp hh k) (by show 2 ≤ 100000; decide) hD (fun _ _ _ _ r _ => r) rfl (fun i x acc H' N M hx k hd' r n m => ?_) fun H' acc k hd' hl' r => ?_
    · have hx' : ∃ z, x = V.int z := by
        unfold hdV at hx
        match i, hx with
        | 0, hx => exact ⟨_, (Option.some.inj hx).symm⟩
        | 1, hx => exact ⟨_, (Option.some.inj hx).symm⟩
      obtain ⟨z, rfl⟩ := hx'
      refine ⟨rfl, it1 (B := M H') ?_⟩
      refine ⟨_, rfl, z, rfl, n _ _ Kp.refl ?_⟩
      rw [r]
      exact List.replicate_succ'.symm
    · subst r
      refine ⟨D, List.replicate (hdV G sl (cn S.cnt sl)).length true, rfl, SqL.of (by rw [hd', List.map_replicate]), ?_⟩
      have sa2 := sa.keep k (fun _ z => by cases z) (fun _ z => by cases z)
      refine ⟨_, rfl, iteF ?_⟩
      refine ⟨_, rfl, .inr (.inl ⟨hd, _, (0 : Nat), .int sl, rfl, rfl, SqT.kp hh k, at_nat rfl, ?_⟩)⟩
      refine ⟨_, rfl, sa2.fd t.cl t.a_ages f_a ⟨a.la, _, rfl, .inl (SqL.of sa2.ages), rfl, flat_fr, ?_⟩⟩
      refine ⟨true, ?_, iteT ?_⟩
      · show V.bl (inV _ _) = _
        rw [inV_fr hl]
      refine ⟨_, rfl, .inr (.inl ⟨hd, _, (1 : Nat), .int (gen G (cn S.cnt sl)), rfl, rfl, SqT.kp hh k, at_nat rfl, ?_⟩)⟩
      refine ⟨_, rfl, sa2.md rfl ?_⟩
      refine ⟨_, rfl, .inr (.inl ⟨hd, _, (0 : Nat), .int sl, rfl, rfl, SqT.kp hh k, at_nat rfl, ?_⟩)⟩
      refine ⟨vp, G, S, a, sl, rfl, sa2, wf, lt, rfl, ?_⟩
      show Q (V.bl (decide _)) _
      rw [decide_eq_true rfl]
      exact q _ k
end
end Sw
namespace Sw
open PySem PySem.Spec PyProof.Rows L2 LamX
theorem pr_len {α β : Type} {F : α → β → Prop} : ∀ {l₁ : List α} {l₂ : List β}, Paired F l₁ l₂ → l₁.length = l₂.length
  | _, _, .nil => rfl
  | _, _, .cons _ t => congrArg (· + 1) (pr_len t)
theorem pr_app {α β : Type} {F : α → β → Prop} : ∀ {l₁ m₁ : List α} {l₂ m₂ : List β}, Paired F l₁ l₂ → Paired F m₁ m₂ → Paired F (l₁ ++ m₁) (l₂ ++ m₂)
  | _, _, _, _, .nil, q => q
  | _, _, _, _, .cons h t, q => .cons h (pr_app t q)
theorem pr_at {α β : Type} {F : α → β → Prop} : ∀ {l₁ : List α} {l₂ : List β} {i : Nat} {y : β}, Paired F l₁ l₂ → l₂[i]? = some y → ∃ x, l₁[i]? = some x ∧ F x y
  | _, _, _, _, .nil, e => by simp at e
  | _, _, 0, _, .cons h t, e => by
    simp at e
    subst e
    exact ⟨_, rfl, h⟩
  | _, _, i + 1, _, .cons h t, e => pr_at (i := i) t (by simpa using e)
theorem pr_at1 {α β : Type} {F : α → β → Prop} : ∀ {l₁ : List α} {l₂ : List β} {i : Nat} {x : α}, Paired F l₁ l₂ → l₁[i]? = some x → ∃ y, l₂[i]? = some y ∧ F x y
  | _, _, _, _, .nil, e => by simp at e
  | _, _, 0, _, .cons h t, e => by
    simp at e
    subst e
    exact ⟨_, rfl, h⟩
  | _, _, i + 1, _, .cons h t, e => pr_at1 (i := i) t (by simpa using e)
section
variable {P : Program} {w : World} {K : PySem.W.Frag} {mg : Str → Option Value} {base : Heap}
/-! check_handle -/
def spChk (T : List (Addr × Str)) (C : Addr) : Sp := fun vs H Q _ => ∃ (vp : List Addr) (A : Ag) (S : SM) (a : SA) (h : Addr) (s : Nat), vs = [.ref a.p, .ref h] ∧ SlotsAt C H vp A S a ∧ Wf A S ∧ s ∈ S.live.map (·.1) ∧ H h = some (.tup (hdV A s (cn S.cnt s))) ∧
  ∀ H', Kp T [] H H' → Q .non H'
theorem sc_chk : FnScope ["self", "handle"] ["self", "handle"] d_m_check_handle.scope := ⟨rfl, rfl, rfl, by decide +kernel, rfl, by decide +kernel, by decide +kernel⟩
theorem ok_chk (t : Tx K mg base) : Mt P w K mg base 3 (SC K) "check_handle" (spChk (TT K) (SC K)) := by
  obtain ⟨fd, F⟩ := t.e_m_check_handle
  refine mkMt (N := ["self", "handle"]) (ps := ["self", "handle"]) F t.cl t.m_check_handle (fun _ _ _ _ _ _ us hl => match us, hl with | [_, _], _ => rfl) sc_chk (fun vs H Q E h => ?_) (fun cdv A outer s H vs Q E hr h => ?_)
  · obtain ⟨_, _, _, _, _, _, rfl, _⟩ := h
    rfl
  · obtain ⟨vp, G, S, a, hd, sl, rfl, sa, wf, hl, hh, q⟩ := h
    refine ⟨_, pss_one (ps_if (pt_cmpR (op_notInOwn (ok_in t) hr) (pv 1) (pv 0) rfl) (pss_one ps_never) pss_nil), ?_⟩
    obtain ⟨dx, ho⟩ := sa.ob
    exact ⟨_, rfl, _, rfl, a.p, dx, _, rfl, ho, vp, G, S, a, hd, sl, rfl, sa, wf, hl, hh, fun H' k => ⟨true, rfl, false, rfl, iteF (q _ k)⟩⟩
/-! free -/
def spFree (T : List (Addr × Str)) (C : Addr) : Sp := fun vs H Q _ => ∃ (vp : List Addr) (A : Ag) (S : SM) (a : SA), vs = [.ref a.p] ∧ SlotsAt C H vp A S a ∧ Wf A S ∧ Tabs T H ∧ ∀ p H', Kp T [] H H' → ¬ Al H p → H' p = some (.lst (fr S.free)) → Q (.ref p) H'
theorem sc_free : FnScope ["self"] ["self"] d_m_free.scope := ⟨rfl, rfl, rfl, by decide +kernel, rfl, by decide +kernel, by decide +kernel⟩
theorem ok_free (t : Tx K mg base) : Mt P w K mg base 3 (SC K) "free" (spFree (TT K) (SC K)) := by
  obtain ⟨fd, F⟩ := t.e_m_free
  refine mkMt (N := ["self"]) (ps := ["self"]) F t.cl t.m_free (fun _ _ _ _ _ _ us hl => match us, hl with | [_], _ => rfl) sc_free (fun vs H Q E h => ?_) (fun cdv A outer s H vs Q E hr h => ?_)
  · obtain ⟨_, _, _, _, rfl, _⟩ := h
    rfl
  · obtain ⟨vp, G, S, a, rfl, sa, wf, tb, q⟩ := h
    refine ⟨_, pss_one (ps_ret (pe_c (ok_order t) hr (Nat.le_refl _) rfl (pa_cons (pe_fld (pv 0) rfl) (pa_cons (pe_fld (pv 0) rfl) (pa_cons (pe_fld (pv 0) rfl) pa_nil))))), ?_⟩
    obtain ⟨order, o1, o2, o3⟩ := sa.ord
    refine ⟨_, rfl, sa.fd t.cl t.a_rule f_r ⟨_, rfl, sa.fd t.cl t.a_order f_o ⟨_, rfl, sa.fd t.cl t.a_taken f_t ?_⟩⟩⟩
    refine ⟨G.r, a.lo, a.lt, order, S.free, S.cnt, rfl, o1, sa.tak, o2, wf.free_nd, wf.ord, o3, fun s hs => ⟨wf.lt hs, ?_⟩, tb, q⟩
    have h1 := wf.lt hs
    have h2 := wf.len
    have h3 := wf.ok.n6
    omega
/-! state -/
def spState (T : List (Addr × Str)) (C : Addr) : Sp := fun vs H Q _ => ∃ (vp : List Addr) (A : Ag) (S : SM) (a : SA), vs = [.ref a.p] ∧ SlotsAt C H vp A S a ∧ Wf A S ∧ Tabs T H ∧
  ∀ p f H', Kp T [] H H' → H' f = some (.lst (fr S.free)) → H' p = some (.tup [.ref a.lt, .ref a.la, .ref f]) → Q (.ref p) H'
theorem sc_state : FnScope ["self"] ["self"] d_m_state.scope := ⟨rfl, rfl, rfl, by decide +kernel, rfl, by decide +kernel, by decide +kernel⟩
theorem ok_state (t : Tx K mg base) : Mt P w K mg base 4 (SC K) "state" (spState (TT K) (SC K)) := by
  obtain ⟨fd, F⟩ := t.e_m_state
  refine mkMt (N := ["self"]) (ps := ["self"]) F t.cl t.m_state (fun _ _ _ _ _ _ us hl => match us, hl with | [_], _ => rfl) sc_state (fun vs H Q E h => ?_) (fun cdv A outer s H vs Q E hr h => ?_)
  · obtain ⟨_, _, _, _, rfl, _⟩ := h
    rfl
  · obtain ⟨vp, G, S, a, rfl, sa, wf, tb, q⟩ := h
    refine ⟨_, pss_one (ps_ret (pe_tup (pa_cons (pe_fld (pv 0) rfl) (pa_cons (pe_fld (pv 0) rfl) (pa_cons (pe_mt0 (ok_free t) hr (Nat.le_refl _) (pv 0)) pa_nil))))), ?_⟩
    refine ⟨_, rfl, sa.fd t.cl t.a_taken f_t ⟨_, rfl, sa.fd t.cl t.a_ages f_a ⟨_, rfl, sa.md rfl ⟨vp, G, S, a, rfl, sa, wf, tb, fun f H' k _ hf => ?_⟩⟩⟩⟩
    refine ⟨sz (show 3 ≤ 1000 by decide), fun p hp => q p f _ (k.then (Kp.new hp fun ps z => by cases z)) ?_ upd_same⟩
    exact up (ne_of_none hf hp) hf
/-! live -/
abbrev Hds (H : Hp) (A : Ag) (cnt : List Int) : List Addr → List Nat → Prop := Paired fun h s => H h = some (.tup (hdV A s (cn cnt s)))
theorem Hds.kp {H H' : Hp} {T : List (Addr × Str)} {fp : List Addr} {A : Ag} {cnt : List Int} {hs : List Addr} {l : List Nat} (h : Hds H A cnt hs l) (k : Kp T fp H H') : Hds H' A cnt hs l := Paired.imp h fun _ _ e => k.t _ _ e
theorem Hds.len {H : Hp} {A : Ag} {cnt : List Int} {hs : List Addr} {l : List Nat} (h : Hds H A cnt hs l) : hs.length = l.length := pr_len h
def spLive (T : List (Addr × Str)) (C : Addr) : Sp := fun vs H Q _ => ∃ (vp : List Addr) (A : Ag) (S : SM) (a : SA), vs = [.ref a.p] ∧ SlotsAt C H vp A S a ∧ Wf A S ∧
  ∀ p hs H', Kp T [] H H' → ¬ Al H p → H' p = some (.lst (hs.map V.ref)) → Hds H' A S.cnt hs (S.live.map (·.1)) → Q (.ref p) H'
theorem sc_live : FnScope ["self", "slot"] ["self"] d_m_live.scope := ⟨rfl, rfl, rfl, by decide +kernel, rfl, by decide +kernel, by decide +kernel⟩
theorem ok_live (t : Tx K mg base) : Mt P w K mg base 2 (SC K) "live" (spLive (TT K) (SC K)) := by
  obtain ⟨fd, F⟩ := t.e_m_live
  refine mkMt (N := ["self", "slot"]) (ps := ["self"]) F t.cl t.m_live (fun _ _ _ _ _ _ us hl => match us, hl with | [_], _ => rfl) sc_live (fun vs H Q E h => ?_) (fun cdv A outer s H vs Q E hr h => ?_)
  · obtain ⟨_, _, _, _, rfl, _⟩ := h
    rfl
  · obtain ⟨vp, G, S, a, rfl, sa, wf, q⟩ := h
    have nd : (["self", "slot"] : List Str).Nodup := by decide +kernel
    refine ⟨_, pss_one (ps_ret (pe_lc (own := [("slot", 1)]) (g := gName 1) (tt := tYes) rfl nd (pi_list (pe_fld (pv 0) rfl)) (blkOk_by (own := [("slot", 1)]) (N := ["self", "slot"]) (sc := d_m_live.scope) (by decide +kernel)) (fun _ _ _ _ _ => pg_name (i := 1) nd rfl (Or.inl rfl)) (fun _ _ _ _ _ => pts_nil)
            (fun _ _ _ _ _ => pe_tup (pa_cons (pv 1) (pa_cons (pe_mt (ok_gen t) hr (Nat.le_refl _) (pv 0) (pa_cons (pv 1) pa_nil)) pa_nil))))), ?_⟩
    refine ⟨_, rfl, sa.fd t.cl t.a_ages f_a ⟨a.la, rfl, ⟨_, SqL.of sa.ages⟩, fun D hD => ?_⟩⟩
    refine lcL (T := TT K) (fun i acc H' => ∃ hs, acc = hs.map V.ref ∧ Hds H' G S.cnt hs ((S.live.map (·.1)).take i)) (fun H' k => SqL.kp sa.ages k) ?_ hD (fun _ _ _ _ r k => r.imp fun hs z => ⟨z.1, z.2.kp k⟩) ⟨[], rfl, .nil⟩ (fun i x acc H' N M hx k hd' r n m => ?_) fun H' acc k hd' hl' r => ?_
    · rw [fr_len, List.length_map]
      have := wf.lim
      have := wf.ok.ln
      have := wf.ok.n6
      omega
    · obtain ⟨hs, e1, e2⟩ := r
      unfold fr at hx
      rw [List.getElem?_map] at hx
      cases hs1 : (S.live.map (·.1))[i]? with
      | none => rw [hs1] at hx; cases hx
      | some sl =>
        rw [hs1] at hx
        cases hx
        have hm : sl ∈ S.live.map (·.1) := List.mem_of_getElem? hs1
        have sa2 := sa.keep k (fun _ z => by cases z) (fun _ z => by cases z)
        refine ⟨rfl, it1 (B := M H') ?_⟩
        refine ⟨_, rfl, _, rfl, sa2.md rfl ⟨_, rfl, vp, G, S, a, sl, rfl, sa2, wf, wf.lt' hm, ?_⟩⟩
        refine ⟨sz (show 2 ≤ 1000 by decide), fun p hp => n _ _ (Kp.new hp fun ps z => by cases z) ⟨hs ++ [p], by rw [e1, List.map_append]; rfl, ?_⟩⟩
        rw [List.take_succ, hs1]
        have kn : Kp (TT K) [] H' (upd H' p (.tup [V.int sl, V.int (gen G (cn S.cnt sl))])) := Kp.new hp fun ps z => by cases z
        exact pr_app (Hds.kp e2 kn) (.cons upd_same .nil)
    · obtain ⟨hs, e1, e2⟩ := r
      subst e1
      refine q D hs H' k (nAl hD) hd' ?_
      rw [List.take_of_length_le (by rw [fr_len]; exact Nat.le_refl _)] at e2
      exact e2
end
end Sw
namespace Sw
open PySem PySem.Spec PyProof.Rows L2 LamX
section
variable {s : Nat} {v : V} {d : PyData} {vs : List V} {live l1 l2 : List (Nat × PyData)} {vp : List Addr} {H : Hp}
theorem key_ne {a b : Nat} (h : a ≠ b) : (Sum.inl (a : Int) : Key) ≠ Sum.inl (b : Int) := fun z => h (by injection z with z; exact Int.ofNat.inj z)
theorem kv_none : ∀ {live : List (Nat × PyData)} {vs : List V}, s ∉ live.map (·.1) → valV (kvl live vs) (.inl (s : Int)) = none
  | [], vs, _ => by unfold kvl; rw [List.map_nil, List.zip_nil_left]; rfl
  | p :: l, [], _ => by unfold kvl; rw [List.zip_nil_right]; rfl
  | p :: l, v :: vs, h => by
    unfold kvl
    rw [List.map_cons, List.zip_cons_cons]
    rw [valV_neg (key_ne fun z => h (by rw [List.map_cons, z]; exact List.mem_cons_self))]
    exact kv_none fun z => h (by rw [List.map_cons]; exact List.mem_cons_of_mem _ z)
theorem kvl_app : ∀ {l1 l2 : List (Nat × PyData)} {v1 v2 : List V}, v1.length = l1.length → kvl (l1 ++ l2) (v1 ++ v2) = kvl l1 v1 ++ kvl l2 v2
  | [], l2, [], v2, _ => rfl
  | p :: l, l2, v :: vs, v2, h => by
    have := kvl_app (l1 := l) (l2 := l2) (v1 := vs) (v2 := v2) (by simpa using h)
    unfold kvl at *
    rw [List.cons_append, List.cons_append, List.map_cons, List.zip_cons_cons, this, List.map_cons, List.zip_cons_cons]
    rfl
theorem kv_put (h : s ∉ live.map (·.1)) (hl : vs.length = live.length) : putK (kvl live vs) (.inl (s : Int)) v = kvl (live ++ [(s, d)]) (vs ++ [v]) := by
  unfold putK
  rw [valV_any, kv_none h, kvl_app hl]
  rfl
theorem kv_drop : ∀ {live : List (Nat × PyData)} {vs : List V}, s ∉ live.map (·.1) → dropK (kvl live vs) (.inl (s : Int)) = kvl live vs
  | [], vs, _ => by unfold kvl; rw [List.map_nil, List.zip_nil_left]; rfl
  | p :: l, [], _ => by unfold kvl; rw [List.zip_nil_right]; rfl
  | p :: l, v :: vs, h => by
    have := kv_drop (live := l) (vs := vs) fun z => h (by rw [List.map_cons]; exact List.mem_cons_of_mem _ z)
    unfold kvl dropK at *
    rw [List.map_cons, List.zip_cons_cons, List.filter_cons, if_pos (by simpa using key_ne fun z => h (by rw [List.map_cons, z]; exact List.mem_cons_self)), this]
theorem drop_app {a b : List (Key × V)} {k : Key} : dropK (a ++ b) k = dropK a k ++ dropK b k := by unfold dropK; rw [List.filter_append]
theorem valV_app {a b : List (Key × V)} {k : Key} (h : valV a k = none) : valV (a ++ b) k = valV b k := by
  unfold valV at *
  rw [List.find?_append]
  cases e : a.find? (fun kv => decide (kv.1 = k)) with
  | none => rfl
  | some z => rw [e] at h; cases h
theorem vds_split : ∀ {l1 l2 : List (Nat × PyData)} {vs : List V}, Vds vp H vs (l1 ++ (s, d) :: l2) → ∃ v1 v v2, vs = v1 ++ v :: v2 ∧ Vds vp H v1 l1 ∧ Vd vp H v d ∧ Vds vp H v2 l2
  | [], l2, _, .cons h t => ⟨[], _, _, rfl, .nil, h, t⟩
  | p :: l, l2, _, .cons h t => by
    obtain ⟨v1, v, v2, rfl, h1, h2, h3⟩ := vds_split (l1 := l) t
    exact ⟨_ :: v1, v, v2, rfl, .cons h h1, h2, h3⟩
theorem kv_at (n1 : s ∉ l1.map (·.1)) (n2 : s ∉ l2.map (·.1)) (h : Vds vp H vs (l1 ++ (s, d) :: l2)) :
    ∃ v vs', Vd vp H v d ∧ valV (kvl (l1 ++ (s, d) :: l2) vs) (.inl (s : Int)) = some v ∧ dropK (kvl (l1 ++ (s, d) :: l2) vs) (.inl (s : Int)) = kvl (l1 ++ l2) vs' ∧ Vds vp H vs' (l1 ++ l2) := by
  obtain ⟨v1, v, v2, rfl, h1, h2, h3⟩ := vds_split h
  have e : kvl (l1 ++ (s, d) :: l2) (v1 ++ v :: v2) = kvl l1 v1 ++ (Sum.inl (s : Int), v) :: kvl l2 v2 := by
    rw [kvl_app (pr_len h1)]
    rfl
  refine ⟨v, v1 ++ v2, h2, ?_, ?_, pr_app h1 h3⟩
  · rw [e, valV_app (kv_none n1)]
    exact valV_pos rfl
  · rw [e, drop_app, kv_drop n1]
    have e2 : dropK ((Sum.inl (s : Int), v) :: kvl l2 v2) (.inl (s : Int)) = kvl l2 v2 := by
      have := kv_drop (vs := v2) n2
      unfold dropK at *
      rw [List.filter_cons, if_neg (by simp), this]
    rw [e2, kvl_app (pr_len h1)]
end
/-! the order without one slot -/
theorem first_at {l : List Nat} {s : Nat} (h : s ∈ l) : ∃ j : Nat, (nI l)[j]? = some (s : Int) ∧ (∀ m : Nat, m < j → (nI l)[m]? ≠ some (s : Int)) ∧ (nI l).eraseIdx j = nI (l.erase s) := by
  induction l with
  | nil => cases h
  | cons a l ih =>
    by_cases e : a = s
    · subst e
      refine ⟨0, rfl, fun m hm => absurd hm (Nat.not_lt_zero _), ?_⟩
      rw [List.erase_cons_head]
      rfl
    · have h' : s ∈ l := by
        rcases List.mem_cons.mp h with z | z
        · exact absurd z.symm e
        · exact z
      obtain ⟨j, h1, h2, h3⟩ := ih h'
      refine ⟨j + 1, h1, fun m hm => ?_, ?_⟩
      · cases m with
        | zero =>
          intro z
          have z' : some ((a : Nat) : Int) = some (s : Int) := z
          exact e (Int.ofNat.inj (Option.some.inj z'))
        | succ m => exact h2 m (Nat.lt_of_succ_lt_succ hm)
      · rw [List.erase_cons_tail (by simpa using e)]
        show ((a : Int) :: nI l).eraseIdx (j + 1) = (a : Int) :: nI (l.erase s)
        rw [List.eraseIdx_cons_succ, h3]
theorem erase_mid {s : Nat} {a b : List Nat} (h : s ∉ a) : (a ++ s :: b).erase s = a ++ b := by
  rw [List.erase_append_right _ h, List.erase_cons_head]
end Sw
namespace Sw
open PySem PySem.Spec PyProof.Rows L2 LamX
theorem ne_k {H : Hp} {a b : Addr} {o o' : HO} (h : H a = some o) (h' : H b = some o') (n : o ≠ o') : a ≠ b := fun e => n (by rw [e, h'] at h; exact (Option.some.inj h).symm)
theorem ix_nat {n i : Nat} (h : i < n) : ixN n (i : Int) = some i := by
  unfold ixN
  rw [if_pos (by omega), if_pos (by omega), Int.toNat_natCast]
theorem map_set {l : List Int} {i : Nat} {x : Int} : (l.map V.int).set i (.int x) = (l.set i x).map V.int := by rw [List.map_set]
section
variable {P : Program} {w : World} {K : PySem.W.Frag} {mg : Str → Option Value} {base : Heap}
/-! take -/
def spTake (T : List (Addr × Str)) (C : Addr) : Sp := fun vs H Q _ => ∃ (vp : List Addr) (A : Ag) (S : SM) (a : SA) (v : V) (d : PyData) (s : Nat) (f : List Nat), vs = [.ref a.p, v] ∧ SlotsAt C H vp A S a ∧ Wf A S ∧ Tabs T H ∧ S.free = s :: f ∧ S.live.length < A.lim ∧ Vd vp H v d ∧
  ∀ h H', Kp T a.fp H H' → H' h = some (.tup (hdV A s (cn S.cnt s + 1))) → SlotsAt C H' vp A (S.take d) a → Q (.ref h) H'
theorem sc_take : FnScope ["self", "value", "slot"] ["self", "value"] d_m_take.scope := ⟨rfl, rfl, rfl, by decide +kernel, rfl, by decide +kernel, by decide +kernel⟩
theorem ok_take (t : Tx K mg base) : Mt P w K mg base 4 (SC K) "take" (spTake (TT K) (SC K)) := by
  obtain ⟨fd, F⟩ := t.e_m_take
  refine mkMt (N := ["self", "value", "slot"]) (ps := ["self", "value"]) F t.cl t.m_take (fun _ _ _ _ _ _ us hl => match us, hl with | [_, _], _ => rfl) sc_take (fun vs H Q E h => ?_) (fun cdv A outer s H vs Q E hr h => ?_)
  · obtain ⟨_, _, _, _, _, _, _, _, rfl, _⟩ := h
    rfl
  · obtain ⟨vp, G, S, a, v, d, sl, f, rfl, sa, wf, tb, hf, hl, hv, q⟩ := h
    have nd : (["self", "value", "slot"] : List Str).Nodup := by decide +kernel
    refine ⟨_, pss_cons (ps_if (pt_cmpR op_ge (pe_callB call_len_seq rfl t.b_len (by decide +kernel) (pa_cons (pe_fld (pv 0) rfl) pa_nil)) (pe_fld (pv 0) rfl) (nomark _)) (pss_one ps_never) pss_nil)
      (pss_cons (ps_set (i := 2) nd rfl (Or.inl rfl) (pe_ix ix_seq (pe_mt0 (ok_free t) hr (by decide) (pv 0)) pe_int fun _ _ => rfl) rfl)
      (pss_cons (ps_expr (pe_bm PySem.F.plainAttrs_list PySem.F.slot_list_remove PySem.F.type_list_remove mt_remove (pe_fld (pv 0) rfl) (pa_cons (pv 2) pa_nil)))
      (pss_cons (ps_expr (pe_bm PySem.F.plainAttrs_list PySem.F.slot_list_append PySem.F.type_list_append mt_append (pe_fld (pv 0) rfl) (pa_cons (pv 2) pa_nil)))
      (pss_cons (ps_augS (pe_fld (pv 0) rfl) (pv 2) get_list pe_int ip_add set_list)
      (pss_cons (ps_dput (hu_of hr) (pe_fld (pv 0) rfl) (pv 2) (pv 1) rfl)
      (pss_one (ps_ret (pe_tup (pa_cons (pv 2) (pa_cons (pe_mt (ok_gen t) hr (by decide) (pv 0) (pa_cons (pv 2) pa_nil)) pa_nil)))))))))), ?_⟩
    refine ⟨_, rfl, sa.fd t.cl t.a_ages f_a ⟨a.la, _, rfl, .inl (SqL.of sa.ages), ?_⟩⟩
    refine ⟨_, rfl, sa.fd t.cl t.a_limit f_lim ⟨_, _, rfl, rfl, _, rfl, ?_⟩⟩
    rw [fr_len, List.length_map, decide_eq_false (by omega)]
    refine iteF ?_
    refine ⟨_, rfl, sa.md rfl ⟨vp, G, S, a, rfl, sa, wf, tb, fun pf H1 k1 _ hpf => ?_⟩⟩
    refine .inl ⟨pf, _, (0 : Nat), .int sl, rfl, rfl, SqL.of hpf, at_nat (by rw [hf]; rfl), ?_⟩
    have sa1 := sa.keep k1 (fun _ z => by cases z) (fun _ z => by cases z)
    have tb1 := k1.tab tb
    obtain ⟨dx, hp⟩ := sa1.ob
    obtain ⟨order, ho, hop, hos⟩ := sa1.ord
    obtain ⟨vs, hh, hvs⟩ := sa1.held
    have ha := sa1.ages
    have ht := sa1.tak
    have po : a.p ≠ a.lo := ne_k hp ho fun z => by cases z
    have pa : a.p ≠ a.la := ne_k hp ha fun z => by cases z
    have pt : a.p ≠ a.lt := ne_k hp ht fun z => by cases z
    have ph : a.p ≠ a.dh := ne_k hp hh fun z => by cases z
    have hno : a.dh ≠ a.lo := ne_k hh ho fun z => by cases z
    have hna : a.dh ≠ a.la := ne_k hh ha fun z => by cases z
    have hnt : a.dh ≠ a.lt := ne_k hh ht fun z => by cases z
    have sin : sl ∈ S.free := by rw [hf]; exact List.mem_cons_self
    have slt := wf.lt sin
    obtain ⟨j, j1, j2, j3⟩ := first_at (hop.mem_iff.mpr sin)
    -- order.remove
    refine ⟨_, rfl, a.p, SC K, dx, _, _, rfl, hp, t.cl, t.a_order, f_o, .inl ⟨rfl, _, SqL.of ho⟩, ?_⟩
    refine ⟨_, rfl, a.lo, nI order, sl, j, rfl, rfl, by rw [← fr_nI]; exact ho, j1, j2, ?_⟩
    rw [j3, ← fr_nI]
    -- ages.append
    have ha2 := up (u := .lst (fr (order.erase sl))) sa.n1.symm ha
    refine ⟨_, rfl, a.p, SC K, dx, _, _, rfl, up po hp, t.cl, t.a_ages, f_a, .inl ⟨rfl, _, SqL.of ha2⟩, ?_⟩
    refine ⟨_, rfl, a.la, _, _, rfl, rfl, ha2, ?_, ?_⟩
    · rw [fr_len, List.length_map]
      have := wf.ok.ln
      have := wf.ok.n6
      have : (1000 : Nat) < sizeLine := by decide
      omega
    -- taken[slot] += 1
    have ht2 := up (u := .lst (fr (S.live.map (·.1)) ++ [V.int sl])) sa.n3.symm (up (u := .lst (fr (order.erase sl))) sa.n2.symm ht)
    refine ⟨_, rfl, a.p, SC K, dx, _, _, rfl, up pa (up po hp), t.cl, t.a_taken, f_t, ?_⟩
    refine ⟨_, rfl, a.lt, _, sl, .int (cn S.cnt sl), rfl, rfl, SqL.of ht2, at_nat (by rw [List.getElem?_map, at_cn slt]; rfl), ?_⟩
    refine ⟨_, _, rfl, rfl, ?_⟩
    refine ⟨a.lt, _, sl, sl, rfl, rfl, ht2, ix_nat (by rw [List.length_map]; exact slt), ?_⟩
    rw [map_set]
    -- held[slot] = value
    have hh4 := up (u := .lst ((S.cnt.set sl (cn S.cnt sl + 1)).map V.int)) hnt (up (u := .lst (fr (S.live.map (·.1)) ++ [V.int sl])) hna (up (u := .lst (fr (order.erase sl))) hno hh))
    have nin : sl ∉ S.live.map (·.1) := wf.apart sin
    refine ⟨_, rfl, _, rfl, a.p, SC K, dx, _, _, rfl, up pt (up pa (up po hp)), t.cl, t.a_held, f_h, _, rfl, a.dh, _, rfl, DPut.k (k := .inl (sl : Int)) hh4 ?_, ?_⟩
    · have := pr_len hvs
      have := wf.ok.ln
      have := wf.ok.n6
      have : (1000 : Nat) < sizeLine := by decide
      unfold kvl
      rw [List.length_zip, List.length_map]
      omega
    rw [kv_put (d := d) nin (pr_len hvs)]
    -- the new state
    have sa5 : SlotsAt (SC K) (upd (upd (upd (upd H1 a.lo (.lst (fr (order.erase sl)))) a.la (.lst (fr (S.live.map (·.1)) ++ [V.int sl]))) a.lt (.lst ((S.cnt.set sl (cn S.cnt sl + 1)).map V.int))) a.dh (.dK (kvl (S.live ++ [(sl, d)]) (vs ++ [v])))) vp G (S.take d) a := by
      rw [take_eq hf]
      have nv : ∀ b ∈ vp, b ∉ a.fp := fun b hb z => sa.dj b z hb
      have kk : Kp (TT K) a.fp H1 (upd (upd (upd (upd H1 a.lo (.lst (fr (order.erase sl)))) a.la (.lst (fr (S.live.map (·.1)) ++ [V.int sl]))) a.lt (.lst ((S.cnt.set sl (cn S.cnt sl + 1)).map V.int))) a.dh (.dK (kvl (S.live ++ [(sl, d)]) (vs ++ [v])))) :=
        (Kp.write ho rfl rfl (by simp [SA.fp])).then ((Kp.write ha2 rfl rfl (by simp [SA.fp])).then ((Kp.write ht2 rfl rfl (by simp [SA.fp])).then (Kp.write hh4 rfl rfl (by simp [SA.fp]))))
      have vk : ∀ {v' d'}, Vd vp H1 v' d' → Vd vp _ v' d' := fun h => h.keep kk fun b hb z => nv b z hb
      refine ⟨⟨dx, up ph (up pt (up pa (up po hp)))⟩, ⟨order.erase sl, up hno.symm (up sa.n2 (up sa.n1 upd_same)), ?_, fun z => ?_⟩, ?_, up hnt.symm upd_same, ⟨vs ++ [v], upd_same, pr_app (Paired.imp hvs fun _ _ z => vk z) (.cons (vk (hv.keep k1 fun _ z => by cases z)) .nil)⟩, sa.n1, sa.n2, sa.n3, sa.dj, fun b hb => kk.al b (k1.al b (sa.va b hb))⟩
      · have := hop.erase sl
        rw [hf, List.erase_cons_head] at this
        exact this
      · rw [hos z, hf, List.erase_cons_head]
      · rw [show (S.live ++ [(sl, d)]).map (·.1) = S.live.map (·.1) ++ [sl] by rw [List.map_append]; rfl, fr_app]
        exact up hna.symm (up sa.n3 upd_same)
    have wf5 : Wf G (S.take d) := wf.take hf hl
    have e5 : (S.take d).cnt = bump S.cnt sl := by rw [take_eq hf]
    have kk : Kp (TT K) a.fp H (upd (upd (upd (upd H1 a.lo (.lst (fr (order.erase sl)))) a.la (.lst (fr (S.live.map (·.1)) ++ [V.int sl]))) a.lt (.lst ((S.cnt.set sl (cn S.cnt sl + 1)).map V.int))) a.dh (.dK (kvl (S.live ++ [(sl, d)]) (vs ++ [v])))) :=
      k1.sub.then ((Kp.write ho rfl rfl (by simp [SA.fp])).then ((Kp.write ha2 rfl rfl (by simp [SA.fp])).then ((Kp.write ht2 rfl rfl (by simp [SA.fp])).then (Kp.write hh4 rfl rfl (by simp [SA.fp])))))
    refine ⟨_, rfl, _, rfl, sa5.md rfl ⟨_, rfl, vp, G, S.take d, a, sl, rfl, sa5, wf5, by rw [e5, bump_len]; exact slt, ?_⟩⟩
    refine ⟨sz (show 2 ≤ 1000 by decide), fun h hh => ?_⟩
    have kn : Kp (TT K) [] _ _ := Kp.new (o := .tup [V.int sl, V.int (gen G (cn (S.take d).cnt sl))]) hh fun _ z => by cases z
    refine q h _ (kk.then kn.sub) ?_ (sa5.keep kn (fun _ z => by cases z) (fun _ z => by cases z))
    rw [upd_same, e5, cn_bump slt, if_pos rfl]
    rfl
end
end Sw
namespace Sw
open PySem PySem.Spec PyProof.Rows L2 LamX
theorem ordB_perm {r : Rl} {cnt : List Int} {order free : List Nat} {s : Nat} (h : order.Perm free) : (ordB r order s).Perm (insF r cnt s free) := by
  refine List.Perm.trans ?_ (insF_perm (r := r) (cnt := cnt)).symm
  unfold ordB
  split
  · exact h.cons s
  · exact List.perm_append_comm.trans (h.cons s)
theorem ordB_eq {r : Rl} {cnt : List Int} {free : List Nat} {s : Nat} (h : ¬ Srt r) : ordB r free s = insF r cnt s free := by
  unfold ordB insF
  cases r
  · rfl
  · rfl
  · exact absurd (.inl rfl) h
  · exact absurd (.inr rfl) h
theorem map_fst_mid {l1 l2 : List (Nat × PyData)} {s : Nat} {d : PyData} (h : s ∉ l1.map (·.1)) : ((l1 ++ (s, d) :: l2).map (·.1)).erase s = (l1 ++ l2).map (·.1) := by
  rw [List.map_append, List.map_append, List.map_cons]
  exact erase_mid h
section
variable {P : Program} {w : World} {K : PySem.W.Frag} {mg : Str → Option Value} {base : Heap}
/-! give -/
def spGive (T : List (Addr × Str)) (C : Addr) : Sp := fun vs H Q _ => ∃ (vp : List Addr) (A : Ag) (S : SM) (a : SA) (h : Addr) (s : Nat) (d : PyData), vs = [.ref a.p, .ref h] ∧ SlotsAt C H vp A S a ∧ Wf A S ∧ (s, d) ∈ S.live ∧ H h = some (.tup (hdV A s (cn S.cnt s))) ∧
  ∀ v a' H', a'.p = a.p → Kp T a.fp H H' → Fr H a.fp a'.fp → Vd vp H' v d → SlotsAt C H' vp A (S.give A.r s) a' → Q v H'
theorem sc_give : FnScope ["self", "handle", "slot"] ["self", "handle"] d_m_give.scope := ⟨rfl, rfl, rfl, by decide +kernel, rfl, by decide +kernel, by decide +kernel⟩
theorem ok_give (t : Tx K mg base) : Mt P w K mg base 4 (SC K) "give" (spGive (TT K) (SC K)) := by
  obtain ⟨fd, F⟩ := t.e_m_give
  refine mkMt (N := ["self", "handle", "slot"]) (ps := ["self", "handle"]) F t.cl t.m_give (fun _ _ _ _ _ _ us hl => match us, hl with | [_, _], _ => rfl) sc_give (fun vs H Q E h => ?_) (fun cdv A outer s H vs Q E hr h => ?_)
  · obtain ⟨_, _, _, _, _, _, _, rfl, _⟩ := h
    rfl
  · obtain ⟨vp, G, S, a, h, sl, d, rfl, sa, wf, hl, hh, q⟩ := h
    have nd : (["self", "handle", "slot"] : List Str).Nodup := by decide +kernel
    refine ⟨_, pss_cons (ps_expr (pe_mt (ok_chk t) hr (Nat.le_refl _) (pv 0) (pa_cons (pv 1) pa_nil)))
      (pss_cons (ps_set (i := 2) nd rfl (Or.inl rfl) (pe_ix ix_seq (pv 1) pe_int fun _ _ => rfl) rfl)
      (pss_cons (ps_expr (pe_bm PySem.F.plainAttrs_list PySem.F.slot_list_remove PySem.F.type_list_remove mt_remove (pe_fld (pv 0) rfl) (pa_cons (pv 2) pa_nil)))
      (pss_cons (ps_fld (pv 0) (pe_c (ok_behind t) hr (by decide) rfl (pa_cons (pe_fld (pv 0) rfl) (pa_cons (pe_fld (pv 0) rfl) (pa_cons (pv 2) pa_nil)))) rfl)
      (pss_one (ps_ret (pe_dpop1 (pe_fld (pv 0) rfl) (pv 2) ⟨rfl, rfl, rfl, rfl⟩)))))), ?_⟩
    have lm : sl ∈ S.live.map (·.1) := List.mem_map.mpr ⟨_, hl, rfl⟩
    refine ⟨_, rfl, sa.md rfl ⟨_, rfl, vp, G, S, a, h, sl, rfl, sa, wf, lm, hh, fun H1 k1 => ?_⟩⟩
    refine ⟨_, rfl, .inr (.inl ⟨h, _, (0 : Nat), .int sl, rfl, rfl, SqT.kp hh k1, at_nat rfl, ?_⟩)⟩
    have sa1 := sa.keep k1 (fun _ z => by cases z) (fun _ z => by cases z)
    obtain ⟨dx, hp⟩ := sa1.ob
    obtain ⟨order, ho, hop, hos⟩ := sa1.ord
    obtain ⟨vs, hd, hvs⟩ := sa1.held
    have ha := sa1.ages
    have ht := sa1.tak
    have po : a.p ≠ a.lo := ne_k hp ho fun z => by cases z
    have pa : a.p ≠ a.la := ne_k hp ha fun z => by cases z
    have pt : a.p ≠ a.lt := ne_k hp ht fun z => by cases z
    have ph : a.p ≠ a.dh := ne_k hp hd fun z => by cases z
    have hno : a.dh ≠ a.lo := ne_k hd ho fun z => by cases z
    have hna : a.dh ≠ a.la := ne_k hd ha fun z => by cases z
    have hnt : a.dh ≠ a.lt := ne_k hd ht fun z => by cases z
    obtain ⟨l1, l2, el, n1, n2⟩ := live_split wf hl
    obtain ⟨j, j1, j2, j3⟩ := first_at lm
    -- ages.remove
    refine ⟨_, rfl, a.p, SC K, dx, _, _, rfl, hp, t.cl, t.a_ages, f_a, .inl ⟨rfl, _, SqL.of ha⟩, ?_⟩
    refine ⟨_, rfl, a.la, nI (S.live.map (·.1)), sl, j, rfl, rfl, by rw [← fr_nI]; exact ha, j1, j2, ?_⟩
    rw [j3, ← fr_nI, el, map_fst_mid n1]
    have kw : Kp (TT K) [a.la] H1 (upd H1 a.la (.lst (fr ((l1 ++ l2).map (·.1))))) := Kp.write ha rfl rfl List.mem_cons_self
    -- order = order_behind(..)
    refine ⟨_, rfl, a.p, SC K, dx, _, _, rfl, up pa hp, t.cl, t.a_rule, f_r, _, rfl, a.p, SC K, dx, _, _, rfl, up pa hp, t.cl, t.a_order, f_o, _, rfl, ?_⟩
    have ho2 := up (u := .lst (fr ((l1 ++ l2).map (·.1)))) sa.n1 ho
    refine ⟨G.r, a.lo, order, sl, rfl, ho2, ?_, fun p H3 k3 np e3 => ?_⟩
    · have h1 := hop.length_eq
      have h2 := wf.count
      have h3 := wf.ok.n6
      omega
    have hp3 := k3.get (up (u := .lst (fr ((l1 ++ l2).map (·.1)))) pa hp) (fun z => by cases z) rfl
    have ha3 := k3.get (upd_same (H := H1) (a := a.la) (o := .lst (fr ((l1 ++ l2).map (·.1))))) (fun z => by cases z) rfl
    have ht3 := k3.get (up (u := .lst (fr ((l1 ++ l2).map (·.1)))) sa.n3.symm ht) (fun z => by cases z) rfl
    have hd3 := k3.get (up (u := .lst (fr ((l1 ++ l2).map (·.1)))) hna hd) (fun z => by cases z) rfl
    refine ⟨_, rfl, a.p, SC K, dx, _, rfl, hp3, t.cl, t.a_order, (by show 8 < 1000; decide), ?_⟩
    rw [p_o]
    -- held.pop
    rw [el] at hd3 hvs
    obtain ⟨v, vs', v1, v2, v3, v4⟩ := kv_at n1 n2 hvs
    have hd4 := up (u := .ins (SC K) dx (fsl G { a with lo := p })) ph.symm hd3
    refine ⟨_, rfl, a.p, SC K, dx, _, _, rfl, upd_same, t.cl, t.a_held, f_h, a.dh, rfl, .inl ⟨_, .inl hd4⟩, _, rfl, _, .inl (sl : Int), v, hd4, rfl, v2, ?_⟩
    rw [v3]
    have kk : Kp (TT K) a.fp H1 (upd (upd H3 a.p (.ins (SC K) dx (fsl G { a with lo := p }))) a.dh (.dK (kvl (l1 ++ l2) vs'))) :=
      (kw.mono (by simp [SA.fp])).then (k3.sub.then ((Kp.write hp3 rfl rfl (by simp [SA.fp])).then (Kp.write hd4 rfl rfl (by simp [SA.fp]))))
    have npl : ¬ Al H1 p := kw.back np
    have pnp : p ≠ a.p := fun z => npl (z ▸ Al.i hp)
    have pna : p ≠ a.la := fun z => npl (z ▸ Al.l ha)
    have pnt : p ≠ a.lt := fun z => npl (z ▸ Al.l ht)
    have pnh : p ≠ a.dh := fun z => npl (z ▸ Al.d hd)
    have vk : ∀ {v' d'}, Vd vp H1 v' d' → Vd vp (upd (upd H3 a.p (.ins (SC K) dx (fsl G { a with lo := p }))) a.dh (.dK (kvl (l1 ++ l2) vs'))) v' d' := fun h => h.keep kk sa.dj
    refine q v { a with lo := p } _ rfl (k1.sub.then kk) ?_ (vk v1) ?_
    · intro b hb
      simp only [SA.fp, List.mem_cons, List.not_mem_nil, or_false] at hb
      rcases hb with e | e | e | e | e <;> subst e
      · exact .inl (by simp [SA.fp])
      · exact .inr (k1.back npl)
      · exact .inl (by simp [SA.fp])
      · exact .inl (by simp [SA.fp])
      · exact .inl (by simp [SA.fp])
    · rw [give_eq el n1 n2]
      refine ⟨⟨dx, up ph upd_same⟩, ⟨ordB G.r order sl, up pnh (up pnp e3), ordB_perm hop, fun z => by rw [hos z]; exact ordB_eq z⟩, up hna.symm (up pa.symm ha3), up hnt.symm (up pt.symm ht3), ⟨vs', upd_same, Paired.imp v4 fun _ _ z => vk z⟩, pna, pnt, sa.n3, ?_, fun b hb => kk.al b (sa1.va b hb)⟩
      intro b hb hv
      simp only [SA.fp, List.mem_cons, List.not_mem_nil, or_false] at hb
      rcases hb with e | e | e | e | e <;> subst e
      · exact sa.dj _ (by simp [SA.fp]) hv
      · exact npl (sa1.va _ hv)
      · exact sa.dj _ (by simp [SA.fp]) hv
      · exact sa.dj _ (by simp [SA.fp]) hv
      · exact sa.dj _ (by simp [SA.fp]) hv
end
end Sw
namespace Sw
open PySem PySem.Spec PyProof.Rows L2 LamX
/-! data of whole numbers -/
theorem eqv_ints : ∀ ns ms : List Int, PyData.eqvAll (ns.map PyData.int) (ms.map PyData.int) = decide (ns = ms)
  | [], [] => by simp [PyData.eqvAll]
  | [], _ :: _ => by simp [PyData.eqvAll]
  | _ :: _, [] => by simp [PyData.eqvAll]
  | a :: r, b :: t => by
    simp only [List.map_cons, PyData.eqvAll, PyData.eqv, eqv_ints r t]
    by_cases h : a = b <;> by_cases h' : r = t <;> simp [h, h']
def Lp (ns : List Int) : PyData := .list (ns.map PyData.int)
def Tp (ns : List Int) : PyData := .tuple (ns.map PyData.int)
theorem eqv_Lp {ns ms : List Int} : PyData.eqv (Lp ns) (Lp ms) = decide (ns = ms) := by unfold Lp; rw [PyData.eqv]; exact eqv_ints ns ms
theorem eqv_Tp {ns ms : List Int} : PyData.eqv (Tp ns) (Tp ms) = decide (ns = ms) := by unfold Tp; rw [PyData.eqv]; exact eqv_ints ns ms
theorem dp_Lp {K : PySem.W.Frag} {H : Hp} {a : Addr} {ns : List Int} (h : H a = some (.lst (ns.map V.int))) : Dp K H (.ref a) (Lp ns) := .lst (SqL.of h) (dp_ints ns)
theorem dp_Lf {K : PySem.W.Frag} {H : Hp} {a : Addr} {l : List Nat} (h : H a = some (.lst (fr l))) : Dp K H (.ref a) (Lp (nI l)) := dp_Lp (by rw [← fr_nI]; exact h)
theorem dp_Tp {K : PySem.W.Frag} {H : Hp} {a : Addr} {ns : List Int} (h : H a = some (.tup (ns.map V.int))) : Dp K H (.ref a) (Tp ns) := .tup (SqT.of h) (dp_ints ns)
theorem sh_Lp {ns : List Int} : SeqAt.shaped (Lp ns) = true := shaped_ints ns
theorem sh_Tp {ns : List Int} : SeqAt.shaped (Tp ns) = true := shaped_intsT ns
def St3 (c a f : List Int) : PyData := .tuple [Lp c, Lp a, Lp f]
theorem cl_Lp {ns : List Int} : (Lp ns).canLay0 = true := by have := lay_ints ns; unfold Lp; simp [PyData.canLay0, this]
theorem de_Lp {ns : List Int} : (Lp ns).depth = 1 := by have := dep_ints ns; unfold Lp; simp [PyData.depth, this]
theorem cl_Tp {ns : List Int} : (Tp ns).canLay0 = true := by have := lay_ints ns; unfold Tp; simp [PyData.canLay0, this]
theorem de_Tp {ns : List Int} : (Tp ns).depth = 1 := by have := dep_ints ns; unfold Tp; simp [PyData.depth, this]
theorem sh_St3 {c a f : List Int} : SeqAt.shaped (St3 c a f) = true := by
  unfold SeqAt.shaped St3
  simp [PyData.canLay0, PyData.canLayAll0, PyData.depth, PyData.depthAll, cl_Lp, de_Lp]
theorem eqv_St3 {c a f c' a' f' : List Int} : PyData.eqv (St3 c a f) (St3 c' a' f') = (decide (c = c') && (decide (a = a') && decide (f = f'))) := by
  unfold St3
  rw [PyData.eqv]
  simp only [PyData.eqvAll, eqv_Lp, Bool.and_true]
section
variable {P : Program} {w : World} {K : PySem.W.Frag} {mg : Str → Option Value} {base : Heap}
/-! __getitem__ -/
def spGet (T : List (Addr × Str)) (C : Addr) : Sp := fun vs H Q _ => ∃ (vp : List Addr) (A : Ag) (S : SM) (a : SA) (h : Addr) (s : Nat) (d : PyData), vs = [.ref a.p, .ref h] ∧ SlotsAt C H vp A S a ∧ Wf A S ∧ (s, d) ∈ S.live ∧ H h = some (.tup (hdV A s (cn S.cnt s))) ∧
  ∀ v H', Kp T [] H H' → Vd vp H' v d → Q v H'
theorem sc_getit : FnScope ["self", "handle"] ["self", "handle"] d_m_getitem.scope := ⟨rfl, rfl, rfl, by decide +kernel, rfl, by decide +kernel, by decide +kernel⟩
theorem ok_getit (t : Tx K mg base) : Mt P w K mg base 4 (SC K) "__getitem__" (spGet (TT K) (SC K)) := by
  obtain ⟨fd, F⟩ := t.e_m_getitem
  refine mkMt (N := ["self", "handle"]) (ps := ["self", "handle"]) F t.cl t.m_getitem (fun _ _ _ _ _ _ us hl => match us, hl with | [_, _], _ => rfl) sc_getit (fun vs H Q E h => ?_) (fun cdv A outer s H vs Q E hr h => ?_)
  · obtain ⟨_, _, _, _, _, _, _, rfl, _⟩ := h
    rfl
  · obtain ⟨vp, G, S, a, h, sl, d, rfl, sa, wf, hl, hh, q⟩ := h
    refine ⟨_, pss_cons (ps_expr (pe_mt (ok_chk t) hr (Nat.le_refl _) (pv 0) (pa_cons (pv 1) pa_nil)))
      (pss_one (ps_ret (pe_dget (hu_of hr) (pe_fld (pv 0) rfl) (pe_ix ix_seq (pv 1) pe_int fun _ _ => rfl) (fun _ _ => rfl)))), ?_⟩
    have lm : sl ∈ S.live.map (·.1) := List.mem_map.mpr ⟨_, hl, rfl⟩
    refine ⟨_, rfl, sa.md rfl ⟨_, rfl, vp, G, S, a, h, sl, rfl, sa, wf, lm, hh, fun H1 k1 => ?_⟩⟩
    have sa1 := sa.keep k1 (fun _ z => by cases z) (fun _ z => by cases z)
    obtain ⟨vs, hd, hvs⟩ := sa1.held
    obtain ⟨l1, l2, el, n1, n2⟩ := live_split wf hl
    rw [el] at hd hvs
    obtain ⟨v, vs', v1, v2, v3, v4⟩ := kv_at n1 n2 hvs
    have g := DGet.k (k := .inl (sl : Int)) hd
    rw [v2] at g
    refine ⟨_, rfl, sa1.fd t.cl t.a_held f_h ⟨_, rfl, .inr (.inl ⟨h, _, (0 : Nat), .int sl, rfl, rfl, SqT.kp hh k1, at_nat rfl, ⟨a.dh, v, rfl, g, q v _ k1 v1⟩⟩)⟩⟩
/-! == -/
theorem Tx.insC (t : Tx K mg base) : C8.InsC K (SC K) := by
  have e := t.ex
  unfold exB at e
  simp only [Bool.and_eq_true, decide_eq_true_eq] at e
  obtain ⟨⟨⟨⟨⟨⟨⟨⟨⟨⟨e1, e2⟩, e3⟩, e4⟩, e5⟩, e6⟩, e7⟩, e8⟩, e9⟩, e10⟩, e11⟩ := e
  exact ⟨t.cl, He.eqO_ok e7, He.eqO_ok e8, e9, e5, e10⟩
/-- the held values of two equal maps -/
theorem kv_same {vp : List Addr} {H : Hp} {vs ws : List V} {live : List (Nat × PyData)} (nd : (live.map (·.1)).Nodup) (h1 : Vds vp H vs live) (h2 : Vds vp H ws live) :
    ∀ p ∈ kvl live vs, ∃ u d, valV (kvl live ws) p.1 = some u ∧ Dp K H p.2 d ∧ Dp K H u d ∧ SeqAt.shaped d = true := by
  induction live generalizing vs ws with
  | nil =>
    intro p hp
    unfold kvl at hp
    rw [List.map_nil, List.zip_nil_left] at hp
    cases hp
  | cons q l ih =>
    cases h1 with
    | @cons v _ vs _ a1 b1 =>
    cases h2 with
    | @cons u _ us _ a2 b2 =>
    rw [List.map_cons] at nd
    obtain ⟨n1, n2⟩ := List.nodup_cons.mp nd
    intro p hp
    have e : ∀ (v : V) (vs : List V), kvl (q :: l) (v :: vs) = (Sum.inl (q.1 : Int), v) :: kvl l vs := fun _ _ => rfl
    rw [e] at hp ⊢
    rcases List.mem_cons.mp hp with z | z
    · subst z
      exact ⟨u, q.2, valV_pos rfl, a1.dp, a2.dp, a1.shaped⟩
    · obtain ⟨u', d', c1, c2⟩ := ih n2 b1 b2 p z
      refine ⟨u', d', ?_, c2⟩
      rw [valV_neg, c1]
      intro zz
      rw [← zz, kv_none n1] at c1
      cases c1
theorem hu65 {A : Around} {k : Nat} (hr : Room k A) : A.units + 64 + 1 < cLine := by
  have := hr.un
  omega
def spEq (T : List (Addr × Str)) (C : Addr) : Sp := fun vs H Q _ => ∃ (vp : List Addr) (A : Ag) (S S2 : SM) (a b : SA), vs = [.ref a.p, .ref b.p] ∧ SlotsAt C H vp A S a ∧ SlotsAt C H vp A S2 b ∧ Wf A S ∧ Wf A S2 ∧ Tabs T H ∧ (S.cnt = S2.cnt → S = S2) ∧
  ∀ H', Kp T [] H H' → Q (.bl (decide (S.cnt = S2.cnt))) H'
theorem sc_eq : FnScope ["self", "other"] ["self", "other"] d_m_eq.scope := ⟨rfl, rfl, rfl, by decide +kernel, rfl, by decide +kernel, by decide +kernel⟩
theorem dp_ag {H : Hp} {p : Addr} {A : Ag} (h : H p = some (.tup (agV A))) : Dp K H (.ref p) (.tuple [.int A.n, .int A.lim, .int A.g, .str A.r.s]) := .tup (SqT.of h) (.cons (.int _) (.cons (.int _) (.cons (.int _) (.cons (.str _) .nil))))
theorem sh_ag {A : Ag} : SeqAt.shaped (.tuple [.int A.n, .int A.lim, .int A.g, .str A.r.s]) = true := by
  unfold SeqAt.shaped
  cases A.r <;> simp [PyData.canLay0, PyData.canLayAll0, PyData.depth, PyData.depthAll] <;> decide +kernel
theorem ok_eq (t : Tx K mg base) : Mt P w K mg base 5 (SC K) "__eq__" (spEq (TT K) (SC K)) := by
  obtain ⟨fd, F⟩ := t.e_m_eq
  refine mkMt (N := ["self", "other"]) (ps := ["self", "other"]) F t.cl t.m_eq (fun _ _ _ _ _ _ us hl => match us, hl with | [_, _], _ => rfl) sc_eq (fun vs H Q E h => ?_) (fun cdv A outer s H vs Q E hr h => ?_)
  · obtain ⟨_, _, _, _, _, _, rfl, _⟩ := h
    rfl
  · obtain ⟨vp, G, S, S2, a, b, rfl, sa, sb, wf, wf2, tb, hS, q⟩ := h
    refine ⟨_, pss_cons (ps_if (PW.pt (pw_or (pt_not (pt_val (pe_callB (C8.call_isC t.insC) rfl t.b_isinstance (by decide +kernel) (pa_cons (pv 1) (pa_cons (pe_glob (v := .ref (SC K)) rfl t.g_Slots rfl) pa_nil)))))
        (pw_or1 (pt_cmpR (op_neD hr.units) (pe_mt0 (ok_args t) hr (by decide) (pv 0)) (pe_mt0 (ok_args t) hr (by decide) (pv 1)) rfl)))) (pss_one ps_never) pss_nil)
      (pss_one (ps_ret (pe_and (pe_cmpR (op_eqD hr.units) (pe_mt0 (ok_state t) hr (by decide) (pv 0)) (pe_mt0 (ok_state t) hr (by decide) (pv 1)) rfl)
        (pe_one (pe_cmpR (op_eqDD (hu65 hr)) (pe_fld (pv 0) rfl) (pe_fld (pv 1) rfl) rfl))))), ?_⟩
    obtain ⟨dx, hb⟩ := sb.ob
    refine ⟨_, rfl, b.p, dx, _, rfl, hb, true, rfl, iteF ?_⟩
    refine ⟨_, rfl, sa.md rfl ⟨vp, G, S, a, rfl, sa, fun p1 H1 k1 _ e1 => ?_⟩⟩
    have sb1 := sb.keep k1 (fun _ z => by cases z) (fun _ z => by cases z)
    refine ⟨_, rfl, sb1.md rfl ⟨vp, G, S2, b, rfl, sb1, fun p2 H2 k2 _ e2 => ?_⟩⟩
    have ve : PyData.eqv (.tuple [.int G.n, .int G.lim, .int G.g, .str G.r.s]) (.tuple [.int G.n, .int G.lim, .int G.g, .str G.r.s]) = true := SeqAt.eqv_refl _ (SeqAt.canLay_of_shaped sh_ag)
    refine ⟨_, _, dp_ag (k2.t _ _ e1), dp_ag e2, sh_ag, sh_ag, false, by rw [ve]; rfl, iteF ?_⟩
    have k12 := k1.then k2
    have sa2 := sa.keep k12 (fun _ z => by cases z) (fun _ z => by cases z)
    refine ⟨_, rfl, sa2.md rfl ⟨vp, G, S, a, rfl, sa2, wf, k12.tab tb, fun p3 f3 H3 k3 e3 e3' => ?_⟩⟩
    have k13 := k12.then k3
    have sb3 := sb.keep k13 (fun _ z => by cases z) (fun _ z => by cases z)
    refine ⟨_, rfl, sb3.md rfl ⟨vp, G, S2, b, rfl, sb3, wf2, k13.tab tb, fun p4 f4 H4 k4 e4 e4' => ?_⟩⟩
    have k14 := k13.then k4
    have sa4 := sa.keep k14 (fun _ z => by cases z) (fun _ z => by cases z)
    have sb4 := sb.keep k14 (fun _ z => by cases z) (fun _ z => by cases z)
    have f3' := k4.get e3 (fun z => by cases z) rfl
    have d3 : Dp K H4 (.ref p3) (St3 S.cnt (nI (S.live.map (·.1))) (nI S.free)) := .tup (SqT.of (k4.t _ _ e3')) (.cons (dp_Lp sa4.tak) (.cons (dp_Lf sa4.ages) (.cons (dp_Lf f3') .nil)))
    have d4 : Dp K H4 (.ref p4) (St3 S2.cnt (nI (S2.live.map (·.1))) (nI S2.free)) := .tup (SqT.of e4') (.cons (dp_Lp sb4.tak) (.cons (dp_Lf sb4.ages) (.cons (dp_Lf e4) .nil)))
    refine ⟨_, _, d3, d4, sh_St3, sh_St3, _, rfl, ?_⟩
    rw [eqv_St3]
    by_cases hc : S.cnt = S2.cnt
    · have hS' := hS hc
      subst hS'
      rw [decide_eq_true rfl, decide_eq_true rfl, decide_eq_true rfl]
      refine iteT ?_
      obtain ⟨vs, v1, v2⟩ := sa4.held
      obtain ⟨us, u1, u2⟩ := sb4.held
      refine ⟨_, rfl, sa4.fd t.cl t.a_held f_h ⟨_, rfl, sb4.fd t.cl t.a_held f_h ⟨a.dh, b.dh, _, _, rfl, rfl, v1, u1, ?_, kv_same wf.live_nd v2 u2, ?_⟩⟩⟩
      · unfold kvl
        rw [List.length_zip, List.length_zip, pr_len v2, pr_len u2]
      · have := q H4 k14
        rw [decide_eq_true rfl] at this
        exact this
    · rw [decide_eq_false hc, Bool.false_and]
      refine iteF ?_
      have := q H4 k14
      rw [decide_eq_false hc] at this
      exact this
end
end Sw
namespace Sw
open PySem PySem.Spec PyProof.Rows L2 LamX
section
variable {P : Program} {w : World} {K : PySem.W.Frag} {mg : Str → Option Value} {base : Heap}
/-! copy -/
def spCopy (T : List (Addr × Str)) (C : Addr) : Sp := fun vs H Q _ => ∃ (vp : List Addr) (A : Ag) (S : SM) (a : SA), vs = [.ref a.p] ∧ SlotsAt C H vp A S a ∧ Wf A S ∧
  ∀ a' H', Kp T [] H H' → Fr H [] a'.fp → SlotsAt C H' vp A S a' → Q (.ref a'.p) H'
theorem sc_copy : FnScope ["self", "found"] ["self"] d_m_copy.scope := ⟨rfl, rfl, rfl, by decide +kernel, rfl, by decide +kernel, by decide +kernel⟩
theorem ok_copy (t : Tx K mg base) : Mt P w K mg base 6 (SC K) "copy" (spCopy (TT K) (SC K)) := by
  obtain ⟨fd, F⟩ := t.e_m_copy
  refine mkMt (N := ["self", "found"]) (ps := ["self"]) F t.cl t.m_copy (fun _ _ _ _ _ _ us hl => match us, hl with | [_], _ => rfl) sc_copy (fun vs H Q E h => ?_) (fun cdv A outer s H vs Q E hr h => ?_)
  · obtain ⟨_, _, _, _, rfl, _⟩ := h
    rfl
  · obtain ⟨vp, G, S, a, rfl, sa, wf, q⟩ := h
    have nd : (["self", "found"] : List Str).Nodup := by decide +kernel
    refine ⟨_, pss_cons (ps_set (i := 1) nd rfl (Or.inl rfl) (pe_mk (ok_init t) hr (Nat.le_refl _) rfl (pa_cons (pe_fld (pv 0) rfl) (pa_cons (pe_fld (pv 0) rfl) (pa_cons (pe_fld (pv 0) rfl) (pa_cons (pe_fld (pv 0) rfl) pa_nil))))) rfl)
      (pss_cons (ps_fld (pv 1) (pe_callTy call_list_of rfl t.b_list (by decide +kernel) (pa_cons (pe_fld (pv 0) rfl) pa_nil)) rfl)
      (pss_cons (ps_fld (pv 1) (pe_callTy call_list_of rfl t.b_list (by decide +kernel) (pa_cons (pe_fld (pv 0) rfl) pa_nil)) rfl)
      (pss_cons (ps_fld (pv 1) (pe_callTy call_list_of rfl t.b_list (by decide +kernel) (pa_cons (pe_fld (pv 0) rfl) pa_nil)) rfl)
      (pss_cons (ps_fld (pv 1) (pe_callTy call_dictD rfl t.b_dict (by decide +kernel) (pa_cons (pe_fld (pv 0) rfl) pa_nil)) rfl)
      (pss_one (ps_ret (pv 1))))))), ?_⟩
    refine ⟨_, rfl, sa.fd t.cl t.a_n f_n ⟨_, rfl, sa.fd t.cl t.a_limit f_lim ⟨_, rfl, sa.fd t.cl t.a_generations f_g ⟨_, rfl, sa.fd t.cl t.a_rule f_r ?_⟩⟩⟩⟩
    refine fun x dx hx hdx nxd => ⟨G, x, dx, wf.ok, rfl, upd_same, fun a0 H2 e0 s0 k02 fr0 => ⟨rfl, ?_⟩⟩
    have kn : Kp (TT K) [] H (upd (upd H dx (.own x)) x (.ins (SC K) dx [])) := (Kp.new hdx fun _ z => by cases z).then (Kp.new (by rw [upd_ne nxd.symm]; exact hx) fun _ z => by cases z)
    have k2 : Kp (TT K) [] H H2 := kn.trans k02 fun b hb => .inr (by rw [List.mem_singleton.mp hb]; exact nAl hx)
    obtain ⟨dx2, ob2⟩ := s0.ob
    rw [e0] at ob2
    have nx : ¬ Al H x := nAl hx
    have tie : ∀ {Hc : Hp} {b : Addr} {o : HO}, H b = some o → isW o = true → Kp (TT K) [] H Hc → Hc b = some o := fun e w k => k.get e (fun z => by cases z) w
    obtain ⟨order, o1, o2, o3⟩ := sa.ord
    obtain ⟨vs, v1, v2⟩ := sa.held
    have cl := t.cl
    -- order
    have sa2 := sa.keep k2 (fun _ z => by cases z) (fun _ z => by cases z)
    refine ⟨_, rfl, sa2.fd t.cl t.a_order f_o ⟨a.lo, _, rfl, .inl (SqL.of (tie o1 rfl k2)), fun p1 hp1 => ?_⟩⟩
    have x1 : x ≠ p1 := ne_of_none ob2 hp1
    have k3 : Kp (TT K) [] H (upd H2 p1 (.lst (fr order))) := k2.then (Kp.new hp1 fun _ z => by cases z)
    refine ⟨_, rfl, x, SC K, dx2, _, rfl, up x1 ob2, cl, t.a_order, (by show 8 < 1000; decide), ?_⟩
    rw [p_o]
    have k4 := k3.dst (o' := .ins (SC K) dx2 (fsl G { a0 with lo := p1 })) nx (up x1 ob2) rfl rfl
    -- ages
    have sa4 := sa.keep k4 (fun _ z => by cases z) (fun _ z => by cases z)
    refine ⟨_, rfl, sa4.fd t.cl t.a_ages f_a ⟨a.la, _, rfl, .inl (SqL.of sa4.ages), fun p2 hp2 => ?_⟩⟩
    have x2 : x ≠ p2 := (nn hp2).symm
    have k5 := k4.then (Kp.new (T := TT K) (fp := []) (o := .lst (fr (S.live.map (·.1)))) hp2 fun _ z => by cases z)
    refine ⟨_, rfl, x, SC K, dx2, _, rfl, up x2 upd_same, cl, t.a_ages, (by show 8 < 1000; decide), ?_⟩
    rw [p_a]
    have k6 := k5.dst (o' := .ins (SC K) dx2 (fsl G { a0 with lo := p1, la := p2 })) nx (up x2 upd_same) rfl rfl
    -- taken
    have sa6 := sa.keep k6 (fun _ z => by cases z) (fun _ z => by cases z)
    refine ⟨_, rfl, sa6.fd t.cl t.a_taken f_t ⟨a.lt, _, rfl, .inl (SqL.of sa6.tak), fun p3 hp3 => ?_⟩⟩
    have x3 : x ≠ p3 := (nn hp3).symm
    have k7 := k6.then (Kp.new (T := TT K) (fp := []) (o := .lst (S.cnt.map V.int)) hp3 fun _ z => by cases z)
    refine ⟨_, rfl, x, SC K, dx2, _, rfl, up x3 upd_same, cl, t.a_taken, (by show 8 < 1000; decide), ?_⟩
    rw [p_t]
    have k8 := k7.dst (o' := .ins (SC K) dx2 (fsl G { a0 with lo := p1, la := p2, lt := p3 })) nx (up x3 upd_same) rfl rfl
    -- held
    have sa8 := sa.keep k8 (fun _ z => by cases z) (fun _ z => by cases z)
    refine ⟨_, rfl, sa8.fd t.cl t.a_held f_h ⟨a.dh, _, rfl, .inl (tie v1 rfl k8), fun p4 hp4 => ?_⟩⟩
    have x4 : x ≠ p4 := (nn hp4).symm
    have k9 := k8.then (Kp.new (T := TT K) (fp := []) (o := .dK (kvl S.live vs)) hp4 fun _ z => by cases z)
    refine ⟨_, rfl, x, SC K, dx2, _, rfl, up x4 upd_same, cl, t.a_held, (by show 8 < 1000; decide), ?_⟩
    rw [p_h]
    have k10 := k9.dst (o' := .ins (SC K) dx2 (fsl G { a0 with lo := p1, la := p2, lt := p3, dh := p4 })) nx (up x4 upd_same) rfl rfl
    have d12 : p1 ≠ p2 := (nn (upm hp2)).symm
    have d13 : p1 ≠ p3 := (nn (upm (upm (upm hp3)))).symm
    have d23 : p2 ≠ p3 := (nn (upm hp3)).symm
    have d14 : p1 ≠ p4 := (nn (upm (upm (upm (upm (upm hp4)))))).symm
    have d24 : p2 ≠ p4 := (nn (upm (upm (upm hp4)))).symm
    have d34 : p3 ≠ p4 := (nn (upm hp4)).symm
    have f1 : ¬ Al H p1 := k2.back (nAl hp1)
    have f2 : ¬ Al H p2 := k4.back (nAl hp2)
    have f3 : ¬ Al H p3 := k6.back (nAl hp3)
    have f4 : ¬ Al H p4 := k8.back (nAl hp4)
    refine ⟨_, rfl, ?_⟩
    have z := q ⟨x, p1, p2, p3, p4⟩ _ k10 ?_ ?_
    · exact z
    · intro b hb
      simp only [SA.fp, List.mem_cons, List.not_mem_nil, or_false] at hb
      rcases hb with e | e | e | e | e <;> subst e <;> exact .inr (by assumption)
    · have hr0 : ∀ {b : Addr} {o : HO}, H b = some o → True := fun _ => trivial
      refine ⟨⟨dx2, by
          have e : fsl G { a0 with lo := p1, la := p2, lt := p3, dh := p4 } = fsl G ⟨x, p1, p2, p3, p4⟩ := rfl
          rw [← e]
          exact upd_same⟩, ⟨order, up x1.symm (up d14 (up x1.symm (up d13 (up x1.symm (up d12 (up x1.symm upd_same)))))), o2, o3⟩, up x2.symm (up d24 (up x2.symm (up d23 (up x2.symm upd_same)))), up x3.symm (up d34 (up x3.symm upd_same)),
        ⟨vs, up x4.symm upd_same, Paired.imp v2 fun _ _ z => z.keep k10 (fun _ z => by cases z)⟩, d12, d13, d23, ?_, fun b hb => k10.al b (sa.va b hb)⟩
      intro b hb hv
      have al := sa.va b hv
      simp only [SA.fp, List.mem_cons, List.not_mem_nil, or_false] at hb
      rcases hb with e | e | e | e | e <;> subst e <;> contradiction
end
end Sw
namespace Sw
open PySem PySem.Spec PyProof.Rows L2 LamX
theorem nd_map {α β : Type} {f : α → β} (hf : ∀ a b, f a = f b → a = b) : ∀ {l : List α}, l.Nodup → (l.map f).Nodup
  | [], _ => List.nodup_nil
  | a :: l, h => by
    obtain ⟨h1, h2⟩ := List.nodup_cons.mp h
    rw [List.map_cons]
    refine List.nodup_cons.mpr ⟨fun z => ?_, nd_map hf h2⟩
    obtain ⟨b, hb, e⟩ := List.mem_map.mp z
    rw [hf _ _ e] at hb
    exact h1 hb
theorem key_inj {a b : Nat} (h : (Sum.inl (a : Int) : Key) = Sum.inl (b : Int)) : a = b := by injection h with h; exact Int.ofNat.inj h
theorem any_none {kvs : List (Key × V)} {k : Key} (h : k ∉ kvs.map (·.1)) : (kvs.any fun kv => decide (kv.1 = k)) = false := by
  rw [Bool.eq_false_iff]
  intro z
  rw [List.any_eq_true] at z
  obtain ⟨p, hp, e⟩ := z
  exact h (List.mem_map.mpr ⟨p, hp, by simpa using e⟩)
theorem merge_app : ∀ {more kvs : List (Key × V)}, ((kvs ++ more).map (·.1)).Nodup → mergeK kvs more = kvs ++ more
  | [], kvs, _ => by unfold mergeK; rw [List.foldl_nil, List.append_nil]
  | p :: m, kvs, h => by
    have h1 : p.1 ∉ kvs.map (·.1) := by
      rw [List.map_append, List.map_cons] at h
      exact fun z => (List.nodup_append.mp h).2.2 _ z _ List.mem_cons_self rfl
    have e : putK kvs p.1 p.2 = kvs ++ [p] := by
      unfold putK
      rw [any_none h1]
      rfl
    have ih := merge_app (more := m) (kvs := kvs ++ [p]) (by rw [List.append_assoc]; exact h)
    unfold mergeK at *
    rw [List.foldl_cons, e, ih, List.append_assoc]
    rfl
theorem merge_kvl {live : List (Nat × PyData)} {vs : List V} (nd : (live.map (·.1)).Nodup) (hl : vs.length = live.length) : mergeK [] ((live.map fun p => (Sum.inl (p.1 : Int) : Key)).zip vs) = kvl live vs := by
  rw [merge_app]
  · rfl
  · rw [List.nil_append, List.map_fst_zip (by rw [List.length_map]; omega)]
    have e : (live.map fun p => (Sum.inl (p.1 : Int) : Key)) = (live.map (·.1)).map fun (s : Nat) => (Sum.inl (s : Int) : Key) := by rw [List.map_map]; rfl
    rw [e]
    exact nd_map (fun a b h => key_inj h) nd
theorem kv_ix : ∀ {live : List (Nat × PyData)} {vs : List V} {i : Nat} {p : Nat × PyData} {v : V}, (live.map (·.1)).Nodup → live[i]? = some p → vs[i]? = some v → valV (kvl live vs) (.inl (p.1 : Int)) = some v
  | [], _, _, _, _, _, h, _ => by simp at h
  | _ :: _, [], _, _, _, _, _, h => by simp at h
  | q :: l, u :: vs, 0, p, v, _, h1, h2 => by
    simp at h1 h2
    subst h1 h2
    exact valV_pos rfl
  | q :: l, u :: vs, i + 1, p, v, nd, h1, h2 => by
    rw [List.map_cons] at nd
    obtain ⟨n1, n2⟩ := List.nodup_cons.mp nd
    have h1' : l[i]? = some p := by simpa using h1
    have e : kvl (q :: l) (u :: vs) = (Sum.inl (q.1 : Int), u) :: kvl l vs := rfl
    rw [e, valV_neg, kv_ix n2 h1' (by simpa using h2)]
    refine key_ne fun z => n1 ?_
    rw [z]
    exact List.mem_map.mpr ⟨p, List.mem_of_getElem? h1', rfl⟩
section
variable {X : Cx} {K : PySem.W.Frag} {e : Expr} {f : Str} {pos : Pos} {ta : TE}
/-- the same, the fragment named: within a comprehension -/
theorem pe_fldK (hK : X.K = K) (he : PE X e ta) (hb : attributeBase e f X.env (eval e X.env) = eval e X.env) : PE X (.Attribute e f pos) (tFld K ta f) := by
  subst hK
  exact pe_fld he hb
theorem ix_seqK (hK : X.K = K) : IxR X (rIx K) := by
  subst hK
  exact ix_seq
end
section
variable {P : Program} {w : World} {K : PySem.W.Frag} {mg : Str → Option Value} {base : Heap}
/-! put_back -/
def spBack (T : List (Addr × Str)) (C : Addr) : Sp := fun vs H Q _ => ∃ (vp : List Addr) (A : Ag) (S S' : SM) (a : SA) (lo la lt : Addr) (order : List Nat), vs = [.ref a.p, .ref lo, .ref la, .ref lt] ∧ SlotsAt C H vp A S a ∧ Wf A S ∧ Wf A S' ∧ S'.live = S.live ∧
  H lo = some (.lst (fr order)) ∧ order.Perm S'.free ∧ (¬ Srt A.r → order = S'.free) ∧ H la = some (.lst (fr (S.live.map (·.1)))) ∧ H lt = some (.lst (S'.cnt.map V.int)) ∧ (∀ s ∈ S.live.map (·.1), cn S'.cnt s = cn S.cnt s) ∧
  ∀ a' H', a'.p = a.p → Kp T a.fp H H' → Fr H a.fp a'.fp → SlotsAt C H' vp A S' a' → Q .non H'
theorem sc_back : FnScope ["self", "order", "ages", "counts", "values", "slot"] ["self", "order", "ages", "counts"] d_m_put_back.scope := ⟨rfl, rfl, rfl, by decide +kernel, rfl, by decide +kernel, by decide +kernel⟩
theorem ok_back (t : Tx K mg base) : Mt P w K mg base 1 (SC K) "put_back" (spBack (TT K) (SC K)) := by
  obtain ⟨fd, F⟩ := t.e_m_put_back
  refine mkMt (N := ["self", "order", "ages", "counts", "values", "slot"]) (ps := ["self", "order", "ages", "counts"]) F t.cl t.m_put_back (fun _ _ _ _ _ _ us hl => match us, hl with | [_, _, _, _], _ => rfl) sc_back (fun vs H Q E h => ?_) (fun cdv A outer s H vs Q E hr h => ?_)
  · obtain ⟨_, _, _, _, _, _, _, _, _, rfl, _⟩ := h
    rfl
  · obtain ⟨vp, G, S, S', a, lo, la, lt, order, rfl, sa, wf, wf', hlv, hlo, hop, hos, hla, hlt, hc, q⟩ := h
    have nd : (["self", "order", "ages", "counts", "values", "slot"] : List Str).Nodup := by decide +kernel
    refine ⟨_, pss_cons (ps_setLc (i := 4) (own := [("slot", 5)]) (g := gName 5) (tt := tYes) (by rfl) nd rfl rfl (sw_true rfl rfl rfl (by decide +kernel)) (pi_list (pv 2)) (blkOk_by (own := [("slot", 5)]) (N := ["self", "order", "ages", "counts", "values", "slot"]) (sc := d_m_put_back.scope) (by decide +kernel)) (fun _ _ _ _ _ => pg_name (i := 5) nd rfl (Or.inl rfl)) (fun _ _ _ _ _ => pts_nil)
        (fun _ _ _ _ _ => pe_ifExp (pt_cmpR op_eq (pe_ix (ix_seqK (K := K) rfl) (pe_fldK (K := K) rfl (pv 0) rfl) (pv 5) fun _ _ => rfl) (pe_ix (ix_seqK (K := K) rfl) (pv 3) (pv 5) fun _ _ => rfl) (nomark _)) (pe_dget1 (hu_of hr) (pe_fldK (K := K) rfl (pv 0) rfl) (pv 5) ⟨rfl, rfl, rfl, rfl⟩) pe_non))
      (pss_cons (ps_fld (pv 0) (pe_callTy call_list_of rfl t.b_list (by decide +kernel) (pa_cons (pv 1) pa_nil)) rfl)
      (pss_cons (ps_fld (pv 0) (pe_callTy call_list_of rfl t.b_list (by decide +kernel) (pa_cons (pv 2) pa_nil)) rfl)
      (pss_cons (ps_fld (pv 0) (pe_callTy call_list_of rfl t.b_list (by decide +kernel) (pa_cons (pv 3) pa_nil)) rfl)
      (pss_one (ps_fld (pv 0) (pe_dictZip rfl rfl t.b_dict rfl t.b_zip (pa_cons (pv 2) (pa_cons (pv 4) pa_nil))) rfl))))), ?_⟩
    obtain ⟨vs, hd, hvs⟩ := sa.held
    refine ⟨_, rfl, la, rfl, ⟨_, SqL.of hla⟩, fun D hD => ?_⟩
    refine lcL (T := TT K) (fun i acc H' => acc = vs.take i) (fun H' k => SqL.kp hla k) ?_ hD (fun _ _ _ _ r _ => r) rfl (fun i x acc H' N M hx k hd' r n m => ?_) fun H' acc k hd' hl' r => ?_
    · rw [fr_len, List.length_map]
      have := wf.lim
      have := wf.ok.ln
      have := wf.ok.n6
      omega
    · unfold fr at hx
      rw [List.getElem?_map, List.getElem?_map] at hx
      cases hp : S.live[i]? with
      | none => rw [hp] at hx; cases hx
      | some p =>
        rw [hp] at hx
        cases hx
        obtain ⟨v, hv1, hv2⟩ := pr_at hvs hp
        have hm : p.1 ∈ S.live.map (·.1) := List.mem_map.mpr ⟨p, List.mem_of_getElem? hp, rfl⟩
        have sa2 := sa.keep k (fun _ z => by cases z) (fun _ z => by cases z)
        have l1 := wf.lt' hm
        have l2 : p.1 < S'.cnt.length := by rw [wf'.len, ← wf.len]; exact l1
        refine ⟨rfl, it1 (B := M H') ?_⟩
        refine ⟨_, rfl, sa2.fd t.cl t.a_taken f_t ⟨_, rfl, .inl ⟨a.lt, _, p.1, .int (cn S.cnt p.1), rfl, rfl, SqL.of sa2.tak, at_nat (by rw [List.getElem?_map, at_cn l1]; rfl), ?_⟩⟩⟩
        refine ⟨_, rfl, _, rfl, .inl ⟨lt, _, p.1, .int (cn S'.cnt p.1), rfl, rfl, SqL.kp hlt k, at_nat (by rw [List.getElem?_map, at_cn l2]; rfl), ?_⟩⟩
        refine ⟨rfl, _, rfl, ite2 (fun _ => ?_) fun z => absurd (by rw [hc _ hm]; exact decide_eq_true rfl) z⟩
        obtain ⟨vs2, hd2, _⟩ := sa2.held
        refine ⟨_, rfl, sa2.fd t.cl t.a_held f_h ⟨a.dh, rfl, .inl ⟨_, .inl (k.get hd (fun z => by cases z) rfl)⟩, _, rfl, some v, ?_, ?_⟩⟩
        · rw [← kv_ix wf.live_nd hp hv1]
          exact DGet.k (k := .inl (p.1 : Int)) (k.get hd (fun z => by cases z) rfl)
        · refine n _ _ Kp.refl ?_
          rw [List.take_succ, hv1, r]
          rfl
    · rw [fr_len, List.length_map, ← pr_len hvs, List.take_length] at r
      subst r
      have fD : ¬ Al H D := nAl hD
      have sa2 := sa.keep k (fun _ z => by cases z) (fun _ z => by cases z)
      obtain ⟨dx, ob⟩ := sa2.ob
      have cl := t.cl
      -- order
      refine ⟨_, rfl, lo, _, rfl, .inl (SqL.kp hlo k), fun p1 hp1 => ?_⟩
      have x1 : a.p ≠ p1 := ne_of_none ob hp1
      refine ⟨_, rfl, a.p, SC K, dx, _, rfl, up x1 ob, cl, t.a_order, (by show 8 < 1000; decide), ?_⟩
      rw [p_o]
      have m0 : a.p ∈ a.fp := by simp [SA.fp]
      have k2 : Kp (TT K) a.fp H (upd (upd H' p1 (.lst (fr order))) a.p (.ins (SC K) dx (fsl G { a with lo := p1 }))) := k.sub.then ((Kp.new hp1 fun _ z => by cases z).then (Kp.write (up x1 ob) rfl rfl m0))
      have c2 : ∀ {b : Addr} {o : HO}, H b = some o → isW o = true → b ≠ a.p → upd (upd H' p1 (.lst (fr order))) a.p (.ins (SC K) dx (fsl G { a with lo := p1 })) b = some o := fun e w n => up n (up (ne_of_none (k.get e (fun z => by cases z) w) hp1) (k.get e (fun z => by cases z) w))
      have nla : la ≠ a.p := fun z => by obtain ⟨dx', ob'⟩ := sa.ob; rw [z, ob'] at hla; cases hla
      have nlt : lt ≠ a.p := fun z => by obtain ⟨dx', ob'⟩ := sa.ob; rw [z, ob'] at hlt; cases hlt
      -- ages
      refine ⟨_, rfl, la, _, rfl, .inl (SqL.of (c2 hla rfl nla)), fun p2 hp2 => ?_⟩
      have x2 : a.p ≠ p2 := (nn hp2).symm
      refine ⟨_, rfl, a.p, SC K, dx, _, rfl, up x2 upd_same, cl, t.a_ages, (by show 8 < 1000; decide), ?_⟩
      rw [p_a]
      have k4 := k2.then ((Kp.new (T := TT K) (o := .lst (fr (S.live.map (·.1)))) hp2 fun _ z => by cases z).then (Kp.write (o' := .ins (SC K) dx (fsl G { a with lo := p1, la := p2 })) (up x2 upd_same) rfl rfl m0))
      -- taken
      refine ⟨_, rfl, lt, _, rfl, .inl (SqL.of (up nlt (up (ne_of_none (c2 hlt rfl nlt) hp2) (c2 hlt rfl nlt)))), fun p3 hp3 => ?_⟩
      have x3 : a.p ≠ p3 := (nn hp3).symm
      refine ⟨_, rfl, a.p, SC K, dx, _, rfl, up x3 upd_same, cl, t.a_taken, (by show 8 < 1000; decide), ?_⟩
      rw [p_t]
      have k6 := k4.then ((Kp.new (T := TT K) (o := .lst (S'.cnt.map V.int)) hp3 fun _ z => by cases z).then (Kp.write (o' := .ins (SC K) dx (fsl G { a with lo := p1, la := p2, lt := p3 })) (up x3 upd_same) rfl rfl m0))
      -- held
      have dA := c2 hla rfl nla
      have dA2 := up (u := .ins (SC K) dx (fsl G { a with lo := p1, la := p2 })) nla (up (u := .lst (fr (S.live.map (·.1)))) (ne_of_none dA hp2) dA)
      have nD : D ≠ a.p := fun z => fD (z ▸ (by obtain ⟨dx', ob'⟩ := sa.ob; exact Al.i ob'))
      have dD := up (u := .ins (SC K) dx (fsl G { a with lo := p1 })) nD (up (u := .lst (fr order)) (ne_of_none hd' hp1) hd')
      have dD2 := up (u := .ins (SC K) dx (fsl G { a with lo := p1, la := p2 })) nD (up (u := .lst (fr (S.live.map (·.1)))) (ne_of_none dD hp2) dD)
      refine ⟨_, rfl, _, rfl, la, D, S.live.map (fun p => Sum.inl (p.1 : Int)), acc, rfl, ?_, SqL.of (up nD (up (ne_of_none dD2 hp3) dD2)), ?_, fun p4 hp4 => ?_⟩
      · refine SqL.of ?_
        have e : (S.live.map fun p => (Sum.inl (p.1 : Int) : Key)).map kV = fr (S.live.map (·.1)) := by
          unfold fr
          rw [List.map_map, List.map_map]
          rfl
        rw [e]
        exact up nla (up (ne_of_none dA2 hp3) dA2)
      · rw [List.length_map, pr_len hvs]
      rw [merge_kvl wf.live_nd (pr_len hvs)]
      have x4 : a.p ≠ p4 := (nn hp4).symm
      refine ⟨_, rfl, a.p, SC K, dx, _, rfl, up x4 upd_same, cl, t.a_held, (by show 8 < 1000; decide), ?_⟩
      rw [p_h]
      have k8 := k6.then ((Kp.new (T := TT K) (o := .dK (kvl S.live acc)) hp4 fun _ z => by cases z).then (Kp.write (o' := .ins (SC K) dx (fsl G { a with lo := p1, la := p2, lt := p3, dh := p4 })) (up x4 upd_same) rfl rfl m0))
      have d12 : p1 ≠ p2 := (nn (upm hp2)).symm
      have d13 : p1 ≠ p3 := (nn (upm (upm (upm hp3)))).symm
      have d23 : p2 ≠ p3 := (nn (upm hp3)).symm
      have d14 : p1 ≠ p4 := (nn (upm (upm (upm (upm (upm hp4)))))).symm
      have d24 : p2 ≠ p4 := (nn (upm (upm (upm hp4)))).symm
      have d34 : p3 ≠ p4 := (nn (upm hp4)).symm
      have f1 : ¬ Al H p1 := k.back (nAl hp1)
      have f2 : ¬ Al H p2 := k2.back (nAl hp2)
      have f3 : ¬ Al H p3 := k4.back (nAl hp3)
      have f4 : ¬ Al H p4 := k6.back (nAl hp4)
      refine q ⟨a.p, p1, p2, p3, p4⟩ _ rfl k8 ?_ ?_
      · intro b hb
        simp only [SA.fp, List.mem_cons, List.not_mem_nil, or_false] at hb
        rcases hb with e | e | e | e | e <;> subst e <;> first | exact .inl m0 | exact .inr (by assumption)
      · refine ⟨⟨dx, upd_same⟩, ⟨order, up x1.symm (up d14 (up x1.symm (up d13 (up x1.symm (up d12 (up x1.symm upd_same)))))), hop, hos⟩, ?_, up x3.symm (up d34 (up x3.symm upd_same)),
          ⟨acc, ?_, ?_⟩, d12, d13, d23, ?_, fun b hb => k8.al b (sa.va b hb)⟩
        · rw [hlv]
          exact up x2.symm (up d24 (up x2.symm (up d23 (up x2.symm upd_same))))
        · rw [hlv]
          exact up x4.symm upd_same
        · rw [hlv]
          exact Paired.imp hvs fun _ _ z => z.keep k8 sa.dj
        · intro b hb hv
          have al := sa.va b hv
          simp only [SA.fp, List.mem_cons, List.not_mem_nil, or_false] at hb
          rcases hb with e | e | e | e | e <;> subst e <;> first | contradiction | exact sa.dj _ m0 hv
end
end Sw
/-! enumerate over a tuple -/
namespace Sw
open PySem PySem.Spec PyProof.Rows L2
open AutoSeq1 (wpAny_loadPart')
theorem meets_enumT (l : Addr) (items : Array Value) (n : Nat) (dct : Option Addr) (sl : Array (Option Value)) :
    Meets (Builtin.«enumerate.__new__» ⟨[.type "enumerate", .ref l], []⟩) (fun _ R s => s.heap.get? l = some { cls := .type "tuple", dict := dct, data := .seq items n, slots := sl } ∧
      R (.ok (.ret (.ref (s.heap.push { cls := .type "tuple_iterator", data := .fields #[.ref l, .int 0 0] }).objs.size)))
        { s with heap := (s.heap.push { cls := .type "tuple_iterator", data := .fields #[.ref l, .int 0 0] }).push { cls := .type "enumerate", data := .fields #[.none, .bool false, .ref s.heap.objs.size, rawInt 0, .none, .none] } }) :=
  .of_wp fun prog w A R s h => by
    obtain ⟨hp, g, d, tk, os⟩ := s; obtain ⟨hl, h⟩ := h
    have hsub := sub_enumerate
    have hL : Heap.IsTuple (Shared.heap ⟨hp, g, d, tk, os⟩) l items := ⟨_, hl, rfl, n, rfl⟩
    wp_walk using wpAny_loadPart' hl
    refine wpAny_stack_any fun st => wpAny_pure ?_
    split
    · rename_i c _ _ _ _ _
      cases (c == Value.type "enumerate")
      · wp_walk using wpAny_loadPart' hl, wpAny_pyIter_tuple hL
        exact ⟨_, rfl, h⟩
      · wp_walk using wpAny_loadPart' hl, wpAny_pyIter_tuple hL
        exact ⟨_, rfl, h⟩
    · wp_walk using wpAny_loadPart' hl, wpAny_pyIter_tuple hL
      exact ⟨_, rfl, h⟩
section
variable {prog : Program} {w : World} {A : Around} {E : Value → Shared → Prop} {s : Shared}
theorem call_enumT {l : Addr} {items : Array Value} {Q : Value → Shared → Prop} (hL : s.heap.IsTuple l items)
    (h : ∀ h', IsEnum h' (s.heap.objs.size + 1) s.heap.objs.size 0 .none → h'.IsTupleIter s.heap.objs.size l 0 → h'.objs.size = s.heap.objs.size + 2 →
      (∀ b o, s.heap.get? b = some o → h'.get? b = some o) → Q (.ref (s.heap.objs.size + 1)) { s with heap := h' }) :
    wpAny (model prog w) A (call (.type "enumerate") [.ref l]) Q E s := by
  obtain ⟨⟨c, dct, dt, sl⟩, hl, hc, n, hd⟩ := hL
  replace hc : c = .type "tuple" := hc
  replace hd : dt = .seq items n := hd
  subst hc hd
  refine callType_new F.called_enumerate (by decide) (F.typeCall_enumerate_1 _) (F.newCall_enumerate_1 _) (fun obj => F.args_object_init_2 obj _) F.entry_enumerate_new
    (meets_enumT l items n dct sl) ⟨hl, ?_⟩
  have hz : (s.heap.push { cls := .type "tuple_iterator", data := .fields #[.ref l, .int 0 0] }).objs.size = s.heap.objs.size + 1 := Heap.size_push ..
  show _ ∧ _
  rw [hz]
  have he : IsEnum ((s.heap.push { cls := .type "tuple_iterator", data := .fields #[.ref l, .int 0 0] }).push
      { cls := .type "enumerate", data := .fields #[.none, .bool false, .ref s.heap.objs.size, rawInt 0, .none, .none] }) (s.heap.objs.size + 1) s.heap.objs.size 0 .none := by
    have := Heap.get?_push_size (s.heap.push { cls := .type "tuple_iterator", data := .fields #[.ref l, .int 0 0] })
      (o := { cls := .type "enumerate", data := .fields #[.none, .bool false, .ref s.heap.objs.size, rawInt 0, .none, .none] }) rfl
    rw [hz] at this; exact this
  refine ⟨⟨_, he, rfl⟩, h _ he ⟨_, Heap.get?_push_of_some _ (Heap.get?_push_size _ rfl), rfl, rfl⟩ (by rw [Heap.size_push, hz]) fun b o x => Heap.get?_push_of_some _ (Heap.get?_push_of_some _ x)⟩
/-- one step of an enumerate over any iterator that tells its next item -/
theorem enum_step {e it : Addr} {i : Nat} {x old : Value} {Q : Value → Shared → Prop} (Sn : Heap → Prop) (hSn : ∀ h h', Sn h → (∀ o, h.get? it = some o → h'.get? it = some o) → Sn h')
    (he : IsEnum s.heap e it i old) (hne : e ≠ it)
    (hnx : ∀ {Q : Value → Shared → Prop} {A : Around} {E : Value → Shared → Prop}, (∀ h', Sn h' → Heap.SameBut it s.heap h' → Q x { s with heap := h' }) → wpAny (model prog w) A (Builtin.SmallTypes.nextOf (.ref it)) Q E s)
    (hQ : ∀ h', IsEnumOut h' e it ((i : Int) + 1) x s.heap.objs.size → Sn h' →
      h'.get? s.heap.objs.size = some { cls := .type "tuple", data := .seq #[.int i s.toks, x] } → h'.objs.size = s.heap.objs.size + 1 →
      (∀ b o, b ≠ e → b ≠ it → s.heap.get? b = some o → h'.get? b = some o) → Q (.ref s.heap.objs.size) { s with heap := h', toks := s.toks + 1 }) :
    wpAny (model prog w) A (Builtin.«enumerate.__next__» ⟨[.ref e], []⟩) (fun fin s' => ∃ v, fin = .done (.ret v) ∧ Q v s') E s := by
  obtain ⟨hp0, gl, dd, tk, os⟩ := s
  show wpAny _ _ (field (.ref e) 2 >>= _) _ _ _
  refine wpAny_bind (wpAny_field he rfl (x := .ref it) rfl ?_)
  refine wpAny_bind (hnx fun heap₁ left₁ same₁ => ?_)
  replace same₁ : Heap.SameBut it hp0 heap₁ := same₁
  have enumAt₁ : IsEnum heap₁ e it i old := (same₁.2 e hne).trans he
  show wpAny _ _ (field (.ref e) 3 >>= _) _ _ ⟨heap₁, gl, dd, tk, os⟩
  refine wpAny_bind (wpAny_field enumAt₁ rfl (x := rawInt i) rfl ?_)
  show wpAny _ _ (field (.ref e) 4 >>= _) _ _ ⟨heap₁, gl, dd, tk, os⟩
  refine wpAny_bind (wpAny_field enumAt₁ rfl (x := .none) rfl ?_)
  show wpAny _ _ (mkInt i >>= _) _ _ ⟨heap₁, gl, dd, tk, os⟩
  refine wpAny_bind (wpAny_mkInt ?_)
  show wpAny _ _ (setField (.ref e) 3 (rawInt ((i : Int) + 1)) >>= _) _ _ ⟨heap₁, gl, dd, tk + 1, os⟩
  refine wpAny_bind (wpAny_setField_rec enumAt₁ (by simp) fun heap₂ enumAt₂ same₂ => ?_)
  replace same₂ : Heap.SameBut e heap₁ heap₂ := same₂
  replace enumAt₂ : IsEnum heap₂ e it ((i : Int) + 1) old := enumAt₂
  show wpAny _ _ (setField (.ref e) 4 .none >>= _) _ _ ⟨heap₂, gl, dd, tk + 1, os⟩
  refine wpAny_bind (wpAny_setField_rec enumAt₂ (by simp) fun heap₃ enumAt₃ same₃ => ?_)
  replace same₃ : Heap.SameBut e heap₂ heap₃ := same₃
  replace enumAt₃ : IsEnum heap₃ e it ((i : Int) + 1) old := enumAt₃
  show wpAny _ _ (newTuple [.int i tk, x] >>= _) _ _ ⟨heap₃, gl, dd, tk + 1, os⟩
  refine wpAny_bind (wpAny_newTuple ?_)
  have enumAt₄ : IsEnum (heap₃.push { cls := .type "tuple", data := .seq #[.int i tk, x] }) e it ((i : Int) + 1) old := Heap.get?_push_of_some _ enumAt₃
  generalize made₄ : heap₃.push { cls := .type "tuple", data := .seq #[.int i tk, x] } = heap₄ at enumAt₄
  have sizes : heap₃.objs.size = hp0.objs.size := by rw [same₃.1, same₂.1, same₁.1]
  have lte : e < hp0.objs.size := Heap.lt_size he
  have tup₄ : heap₄.get? hp0.objs.size = some { cls := .type "tuple", data := .seq #[.int i tk, x] } := by rw [← made₄, ← sizes]; exact Heap.get?_push_size _ rfl
  have size₄ : heap₄.objs.size = hp0.objs.size + 1 := by rw [← made₄, Heap.size_push, sizes]
  have keep₄ : ∀ b o, b ≠ e → b ≠ it → hp0.get? b = some o → heap₄.get? b = some o := fun b o hbe hbi hb => by
    rw [← made₄]; exact Heap.get?_push_of_some _ (same₃.extBut b o hbe (same₂.extBut b o hbe (same₁.extBut b o hbi hb)))
  have left₄ : Sn heap₄ := hSn _ _ left₁ fun o q => by
    rw [← made₄]
    exact Heap.get?_push_of_some _ (same₃.extBut it o (Ne.symm hne) (same₂.extBut it o (Ne.symm hne) q))
  show wpAny _ _ (Builtin.SmallTypes.ownedTupleIsFree (.ref e) >>= _) _ _ ⟨heap₄, gl, dd, tk + 1, os⟩
  rw [sizes]
  clear made₄ enumAt₃ same₃ enumAt₂ same₂ enumAt₁ same₁ left₁ sizes heap₃ heap₂ heap₁
  refine wpAny_bind ?_
  · unfold Builtin.SmallTypes.ownedTupleIsFree
    refine wpAny_bind (wpAny_field enumAt₄ rfl (x := .none) rfl (wpAny_pure ?_))
    simp only [if_true]
    refine wpAny_bind (wpAny_rule ?_)
    refine wpAny_bind (wpAny_field enumAt₄ rfl (x := old) rfl ?_)
    refine wpAny_bind (wpAny_setField_rec enumAt₄ (by simp) fun heap₅ enumAt₅ same₅ => ?_)
    replace same₅ : Heap.SameBut e heap₄ heap₅ := same₅
    replace enumAt₅ : IsEnum heap₅ e it ((i : Int) + 1) x := enumAt₅
    show wpAny _ _ (Builtin.SmallTypes.ownedTupleHandOut (.ref e) (.ref hp0.objs.size) >>= _) _ _ ⟨heap₅, gl, dd, tk + 1, os⟩
    refine wpAny_bind ?_
    · unfold Builtin.SmallTypes.ownedTupleHandOut
      refine wpAny_bind (wpAny_setField_rec enumAt₅ (by simp) fun heap₆ enumAt₆ same₆ => ?_)
      replace same₆ : Heap.SameBut e heap₅ heap₆ := same₆
      replace enumAt₆ : IsEnumOut heap₆ e it ((i : Int) + 1) x hp0.objs.size := enumAt₆
      refine wpAny_setField_rec enumAt₆ (by simp) fun heap₇ enumAt₇ same₇ => ?_
      replace same₇ : Heap.SameBut e heap₆ heap₇ := same₇
      replace enumAt₇ : IsEnumOut heap₇ e it ((i : Int) + 1) x hp0.objs.size := enumAt₇
      refine wpAny_bind (wpAny_letGo (wpAny_pure ⟨_, rfl, hQ heap₇ enumAt₇ ?_ ?_ ?_ ?_⟩))
      · exact hSn _ _ left₄ fun o q => same₇.extBut it o (Ne.symm hne) (same₆.extBut it o (Ne.symm hne) (same₅.extBut it o (Ne.symm hne) q))
      · exact same₇.extBut _ _ (Nat.ne_of_gt lte) (same₆.extBut _ _ (Nat.ne_of_gt lte) (same₅.extBut _ _ (Nat.ne_of_gt lte) tup₄))
      · rw [same₇.1, same₆.1, same₅.1, size₄]
      · exact fun b o hbe hbi hb => same₇.extBut b o hbe (same₆.extBut b o hbe (same₅.extBut b o hbe (keep₄ b o hbe hbi hb)))
theorem enumT_item {e it l : Addr} {i : Nat} {items : Array Value} {x old : Value} {Q : Option Value → Shared → Prop}
    (he : IsEnum s.heap e it i old) (hit : s.heap.IsTupleIter it l i) (hl : s.heap.IsTuple l items) (hx : items[i]? = some x) (hne : e ≠ it)
    (hQ : ∀ h', IsEnumOut h' e it ((i : Int) + 1) x s.heap.objs.size → h'.IsTupleIter it l (i + 1) →
      h'.get? s.heap.objs.size = some { cls := .type "tuple", data := .seq #[.int i s.toks, x] } → h'.objs.size = s.heap.objs.size + 1 →
      (∀ b o, b ≠ e → b ≠ it → s.heap.get? b = some o → h'.get? b = some o) → Q (some (.ref s.heap.objs.size)) { s with heap := h', toks := s.toks + 1 }) :
    wpAny (model prog w) A (pyNext (.ref e)) Q E s := by
  have hT : s.TypeIs (.ref e) "enumerate" := ⟨_, he, rfl⟩
  unfold pyNext
  exact wpAny_bind (wpAny_attempt (wpAny_callSpecial?_slot (name := Str.ofString "__next__") hT F.slot_enumerate_next
    (wpAny_call_entry F.slot_enumerate_next hT F.entry_enumerate_next
      (enum_step (fun h => h.IsTupleIter it l (i + 1)) (fun h h' st k => st.at fun o q => k o q) he hne (fun hq => RZ.nextOf_tuple_item hit hl hx hq) fun h' a b c d k => wpAny_pure (hQ h' a b c d k)) (F.args_enumerate_next_1 _))))
theorem enumT_end {e it l : Addr} {i : Nat} {items : Array Value} {old : Value} {Q : Option Value → Shared → Prop} (hh : A.handled = none)
    (he : IsEnum s.heap e it i old) (hit : s.heap.IsTupleIter it l i) (hl : s.heap.IsTuple l items) (hx : items[i]? = none)
    (hQ : ∀ h', Heap.ExtBut it s.heap h' → Q none { s with heap := h' }) : wpAny (model prog w) A (pyNext (.ref e)) Q E s := by
  have hT : s.TypeIs (.ref e) "enumerate" := ⟨_, he, rfl⟩
  unfold pyNext
  refine wpAny_bind (wpAny_attempt (wpAny_callSpecial?_slot (name := Str.ofString "__next__") hT F.slot_enumerate_next
    (wpAny_call_entry F.slot_enumerate_next hT F.entry_enumerate_next ?_ (F.args_enumerate_next_1 _))))
  show wpAny _ _ (field (.ref e) 2 >>= _) _ _ _
  refine wpAny_bind (wpAny_field he rfl (x := .ref it) rfl ?_)
  refine wpAny_bind (RZ.nextOf_tuple_end hh hit hl hx fun h' x he' hx' => ?_)
  obtain ⟨o, ho, hc⟩ := hx'
  refine wpAny_bind (wpAny_isInstance (T := "StopIteration") (b := true) ⟨o, ho, hc⟩ isSubtype_stop ?_)
  exact wpAny_pure (hQ _ he')
end
/-- the tuple at a, each item in a new pair -/
def ItT (K : PySem.W.Frag) (a : Addr) : It :=
  ⟨fun i H => ∃ (xs : List V) (x : V), SqT K H a xs ∧ xs[i]? = some x, fun i H v H' => ∃ T x, v = .ref T ∧ H T = none ∧ H' = upd H T (.tup [.int (i : Nat), x]) ∧ ∀ xs, SqT K H a xs → xs[i]? = some x, fun i H => ∃ xs : List V, SqT K H a xs ∧ xs.length ≤ i⟩
theorem turn_enumT {P : Program} {w : World} {K : PySem.W.Frag} {elts : List Expr} {kk : Nat} {tpos : Pos} (a e it : Addr) :
    Turn P w K (.Tuple elts kk tpos) (ItT K a) [e, it] e (fun i h => (∃ old, IsEnum h e it ((i : Nat) : Int) old) ∧ h.IsTupleIter it a i ∧ e ≠ it) where
  mem := by simp
  obj := fun i h st b hb => by
    obtain ⟨⟨old, he⟩, ⟨o, ho, hc, hd⟩, _⟩ := st
    have e' : b = e ∨ b = it := by simpa using hb
    rcases e' with z | z
    · rw [z]; exact ⟨_, he, fun v q => nomatch q⟩
    · rw [z]; exact ⟨o, ho, fun v q => by rw [hd] at q; cases q⟩
  keep := fun i h h' st k => let ⟨⟨old, he⟩, hi, hne⟩ := st; ⟨⟨old, k e (by simp) _ he⟩, hi.at fun o q => k it (by simp) o q, hne⟩
  item := by
    intro X hP hw hK hc i pins s σ H E I hf st hg
    subst hP hw hK
    obtain ⟨⟨old, he⟩, hit, hne⟩ := st
    obtain ⟨xs, x, hq, hx⟩ := hg
    obtain ⟨its, rv, p, hz⟩ := I.tuple hq
    obtain ⟨u, hu, ru⟩ := rv.get hx
    have hel : e < s.heap.objs.size := Heap.lt_size he
    have hil : it < s.heap.objs.size := by obtain ⟨_, q, _⟩ := hit; exact Heap.lt_size q
    refine enumT_item he hit (show s.heap.IsTuple a its.toArray from p) (x := u) (by simpa using hu) hne fun h' ho hit' hT hsz hk => ?_
    refine ⟨_, rfl, wpAny_letOwnedTupleGo_enum (s := { s with heap := h', toks := s.toks + 1 }) ho fun h'' he' sb => ?_⟩
    have hT2 : h''.get? s.heap.objs.size = some { cls := .type "tuple", data := .seq #[.int i s.toks, u] } := (sb.2 _ (Nat.ne_of_gt hel)).trans hT
    have new : ObjOk X.prog X.w (upd H s.heap.objs.size (.tup [.int (i : Nat), x])) h'' s.heap.objs.size (.tup [.int (i : Nat), x]) :=
      ⟨by show 2 ≤ sizeLine; decide, [.int i s.toks, u], .cons ⟨_, rfl⟩ (.cons ru .nil), ⟨_, hT2, rfl, _, rfl⟩⟩
    have I1 : Inv X pins σ (upd H s.heap.objs.size (.tup [.int (i : Nat), x])) { s with heap := h'', toks := s.toks + 1 } :=
      I.turnedNew (ch := [e, it]) (fun b ob hb q => (sb.2 b (fun z => hb (by simp [z]))).trans (hk b ob (fun z => hb (by simp [z])) (fun z => hb (by simp [z])) q)) hf (Nat.le_refl _) new
    refine ⟨.ref s.heap.objs.size, _, I1, rfl, ⟨_, x, rfl, I.hok.fresh (Nat.le_refl _), rfl, fun ys hy => by rw [I.tuple_inj hy hq]; exact hx⟩, ⟨⟨u, ?_⟩, hit'.at fun o q => (sb.2 it (Ne.symm hne)).trans q, hne⟩, fun b hb => ?_⟩
    · have e1 : ((i + 1 : Nat) : Int) = (i : Int) + 1 := by omega
      rw [e1]; exact he'
    · have hb' : b < s.heap.objs.size := by
        have e' : b = e ∨ b = it := by simpa using hb
        rcases e' with z | z
        · rw [z]; exact hel
        · rw [z]; exact hil
      rw [upd_ne (Nat.ne_of_lt hb')]
      exact (hf b hb).1
  done := by
    intro X hP hw hK hc i pins s σ H E I hf st hg
    subst hP hw hK
    obtain ⟨⟨old, he⟩, hit, hne⟩ := st
    obtain ⟨xs, hq, hx⟩ := hg
    obtain ⟨its, rv, p, hz⟩ := I.tuple hq
    obtain ⟨f0, f1, f2, f3, f4, f5⟩ := hf it (by simp)
    have hl := rv.length
    exact enumT_end (I.ok.hd hc) he hit (show s.heap.IsTuple a its.toArray from p) (by simp; omega) fun h' eb => ⟨rfl, I.turned (t' := s.toks) (fun b o hb q => eb b o hb q) f0 f1 f3 f4 f5⟩
  self := fun A i s Q E st h => let ⟨⟨_, he⟩, _⟩ := st; wpAny_pyIter_enum he h
/-- enumerate over a list or a tuple -/
def iEnumX (K : PySem.W.Frag) (ta : TA) : TI := fun σ H R => ta σ H fun vs H1 => ∃ a xs, vs = [.ref a] ∧ ((SqL K H1 a xs ∧ R (Ite K a) H1) ∨ (SqT K H1 a xs ∧ R (ItT K a) H1))
theorem pi_enumX {X : Cx} {e : Expr} {ta : TA} {p pos tpos : Pos} {elts : List Expr} {kk : Nat} (hg : Gl X "enumerate") (hm : X.mg "enumerate" = none) (ha : PA X [e] ta) (hs : starEach [e] X.env = [(false, eval e X.env)] := by rfl) :
    PI X (.Tuple elts kk tpos) (.Call (.Name "enumerate" p) [e] [] pos) (iEnumX X.K ta) := by
  refine ⟨fun pins s σ H R I h => ?_⟩
  refine Call_ (ld_blt I hg hm boot_enumerate (PyProof.Rows.callWith_type1 (thn (ha.run pos pins s σ H _ I h) fun us s1 ⟨vs, H1, I1, r1, q1⟩ => ?_) hs rfl))
  obtain ⟨a, xs, ex, hq⟩ := q1
  subst ex
  cases r1 with
  | cons r rr =>
    cases rr
    cases r
    have fin : ∀ b, b ∈ [s1.heap.objs.size + 1, s1.heap.objs.size] → s1.heap.objs.size ≤ b := fun b hb => by
      have e' : b = s1.heap.objs.size + 1 ∨ b = s1.heap.objs.size := by simpa using hb
      rcases e' with z | z
      · rw [z]; exact Nat.le_add_right _ _
      · rw [z]; exact Nat.le_refl _
    rcases hq with ⟨hq, q⟩ | ⟨hq, q⟩
    · obtain ⟨its, rv, p', hz⟩ := I1.list hq
      refine call_enumerate_list p'.isList fun h' he hit hsz hk => wpAny_pyIter_enum he ?_
      have I2 : Inv X pins σ H1 { s1 with heap := h' } := I1.kept (t' := s1.toks) hk
      exact ⟨s1.heap.objs.size + 1, [s1.heap.objs.size + 1, s1.heap.objs.size], _, _, H1, rfl, I2, turn_enum a (s1.heap.objs.size + 1) s1.heap.objs.size, ⟨⟨.none, he⟩, hit, Nat.succ_ne_self _⟩, fun b hb => I1.fpOk (fin b hb) (I1.hok.fresh (fin b hb)), q⟩
    · obtain ⟨its, rv, p', hz⟩ := I1.tuple hq
      refine call_enumT (show s1.heap.IsTuple a its.toArray from p') fun h' he hit hsz hk => wpAny_pyIter_enum he ?_
      have I2 : Inv X pins σ H1 { s1 with heap := h' } := I1.kept (t' := s1.toks) hk
      exact ⟨s1.heap.objs.size + 1, [s1.heap.objs.size + 1, s1.heap.objs.size], _, _, H1, rfl, I2, turn_enumT a (s1.heap.objs.size + 1) s1.heap.objs.size, ⟨⟨.none, he⟩, hit, Nat.succ_ne_self _⟩, fun b hb => I1.fpOk (fin b hb) (I1.hok.fresh (fin b hb)), q⟩
end Sw
namespace Sw
open PySem PySem.Spec PyProof.Rows L2 LamX
theorem walk_enumT {K : PySem.W.Frag} {a : Addr} {xs : List V} : Walk (ItT K a) xs.length (fun H => SqT K H a xs) (YPair (fun i => some (.int (i : Nat))) (fun i => xs[i]?)) := by
  refine ⟨fun i _ hi q => ⟨xs, xs[i], q, by simp [hi]⟩, fun _ q => ⟨xs, q, Nat.le_refl _⟩, fun i H v H' _ q y => ?_⟩
  obtain ⟨T, x, h1, h2, h3, h4⟩ := y
  exact ⟨T, .int (i : Nat), x, h1, h2, h3, rfl, h4 xs q⟩
/-- a list or a tuple, walked -/
def iSeqX (K : PySem.W.Frag) (te : TE) : TI := fun σ H R => te σ H fun v H1 => ∃ a xs, v = .ref a ∧ ((SqL K H1 a xs ∧ R (Itl K a) H1) ∨ (SqT K H1 a xs ∧ R (Itt K a) H1))
theorem pi_seqX {X : Cx} {tg l : Expr} {tl : TE} (hl : PE X l tl) : PI X tg l (iSeqX X.K tl) := by
  refine ⟨fun pins s σ H R I h => ?_⟩
  refine thn (hl.run pins s σ H _ I h) fun v s1 ⟨x, H1, I1, r1, q1⟩ => ?_
  obtain ⟨a, xs, e, hq⟩ := q1
  subst e
  cases r1
  have fin : ∀ b ∈ [s1.heap.objs.size], FpOk X pins H1 b := fun b hb => by
    have e : b = s1.heap.objs.size := by simpa using hb
    subst e
    exact I1.fpOk (Nat.le_refl _) (I1.hok.fresh (Nat.le_refl _))
  rcases hq with ⟨hq, q⟩ | ⟨hq, q⟩
  · obtain ⟨its, rv, p, hz⟩ := I1.list hq
    refine wpAny_pyIter_list p.isList ?_
    exact ⟨s1.heap.objs.size, [s1.heap.objs.size], _, _, H1, rfl, I1.kept (t' := s1.toks) fun b o e => Heap.get?_push_of_some _ e, turn_list a _, ⟨_, Heap.get?_push_size _ rfl, rfl, rfl⟩, fin, q⟩
  · obtain ⟨its, rv, p, hz⟩ := I1.tuple hq
    refine wpAny_pyIter_tuple (show s1.heap.IsTuple a its.toArray from p) ?_
    exact ⟨s1.heap.objs.size, [s1.heap.objs.size], _, _, H1, rfl, I1.kept (t' := s1.toks) fun b o e => Heap.get?_push_of_some _ e, turn_tuple a _, ⟨_, Heap.get?_push_size _ rfl, rfl, rfl⟩, fin, q⟩
/-- a deed -/
def DeedV (H : Hp) (v : V) : Prop := v = .str "take" ∨ ∃ (g : Addr) (i : Nat), v = .ref g ∧ H g = some (.tup [.str "give", .int (i : Int)])
theorem DeedV.kp {T : List (Addr × Str)} {fp : List Addr} {H H' : Hp} {v : V} (d : DeedV H v) (k : Kp T fp H H') : DeedV H' v := d.imp id fun ⟨g, i, e, h⟩ => ⟨g, i, e, k.t _ _ h⟩
/-- a block: a list or a tuple of deeds -/
structure BlkAt (H : Hp) (bb : Addr) (xs : List V) : Prop where
  sq : H bb = some (.lst xs) ∨ H bb = some (.tup xs)
  deeds : ∀ x ∈ xs, DeedV H x
  len : xs.length ≤ 40
theorem BlkAt.kp {T : List (Addr × Str)} {fp : List Addr} {H H' : Hp} {bb : Addr} {xs : List V} (b : BlkAt H bb xs) (k : Kp T fp H H') (n : bb ∉ fp) : BlkAt H' bb xs :=
  ⟨b.sq.imp (fun h => k.get h n rfl) (fun h => k.t _ _ h), fun x hx => (b.deeds x hx).kp k, b.len⟩
section
variable {P : Program} {w : World} {K : PySem.W.Frag} {mg : Str → Option Value} {base : Heap}
theorem BlkAt.sq' {H : Hp} {bb : Addr} {xs : List V} (b : BlkAt H bb xs) : SqL K H bb xs ∨ SqT K H bb xs := b.sq.imp SqL.of SqT.of
/-! is_deed -/
def spDeed : Sp := fun vs H Q _ => ∃ v, vs = [v] ∧ DeedV H v ∧ Q (.bl true) H
theorem sc_deed : FnScope ["value"] ["value"] d_is_deed.scope := ⟨rfl, rfl, rfl, by decide +kernel, rfl, by decide +kernel, by decide +kernel⟩
theorem ok_deed (t : Tx K mg base) : Cl P w K mg base 2 "is_deed" spDeed := by
  obtain ⟨fd, F⟩ := t.e_is_deed
  refine mkCl (N := ["value"]) (ps := ["value"]) F t.g_is_deed (fun _ _ _ _ _ _ us hl => match us, hl with | [_], _ => rfl) sc_deed (fun vs H Q E h => ?_) (fun cdv A outer s H vs Q E hr h => ?_)
  · obtain ⟨_, rfl, _⟩ := h
    rfl
  · obtain ⟨v, rfl, d, q⟩ := h
    have ty : ∀ {e : Expr} {te : TE} {X : Cx}, True := trivial
    refine ⟨_, pss_cons (ps_if (pt_val (pe_callB call_isi rfl t.b_isinstance (by decide +kernel) (pa_cons (pv 0) (pa_cons (pe_bltn (v := .ty "str") rfl t.b_str (by decide +kernel) rfl) pa_nil)))) (pss_one (ps_ret (pe_cmpR op_eq (pv 0) pe_str rfl))) pss_nil)
      (pss_cons (ps_if (PW.pt (pw_or (pt_not (pt_val (pe_callB call_isi rfl t.b_isinstance (by decide +kernel) (pa_cons (pv 0) (pa_cons (pe_bltn (v := .ty "tuple") rfl t.b_tuple (by decide +kernel) rfl) pa_nil)))))
          (pw_or (pt_cmpR op_ne (pe_callB call_len_seq rfl t.b_len (by decide +kernel) (pa_cons (pv 0) pa_nil)) pe_int (nomark _))
          (pw_or (pt_not (pt_val (pe_callB call_isi rfl t.b_isinstance (by decide +kernel) (pa_cons (pe_ix ix_seq (pv 0) pe_int fun _ _ => rfl) (pa_cons (pe_bltn (v := .ty "str") rfl t.b_str (by decide +kernel) rfl) pa_nil)))))
          (pw_or1 (pt_cmpR op_ne (pe_ix ix_seq (pv 0) pe_int fun _ _ => rfl) pe_str (nomark _))))))) (pss_one ps_never) pss_nil)
      (pss_one (ps_ret (pe_and (pe_c (ok_isInt t) hr (Nat.le_refl _) rfl (pa_cons (pe_ix ix_seq (pv 0) pe_int fun _ _ => rfl) pa_nil)) (pe_one (pe_cmpR op_ge (pe_ix ix_seq (pv 0) pe_int fun _ _ => rfl) pe_int rfl)))))), ?_⟩
    rcases d with rfl | ⟨g, i, rfl, hg⟩
    · refine ⟨_, rfl, _, _, _, _, true, rfl, .ty _, .base (.str _), kit_ty (by decide +kernel), true, rfl, iteT ?_⟩
      refine ⟨_, rfl, rfl, ?_⟩
      exact q
    · refine ⟨_, rfl, _, _, _, _, false, rfl, .ty _, .base (.tup hg), kit_ty (by decide +kernel), false, rfl, iteF ?_⟩
      refine ⟨_, rfl, _, _, _, _, true, rfl, .ty _, .base (.tup hg), kit_ty (by decide +kernel), true, rfl, iteF ?_⟩
      refine ⟨_, rfl, g, _, rfl, .inr (SqT.of hg), rfl, false, rfl, iteF ?_⟩
      refine ⟨_, rfl, .inr (.inl ⟨g, _, (0 : Nat), .str "give", rfl, rfl, SqT.of hg, at_nat rfl, ?_⟩)⟩
      refine ⟨_, _, _, _, true, rfl, .ty _, .base (.str _), kit_ty (by decide +kernel), true, rfl, iteF ?_⟩
      refine ⟨_, rfl, .inr (.inl ⟨g, _, (0 : Nat), .str "give", rfl, rfl, SqT.of hg, at_nat rfl, ?_⟩)⟩
      refine ⟨rfl, false, rfl, iteF ?_⟩
      refine ⟨_, rfl, .inr (.inl ⟨g, _, (1 : Nat), .int (i : Int), rfl, rfl, SqT.of hg, at_nat rfl, ?_⟩)⟩
      refine ⟨_, rfl, true, rfl, iteT ?_⟩
      refine ⟨_, rfl, .inr (.inl ⟨g, _, (1 : Nat), .int (i : Int), rfl, rfl, SqT.of hg, at_nat rfl, ?_⟩)⟩
      refine ⟨_, _, rfl, rfl, ?_⟩
      show Q (V.bl (decide ((0 : Int) ≤ (i : Int)))) H
      rw [decide_eq_true (by omega)]
      exact q
end
end Sw
namespace Sw
open PySem PySem.Spec PyProof.Rows L2 LamX
theorem op_eqDK {X : Cx} {K : PySem.W.Frag} (hK : X.K = K) (hu : X.A.units + 64 < cLine) : OpR X (compareOp .Eq) (rEqD K) := by
  subst hK
  exact op_eqD hu
theorem op_neDK {X : Cx} {K : PySem.W.Frag} (hK : X.K = K) (hu : X.A.units + 64 < cLine) : OpR X (compareOp .NotEq) (rNeD K) := by
  subst hK
  exact op_neD hu
/-- the turns of an enumerate over a list or a tuple -/
theorem for_enumX {K : PySem.W.Frag} {a : Addr} {xs : List V} {g : TG} {tb : TS} {D : Ends} {σ : L2.St} {H : Hp} (h : H a = some (.lst xs) ∨ H a = some (.tup xs)) (Pv : Nat → L2.St → Hp → Prop) (h0 : Pv 0 σ H)
    (st : ∀ i σ' H', Pv i σ' H' → (H a = some (.lst xs) → H' a = some (.lst xs)) ∧ (H a = some (.tup xs) → H' a = some (.tup xs)))
    (hs : ∀ (i : Nat) x σ1 H1 p, xs[i]? = some x → Pv i σ1 H1 → H1 p = none → g (.ref p) σ1 (upd H1 p (.tup [.int (i : Nat), x])) fun σ2 H2 => tb { D with nx := Pv (i + 1), ct := Pv (i + 1), bk := D.nx } σ2 H2) (hd : ∀ σ H, Pv xs.length σ H → D.nx σ H) :
    (SqL K H a xs ∧ ∃ W : Nat → Nat → L2.St → Hp → Prop, (∃ m, W 0 m σ H) ∧ ∀ i m σ H, W i m σ H → ((Ite K a).stop i H ∧ D.nx σ H) ∨ ((Ite K a).go i H ∧ ∃ N : L2.St → Hp → Prop, (∀ σ' H', N σ' H' → ∃ m', m' < m ∧ W (i + 1) m' σ' H') ∧ ∀ x H', (Ite K a).yld i H x H' → g x σ H' fun σ2 H2 => tb { D with nx := N, ct := N, bk := D.nx } σ2 H2)) ∨
    (SqT K H a xs ∧ ∃ W : Nat → Nat → L2.St → Hp → Prop, (∃ m, W 0 m σ H) ∧ ∀ i m σ H, W i m σ H → ((ItT K a).stop i H ∧ D.nx σ H) ∨ ((ItT K a).go i H ∧ ∃ N : L2.St → Hp → Prop, (∀ σ' H', N σ' H' → ∃ m', m' < m ∧ W (i + 1) m' σ' H') ∧ ∀ x H', (ItT K a).yld i H x H' → g x σ H' fun σ2 H2 => tb { D with nx := N, ct := N, bk := D.nx } σ2 H2)) := by
  have hs' : ∀ i x σ H H', i < xs.length → Pv i σ H → YPair (fun i => some (.int (i : Nat))) (fun i => xs[i]?) i H x H' → g x σ H' fun σ2 H2 => tb { D with nx := Pv (i + 1), ct := Pv (i + 1), bk := D.nx } σ2 H2 := by
    intro i x σ1 H1 H2 hi p y
    obtain ⟨p', a', b', rfl, hp, rfl, e1, e2⟩ := y
    cases e1
    exact hs i b' σ1 H1 p' e2 p hp
  rcases h with h | h
  · exact .inl ⟨SqL.of h, for_it walk_enum Pv h0 (fun i σ1 H1 _ p => SqL.of ((st i σ1 H1 p).1 h)) hs' hd⟩
  · exact .inr ⟨SqT.of h, for_it walk_enumT Pv h0 (fun i σ1 H1 _ p => SqT.of ((st i σ1 H1 p).2 h)) hs' hd⟩
def isTk (v : V) : Bool := match v with
  | .str x => x == "take"
  | _ => false
def gvD (i : Int) : PyData := .tuple [.str "give", .int i]
theorem dp_gv {K : PySem.W.Frag} {H : Hp} {g : Addr} {i : Int} (h : H g = some (.tup [.str "give", .int i])) : Dp K H (.ref g) (gvD i) := .tup (SqT.of h) (.cons (.str _) (.cons (.int _) .nil))
theorem sh_take : SeqAt.shaped (.str "take") = true := by decide +kernel
theorem sh_gv {i : Int} : SeqAt.shaped (gvD i) = true := by
  unfold SeqAt.shaped gvD
  simp [PyData.canLay0, PyData.canLayAll0, PyData.depth, PyData.depthAll]
  decide +kernel
theorem eqv_gv {i : Int} : PyData.eqv (gvD i) (.str "take") = false := by unfold gvD; simp [PyData.eqv]
theorem eqv_tk : PyData.eqv (.str "take") (.str "take") = true := by decide +kernel
section
variable {P : Program} {w : World} {K : PySem.W.Frag} {mg : Str → Option Value} {base : Heap}
/-- what a deed is as data -/
theorem DeedV.dp {H : Hp} {v : V} (d : DeedV H v) : ∃ e, Dp K H v e ∧ SeqAt.shaped e = true ∧ PyData.eqv e (.str "take") = isTk v := by
  rcases d with rfl | ⟨g, i, rfl, h⟩
  · exact ⟨_, .str _, sh_take, eqv_tk⟩
  · exact ⟨_, dp_gv h, sh_gv, eqv_gv⟩
/-! look_block -/
def spLook (T : List (Addr × Str)) : Sp := fun vs H Q _ => ∃ (bb : Addr) (xs : List V), vs = [.ref bb] ∧ BlkAt H bb xs ∧ ∀ H', Kp T [] H H' → Q .non H'
theorem sc_look : FnScope ["block", "at", "deed"] ["block"] d_look_block.scope := ⟨rfl, rfl, rfl, by decide +kernel, rfl, by decide +kernel, by decide +kernel⟩
theorem ok_look (t : Tx K mg base) : Cl P w K mg base 3 "look_block" (spLook (TT K)) := by
  obtain ⟨fd, F⟩ := t.e_look_block
  refine mkCl (N := ["block", "at", "deed"]) (ps := ["block"]) F t.g_look_block (fun _ _ _ _ _ _ us hl => match us, hl with | [_], _ => rfl) sc_look (fun vs H Q E h => ?_) (fun cdv A outer s H vs Q E hr h => ?_)
  · obtain ⟨_, _, rfl, _⟩ := h
    rfl
  · obtain ⟨bb, xs, rfl, b, q⟩ := h
    have nd : (["block", "at", "deed"] : List Str).Nodup := by decide +kernel
    refine ⟨_, pss_cons (ps_if (PW.pt (pw_or (pt_not (pt_val (pe_callB call_isiT rfl t.b_isinstance (by decide +kernel) (pa_cons (pv 0) (pa_cons (pe_tup (pa_cons (pe_bltn (v := .ty "list") rfl t.b_list (by decide +kernel) rfl) (pa_cons (pe_bltn (v := .ty "tuple") rfl t.b_tuple (by decide +kernel) rfl) pa_nil))) pa_nil)))))
        (pw_or1 (pt_cmpR op_gt (pe_callB call_len_seq rfl t.b_len (by decide +kernel) (pa_cons (pv 0) pa_nil)) (C8.pe_gc rfl t.i_MAX_DEEDS) (nomark _))))) (pss_one ps_never) pss_nil)
      (pss_one (ps_for PassesOwn.never rfl (pi_enumX rfl t.b_enumerate (pa_cons (pv 0) pa_nil)) (pg_tup rfl (pgs_cons (pg_name (i := 1) nd rfl (Or.inl rfl)) (pgs_cons (pg_name (i := 2) nd rfl (Or.inl rfl)) pgs_nil)))
        (pss_one (ps_if (pt_not (pt_val (pe_c (ok_deed t) hr (Nat.le_refl _) rfl (pa_cons (pv 2) pa_nil)))) (pss_one ps_never) pss_nil)))), ?_⟩
    refine ⟨_, rfl, sz (show 2 ≤ 1000 by decide), fun p hp => ?_⟩
    have k1 : Kp (TT K) [] H (upd H p (.tup [.ty "list", .ty "tuple"])) := Kp.new hp fun _ z => by cases z
    have b1 := b.kp k1 (fun z => by cases z)
    have is1 : ∃ ty, TyX K (upd H p (.tup [.ty "list", .ty "tuple"])) (.ref bb) ty ∧ PySem.W.kitAny K ty [.type "list", .type "tuple"] = some true := by
      rcases b1.sq with e | e
      · exact ⟨_, .base (.lst e), kitAny_cons (kit_ty (b := "list") (r := true) (by decide +kernel)) (fun z => by cases z) (fun _ => rfl)⟩
      · exact ⟨_, .base (.tup e), kitAny_cons (kit_ty (b := "list") (r := false) (by decide +kernel)) (fun _ => kitAny_cons (kit_ty (b := "tuple") (r := true) (by decide +kernel)) (fun z => by cases z) (fun _ => rfl)) (fun z => by cases z)⟩
    obtain ⟨ty, i1, i2⟩ := is1
    refine ⟨_, p, _, ty, _, true, rfl, upd_same, .cons (.ty _) (.cons (.ty _) .nil), i1, i2, true, rfl, iteF ?_⟩
    refine ⟨_, rfl, bb, xs, rfl, b1.sq', ?_⟩
    refine ⟨_, _, rfl, rfl, _, rfl, ?_⟩
    have hl : decide ((40 : Int) < (xs.length : Int)) = false := decide_eq_false (by have := b.len; omega)
    rw [hl]
    refine iteF ?_
    refine ⟨_, rfl, bb, xs, rfl, ?_⟩
    refine for_enumX b1.sq (fun _ σ' H' => Kp (TT K) [] H H' ∧ Kp (TT K) [] (upd H p (.tup [.ty "list", .ty "tuple"])) H' ∧ ∃ u v, σ' = [some (.ref bb), u, v]) ⟨k1, Kp.refl, _, _, rfl⟩ (fun i σ' H' z => ⟨fun e => z.2.1.get e (fun z => by cases z) rfl, fun e => z.2.1.t _ _ e⟩) (fun i x σ1 H1 p hx z hp => ?_) fun σ1 H1 z => q _ z.1
    obtain ⟨z1, z2, u, v, rfl⟩ := z
    have kp : Kp (TT K) [] H1 (upd H1 p (.tup [.int (i : Nat), x])) := Kp.new hp fun _ z => by cases z
    refine ⟨p, _, rfl, SqT.of upd_same, rfl, _, _, rfl, _, _, rfl, rfl, ?_⟩
    have dv := (b.deeds x (List.mem_of_getElem? hx)).kp (z1.then kp)
    exact ⟨_, rfl, x, rfl, dv, true, rfl, iteF ⟨z1.then kp, z2.then kp, _, _, rfl⟩⟩
/-! takes_of -/
def tkN (xs : List V) : Nat := (xs.filter isTk).length
def spTkOf (T : List (Addr × Str)) : Sp := fun vs H Q _ => ∃ (bb : Addr) (xs : List V), vs = [.ref bb] ∧ BlkAt H bb xs ∧ ∀ H', Kp T [] H H' → Q (.int ((tkN xs : Nat) : Int)) H'
theorem sc_tkof : FnScope ["block", "deed"] ["block"] d_takes_of.scope := ⟨rfl, rfl, rfl, by decide +kernel, rfl, by decide +kernel, by decide +kernel⟩
theorem ok_tkof (t : Tx K mg base) : Cl P w K mg base 1 "takes_of" (spTkOf (TT K)) := by
  obtain ⟨fd, F⟩ := t.e_takes_of
  refine mkCl (N := ["block", "deed"]) (ps := ["block"]) F t.g_takes_of (fun _ _ _ _ _ _ us hl => match us, hl with | [_], _ => rfl) sc_tkof (fun vs H Q E h => ?_) (fun cdv A outer s H vs Q E hr h => ?_)
  · obtain ⟨_, _, rfl, _⟩ := h
    rfl
  · obtain ⟨bb, xs, rfl, b, q⟩ := h
    have nd : (["block", "deed"] : List Str).Nodup := by decide +kernel
    refine ⟨_, pss_one (ps_ret (pe_callB call_len_seq rfl t.b_len (by decide +kernel) (pa_cons
      (pe_lc (own := [("deed", 1)]) (g := gName 1) rfl nd (pi_seqX (pv 0)) (blkOk_by (own := [("deed", 1)]) (N := ["block", "deed"]) (sc := d_takes_of.scope) (by decide +kernel)) (fun _ _ _ _ _ => pg_name (i := 1) nd rfl (Or.inl rfl)) (fun _ _ _ _ _ => pts_one (pt_cmpR (op_eqDK (K := K) rfl hr.units) (pv 1) pe_str (nomark _)))
        (fun _ _ _ _ _ => pv 1)) pa_nil))), ?_⟩
    have R0 : ∀ {D : Addr} {H1 : Hp}, True := trivial
    have turn : ∀ (D : Addr) (i : Nat) (x : V) (acc : List V) (H' : Hp) (N : V → Hp → Prop) (M : Hp → Prop), xs[i]? = some x → Kp (TT K) [] H H' → H' D = some (.lst acc) → acc = (xs.take i).filter isTk → (∀ y H4, Kp (TT K) [] H' H4 → acc ++ [y] = (xs.take (i + 1)).filter isTk → N y H4) → (∀ H3, Kp (TT K) [] H' H3 → acc = (xs.take (i + 1)).filter isTk → M H3) →
        gName 1 x (wipe (L2.start ["block", "deed"] [.ref bb]) [1]) H' fun σ2 H2 => wipe σ2 [1] = wipe (L2.start ["block", "deed"] [.ref bb]) [1] ∧ tTest (tOp (rEqD K) (tVar 1) (tC (.str "take"))) σ2 H2 fun b H3 => if b = true then tVar 1 σ2 H3 N else M H3 := by
      intro D i x acc H' N M hx k hD r n m
      obtain ⟨e, e1, e2, e3⟩ := ((b.deeds x (List.mem_of_getElem? hx)).kp k).dp (K := K)
      refine ⟨rfl, _, rfl, e, _, e1, .str _, e2, sh_take, _, rfl, ?_⟩
      rw [e3]
      have ht : (xs.take (i + 1)).filter isTk = (xs.take i).filter isTk ++ [x].filter isTk := by rw [List.take_succ, hx, List.filter_append]; rfl
      cases hb : isTk x with
      | true => exact iteT ⟨_, rfl, n _ _ Kp.refl (by rw [ht, r, List.filter_cons, if_pos hb]; rfl)⟩
      | false => exact iteF (m _ Kp.refl (by rw [ht, r, List.filter_cons, if_neg (by simp [hb])]; simp))
    refine ⟨_, rfl, bb, xs, rfl, ?_⟩
    have fin : ∀ (D : Addr), ∀ H' acc, Kp (TT K) [] H H' → H' D = some (.lst acc) → acc.length ≤ xs.length → acc = (xs.take xs.length).filter isTk → ∃ p ys, [V.ref D] = [V.ref p] ∧ (SqL K H' p ys ∨ SqT K H' p ys) ∧ Q (.int ys.length) H' := by
      intro D H' acc k hD _ r
      refine ⟨D, acc, rfl, .inl (SqL.of hD), ?_⟩
      rw [r, List.take_length]
      exact q _ k
    have h100 : xs.length ≤ 100000 := by have := b.len; omega
    rcases b.sq with e | e
    · exact .inl ⟨SqL.of e, fun D hD => lcL (T := TT K) (fun i acc _ => acc = (xs.take i).filter isTk) (fun H' k => SqL.kp e k) h100 hD (fun _ _ _ _ r _ => r) rfl (fun i x acc H' N M hx k hd r n m => turn D i x acc H' N M hx k hd r n m) (fin D)⟩
    · exact .inr ⟨SqT.of e, fun D hD => lcT (T := TT K) (fun i acc _ => acc = (xs.take i).filter isTk) (fun H' k => SqT.kp e k) h100 hD (fun _ _ _ _ r _ => r) rfl (fun i x acc H' N M hx k hd r n m => turn D i x acc H' N M hx k hd r n m) (fin D)⟩
end
end Sw
namespace Sw
open PySem PySem.Spec PyProof.Rows L2 LamX
/-! deeds on the plain state -/
inductive De where | tk | gv (i : Nat)
def SM.deed (A : Ag) (S : SM) : De → Option SM
  | .tk => match S.free with
    | [] => none
    | _ :: _ => if S.live.length < A.lim then some (S.take .none) else none
  | .gv i => match S.live[i]? with
    | some p => some (S.give A.r p.1)
    | none => none
def SM.run (A : Ag) (S : SM) : List De → Option SM
  | [] => some S
  | d :: ds => match S.deed A d with
    | some S' => S'.run A ds
    | none => none
theorem run_app {A : Ag} : ∀ {ds es : List De} {S S' : SM}, S.run A ds = some S' → S.run A (ds ++ es) = S'.run A es
  | [], es, S, S', h => by cases h; rfl
  | d :: ds, es, S, S', h => by
    unfold SM.run at h
    rw [List.cons_append, SM.run]
    cases e : S.deed A d with
    | none => rw [e] at h; cases h
    | some S1 => rw [e] at h; exact run_app h
theorem run_split {A : Ag} : ∀ {ds es : List De} {S S' : SM}, S.run A (ds ++ es) = some S' → ∃ S1, S.run A ds = some S1 ∧ S1.run A es = some S'
  | [], es, S, S', h => ⟨S, rfl, h⟩
  | d :: ds, es, S, S', h => by
    rw [List.cons_append, SM.run] at h
    cases e : S.deed A d with
    | none => rw [e] at h; cases h
    | some S1 =>
      rw [e] at h
      obtain ⟨S2, h1, h2⟩ := run_split (ds := ds) h
      exact ⟨S2, by rw [SM.run, e]; exact h1, h2⟩
theorem Wf.deed {A : Ag} {S S' : SM} {d : De} (w : Wf A S) (h : S.deed A d = some S') : Wf A S' := by
  cases d with
  | tk =>
    unfold SM.deed at h
    cases e : S.free with
    | nil => rw [e] at h; cases h
    | cons s f =>
      rw [e] at h
      by_cases l : S.live.length < A.lim
      · simp [l] at h
        rw [← h]
        exact w.take e l
      · simp [l] at h
  | gv i =>
    cases e : S.live[i]? with
    | none => simp only [SM.deed, e] at h; cases h
    | some p =>
      simp only [SM.deed, e] at h
      cases h
      exact w.give (d := p.2) (List.mem_of_getElem? e)
def DeedIs (H : Hp) (v : V) (d : De) : Prop := (v = .str "take" ∧ d = .tk) ∨ ∃ (g : Addr) (i : Nat), v = .ref g ∧ d = .gv i ∧ H g = some (.tup [.str "give", .int (i : Int)])
theorem DeedIs.kp {T : List (Addr × Str)} {fp : List Addr} {H H' : Hp} {v : V} {e : De} (d : DeedIs H v e) (k : Kp T fp H H') : DeedIs H' v e := d.imp id fun ⟨g, i, e1, e2, h⟩ => ⟨g, i, e1, e2, k.t _ _ h⟩
theorem DeedIs.dv {H : Hp} {v : V} {e : De} (d : DeedIs H v e) : DeedV H v := d.imp (fun z => z.1) fun ⟨g, i, e1, e2, h⟩ => ⟨g, i, e1, h⟩
/-- a block with its deeds -/
structure BlkD (H : Hp) (bb : Addr) (xs : List V) (ds : List De) : Prop where
  sq : H bb = some (.lst xs) ∨ H bb = some (.tup xs)
  deeds : Paired (DeedIs H) xs ds
  len : xs.length ≤ 40
theorem BlkD.kp {T : List (Addr × Str)} {fp : List Addr} {H H' : Hp} {bb : Addr} {xs : List V} {ds : List De} (b : BlkD H bb xs ds) (k : Kp T fp H H') (n : bb ∉ fp) : BlkD H' bb xs ds :=
  ⟨b.sq.imp (fun h => k.get h n rfl) (fun h => k.t _ _ h), Paired.imp b.deeds fun _ _ z => z.kp k, b.len⟩
theorem BlkD.at (b : BlkD H bb xs ds) : BlkAt H bb xs := ⟨b.sq, fun x hx => by
  obtain ⟨i, e⟩ := List.getElem?_of_mem hx
  obtain ⟨d, _, z⟩ := pr_at1 b.deeds e
  exact z.dv, b.len⟩
section
variable {P : Program} {w : World} {K : PySem.W.Frag} {mg : Str → Option Value} {base : Heap}
/-! execute -/
def spExec (T : List (Addr × Str)) (C : Addr) : Sp := fun vs H Q _ => ∃ (vp : List Addr) (A : Ag) (S S' : SM) (a : SA) (bb : Addr) (xs : List V) (ds : List De) (tn : V), vs = [.ref a.p, .ref bb, tn] ∧ SlotsAt C H vp A S a ∧ Wf A S ∧ Tabs T H ∧ BlkD H bb xs ds ∧ bb ∉ a.fp ∧ S.run A ds = some S' ∧
  ∀ a' H', a'.p = a.p → Kp T a.fp H H' → Fr H a.fp a'.fp → SlotsAt C H' vp A S' a' → Wf A S' → Q .non H'
theorem sc_exec : FnScope ["slots", "block", "turn", "at", "deed", "live"] ["slots", "block", "turn"] d_execute.scope := ⟨rfl, rfl, rfl, by decide +kernel, rfl, by decide +kernel, by decide +kernel⟩
theorem ok_exec (t : Tx K mg base) : Cl P w K mg base 5 "execute" (spExec (TT K) (SC K)) := by
  obtain ⟨fd, F⟩ := t.e_execute
  refine mkCl (N := ["slots", "block", "turn", "at", "deed", "live"]) (ps := ["slots", "block", "turn"]) F t.g_execute (fun _ _ _ _ _ _ us hl => match us, hl with | [_, _, _], _ => rfl) sc_exec (fun vs H Q E h => ?_) (fun cdv A outer s H vs Q E hr h => ?_)
  · obtain ⟨_, _, _, _, _, _, _, _, _, rfl, _⟩ := h
    rfl
  · obtain ⟨vp, G, S, S', a, bb, xs, ds, tn, rfl, sa, wf, tb, b, nb, hrun, q⟩ := h
    have nd : (["slots", "block", "turn", "at", "deed", "live"] : List Str).Nodup := by decide +kernel
    refine ⟨_, pss_one (ps_for PassesOwn.never rfl (pi_enumX rfl t.b_enumerate (pa_cons (pv 1) pa_nil)) (pg_tup rfl (pgs_cons (pg_name (i := 3) nd rfl (Or.inl rfl)) (pgs_cons (pg_name (i := 4) nd rfl (Or.inl rfl)) pgs_nil)))
      (pss_cons (ps_set (i := 5) nd rfl (Or.inl rfl) (pe_mt0 (ok_live t) hr (by decide) (pv 0)) rfl)
      (pss_one (ps_if (pt_cmpR (op_eqD hr.units) (pv 4) pe_str (nomark _))
        (pss_cons (ps_if (pt_cmpR op_eq (pe_callB call_len_seq rfl t.b_len (by decide +kernel) (pa_cons (pv 5) pa_nil)) (pe_fld (pv 0) rfl) (nomark _)) (pss_one ps_never) pss_nil)
          (pss_one (ps_expr (pe_mt (ok_take t) hr (by decide) (pv 0) (pa_cons pe_non pa_nil)))))
        (pss_one (ps_if (pt_cmpR op_ge (pe_ix ix_seq (pv 4) pe_int fun _ _ => rfl) (pe_callB call_len_seq rfl t.b_len (by decide +kernel) (pa_cons (pv 5) pa_nil)) (nomark _)) (pss_one ps_never)
          (pss_one (ps_expr (pe_mt (ok_give t) hr (by decide) (pv 0) (pa_cons (pe_ix ix_seq (pv 5) (pe_ix ix_seq (pv 4) pe_int fun _ _ => rfl) fun _ _ => rfl) pa_nil)))))))))), ?_⟩
    refine ⟨_, rfl, bb, xs, rfl, ?_⟩
    refine for_enumX b.sq (fun i σ' H' => ∃ Si ai u v x, S.run G (ds.take i) = some Si ∧ Wf G Si ∧ SlotsAt (SC K) H' vp G Si ai ∧ ai.p = a.p ∧ Kp (TT K) a.fp H H' ∧ Fr H a.fp ai.fp ∧ σ' = [some (.ref ai.p), some (.ref bb), some tn, u, v, x]) ⟨S, a, _, _, _, rfl, wf, sa, rfl, Kp.refl, Fr.refl, rfl⟩ (fun i σ' H' z => ?_) (fun i x σ1 H1 p hx z hp => ?_) fun σ1 H1 z => ?_
    · obtain ⟨Si, ai, u, v, x, _, _, _, _, k, _⟩ := z
      exact ⟨fun e => k.get e nb rfl, fun e => k.t _ _ e⟩
    · obtain ⟨Si, ai, u, v, y, z1, z2, z3, z4, z5, z6, rfl⟩ := z
      have kp : Kp (TT K) [] H1 (upd H1 p (.tup [.int (i : Nat), x])) := Kp.new hp fun _ z => by cases z
      obtain ⟨de, d1, d2⟩ := pr_at1 b.deeds hx
      have dv := (d2.kp z5).kp kp
      refine ⟨p, _, rfl, SqT.of upd_same, rfl, _, _, rfl, _, _, rfl, rfl, ?_⟩
      have s2 := z3.keep kp (fun _ z => by cases z) (fun _ z => by cases z)
      refine ⟨_, rfl, s2.md rfl ⟨vp, G, Si, ai, rfl, s2, z2, fun pl hs H2 k2 npl hpl hds => ?_⟩⟩
      have s3 := s2.keep k2 (fun _ z => by cases z) (fun _ z => by cases z)
      have dv2 := dv.kp k2
      obtain ⟨e, e1, e2, e3⟩ := dv2.dv.dp (K := K)
      have hstep : ∃ S2, Si.deed G de = some S2 := by
        have h1 : ds = ds.take i ++ ds.drop i := (List.take_append_drop i ds).symm
        rw [h1] at hrun
        obtain ⟨T1, t1, t2⟩ := run_split hrun
        rw [z1] at t1
        cases t1
        have h2 : ds.drop i = de :: ds.drop (i + 1) := by
          have hi := (List.getElem?_eq_some_iff.mp d1)
          obtain ⟨hlt, hh⟩ := hi
          rw [List.drop_eq_getElem_cons hlt, hh]
        rw [h2, SM.run] at t2
        cases e : Si.deed G de with
        | none => rw [e] at t2; cases t2
        | some S2 => exact ⟨S2, rfl⟩
      obtain ⟨S2, hst⟩ := hstep
      have hrun2 : S.run G (ds.take (i + 1)) = some S2 := by
        rw [List.take_succ, d1]
        rw [run_app z1]
        show SM.run G Si [de] = some S2
        rw [SM.run, hst]
        rfl
      have k03 : Kp (TT K) a.fp H H2 := z5.then (kp.sub.then k2.sub)
      refine ⟨_, rfl, e, _, e1, .str _, e2, sh_take, _, rfl, ?_⟩
      rw [e3]
      have hlen : hs.length = Si.live.length := by rw [hds.len, List.length_map]
      have lw := z2.lim
      rcases dv2 with ⟨rfl, rfl⟩ | ⟨g, ig, rfl, rfl, hg⟩
      · -- take
        rw [show isTk (.str "take") = true by decide +kernel]
        refine iteT ?_
        unfold SM.deed at hst
        cases hf : Si.free with
        | nil => rw [hf] at hst; cases hst
        | cons sl f =>
          rw [hf] at hst
          by_cases l : Si.live.length < G.lim
          · simp [l] at hst
            refine ⟨_, rfl, pl, _, rfl, .inl (SqL.of hpl), ?_⟩
            refine ⟨_, rfl, s3.fd t.cl t.a_limit f_lim ⟨rfl, _, rfl, ite2 (fun h => ?_) fun _ => ?_⟩⟩
            · exfalso
              have h' := of_decide_eq_true h
              injection h' with h'
              rw [List.length_map] at h'
              omega
            · refine ⟨_, rfl, s3.md rfl ⟨vp, G, Si, ai, .non, .none, sl, f, rfl, s3, z2, k03.tab tb, hf, l, .non, fun h H3 k3 _ s4 => ?_⟩⟩
              rw [hst] at s4
              exact ⟨S2, ai, _, _, _, hrun2, by rw [← hst]; exact z2.take hf l, s4, z4, k03.trans k3 z6, z6, rfl⟩
          · simp [l] at hst
      · -- give
        refine iteF ?_
        cases hl : Si.live[ig]? with
        | none => simp only [SM.deed, hl] at hst; cases hst
        | some pr =>
          simp only [SM.deed, hl] at hst
          cases hst
          have hm : (pr.1, pr.2) ∈ Si.live := List.mem_of_getElem? hl
          have hig : ig < Si.live.length := (List.getElem?_eq_some_iff.mp hl).1
          obtain ⟨h, h1, h2⟩ := pr_at hds (show (Si.live.map (·.1))[ig]? = some pr.1 by rw [List.getElem?_map, hl]; rfl)
          refine ⟨_, rfl, .inr (.inl ⟨g, _, (1 : Nat), .int (ig : Int), rfl, rfl, SqT.of hg, at_nat rfl, ?_⟩)⟩
          refine ⟨_, rfl, pl, _, rfl, .inl (SqL.of hpl), ?_⟩
          refine ⟨_, _, rfl, rfl, _, rfl, ?_⟩
          rw [List.length_map, hlen, decide_eq_false (by omega)]
          refine iteF ?_
          refine ⟨_, rfl, s3.md rfl ⟨_, rfl, _, rfl, .inr (.inl ⟨g, _, (1 : Nat), .int (ig : Int), rfl, rfl, SqT.of hg, at_nat rfl, ?_⟩)⟩⟩
          refine .inl ⟨pl, _, ig, .ref h, rfl, rfl, SqL.of hpl, at_nat (by rw [List.getElem?_map, h1]; rfl), ?_⟩
          refine ⟨vp, G, Si, ai, h, pr.1, pr.2, rfl, s3, z2, hm, h2, fun v a' H3 e' k3 f3 _ s4 => ?_⟩
          exact ⟨_, a', _, _, _, hrun2, z2.give hm, s4, e'.trans z4, k03.trans k3 z6, Fr.trans k03 z6 f3, by rw [e']; rfl⟩
    · obtain ⟨Si, ai, u, v, x, z1, z2, z3, z4, z5, z6, rfl⟩ := z
      have : ds.take xs.length = ds := List.take_of_length_le (by rw [pr_len b.deeds]; exact Nat.le_refl _)
      rw [this, hrun] at z1
      cases z1
      exact q ai _ z4 z5 z6 z3 z2
end
end Sw
namespace Sw
open PySem PySem.Spec PyProof.Rows L2 LamX
theorem pg_tupK {X : Cx} {K : PySem.W.Frag} {es : List Expr} {k : Nat} {t : TGs} {n : Nat} {pos : Pos} (hK : X.K = K) (hc : X.calm = true) (h : PGs X es t)
    (hn : (assignEach es X.env).length = n := by rfl) (hst : (assignEach es X.env).findIdx? (·.1) = none := by rfl) : PG X (.Tuple es k pos) (gTup K n t) := by
  subst hK
  exact pg_tup hc h hn hst
theorem cut_to {xs : List V} {k : Nat} (h : k ≤ xs.length) : cutV xs none (some (k : Int)) = xs.take k := by
  unfold cutV
  rw [HT.sIx_none, HT.sIx_nat, List.drop_zero, Nat.min_eq_left h, Nat.sub_zero]
theorem cut_from {xs : List V} {k : Nat} (h : k ≤ xs.length) : cutV xs (some (k : Int)) none = xs.drop k := by
  unfold cutV
  rw [HT.sIx_none, HT.sIx_nat, Nat.min_eq_left h, List.take_of_length_le (by rw [List.length_drop]; exact Nat.le_refl _)]
section
variable {P : Program} {w : World} {K : PySem.W.Frag} {mg : Str → Option Value} {base : Heap}
/-! arranged -/
def spArr (T : List (Addr × Str)) (C : Addr) : Sp := fun vs H Q _ => ∃ (vp : List Addr) (A : Ag) (S : SM) (a : SA), vs = [.ref a.p] ∧ SlotsAt C H vp A S a ∧ Wf A S ∧ Tabs T H ∧ ∀ p H', Kp T [] H H' → ¬ Al H p → H' p = some (.lst (fr (S.free ++ S.live.map (·.1)))) → Q (.ref p) H'
theorem sc_arr : FnScope ["slots", "slot", "generation"] ["slots"] d_arranged.scope := ⟨rfl, rfl, rfl, by decide +kernel, rfl, by decide +kernel, by decide +kernel⟩
theorem ok_arr (t : Tx K mg base) : Cl P w K mg base 4 "arranged" (spArr (TT K) (SC K)) := by
  obtain ⟨fd, F⟩ := t.e_arranged
  refine mkCl (N := ["slots", "slot", "generation"]) (ps := ["slots"]) F t.g_arranged (fun _ _ _ _ _ _ us hl => match us, hl with | [_], _ => rfl) sc_arr (fun vs H Q E h => ?_) (fun cdv A outer s H vs Q E hr h => ?_)
  · obtain ⟨_, _, _, _, rfl, _⟩ := h
    rfl
  · obtain ⟨vp, G, S, a, rfl, sa, wf, tb, q⟩ := h
    have nd : (["slots", "slot", "generation"] : List Str).Nodup := by decide +kernel
    refine ⟨_, pss_one (ps_ret (pe_op op_cat (pe_mt0 (ok_free t) hr (by decide) (pv 0))
      (pe_lc (own := [("slot", 1), ("generation", 2)]) (g := gTup K 2 (gCons (gName 1) (gCons (gName 2) gNil))) (tt := tYes) rfl nd (pi_list (pe_mt0 (ok_live t) hr (by decide) (pv 0))) (blkOk_by (own := [("slot", 1), ("generation", 2)]) (N := ["slots", "slot", "generation"]) (sc := d_arranged.scope) (by decide +kernel))
        (fun _ _ _ _ _ => pg_tupK (K := K) rfl rfl (pgs_cons (pg_name (i := 1) nd rfl (Or.inl rfl)) (pgs_cons (pg_name (i := 2) nd rfl (Or.inl rfl)) pgs_nil))) (fun _ _ _ _ _ => pts_nil) (fun _ _ _ _ _ => pv 1)))), ?_⟩
    have bnd : S.free.length + S.live.length ≤ 6 := by rw [wf.count]; exact wf.ok.n6
    refine ⟨_, rfl, sa.md rfl ⟨vp, G, S, a, rfl, sa, wf, tb, fun p1 H1 k1 n1 e1 => ?_⟩⟩
    have sa1 := sa.keep k1 (fun _ z => by cases z) (fun _ z => by cases z)
    refine ⟨_, rfl, sa1.md rfl ⟨vp, G, S, a, rfl, sa1, wf, fun p2 hs H2 k2 n2 e2 hds => ?_⟩⟩
    refine ⟨p2, rfl, ⟨_, SqL.of e2⟩, fun D hD => ?_⟩
    have hlen : hs.length = S.live.length := by rw [hds.len, List.length_map]
    refine lcL (T := TT K) (fun i acc H' => acc = fr ((S.live.map (·.1)).take i)) (fun H' k => SqL.kp e2 k) (by rw [List.length_map]; omega) hD (fun _ _ _ _ r _ => r) rfl (fun i x acc H' N M hx k hd r n m => ?_) fun H' acc k hd hl r => ?_
    · rw [List.getElem?_map] at hx
      cases hi : hs[i]? with
      | none => rw [hi] at hx; cases hx
      | some h =>
        rw [hi] at hx
        cases hx
        obtain ⟨sl, s1, s2⟩ := pr_at1 hds hi
        refine ⟨h, _, rfl, SqT.kp s2 k, rfl, _, _, rfl, _, _, rfl, rfl, rfl, it1 (B := M H') ?_⟩
        refine ⟨_, rfl, n _ _ Kp.refl ?_⟩
        rw [r, List.take_succ, s1, fr_app]
        rfl
    · have e1' := (k2.then k).get e1 (fun z => by cases z) rfl
      rw [List.length_map, hlen] at r
      refine ⟨p1, D, _, _, rfl, rfl, e1', hd, ?_, fun p hp => ?_⟩
      · rw [fr_len]
        rw [List.length_map] at hl
        exact sz (by omega)
      · refine q p _ ((k1.then (k2.then k)).then (Kp.new hp fun _ z => by cases z)) ((k1.then (k2.then k)).back (nAl hp)) ?_
        rw [upd_same, r, fr_app, List.take_of_length_le (by rw [List.length_map]; exact Nat.le_refl _)]
/-! cycle_from -/
structure IsCyc (mv : List Nat) (b : Nat) (cyc : List Nat) : Prop where
  c0 : cyc[0]? = some b
  nx : ∀ k c, cyc[k]? = some c → mv[c]? = some (cyc.getD (k + 1) b)
  ne : ∀ k c, 0 < k → cyc[k]? = some c → c ≠ b
def spCyc (T : List (Addr × Str)) : Sp := fun vs H Q _ => ∃ (lm : Addr) (mv : List Nat) (b : Nat) (cyc : List Nat), vs = [.ref lm, .int b] ∧ H lm = some (.lst (fr mv)) ∧ IsCyc mv b cyc ∧ cyc.length ≤ 100 ∧ ∀ p H', Kp T [] H H' → ¬ Al H p → H' p = some (.lst (fr cyc)) → Q (.ref p) H'
theorem sc_cyc : FnScope ["moves", "begin", "cycle"] ["moves", "begin"] d_cycle_from.scope := ⟨rfl, rfl, rfl, by decide +kernel, rfl, by decide +kernel, by decide +kernel⟩
theorem fr_snoc {l : List Nat} {x : Nat} : fr (l ++ [x]) = fr l ++ [V.int (x : Int)] := fr_app
theorem ok_cyc (t : Tx K mg base) : Cl P w K mg base 1 "cycle_from" (spCyc (TT K)) := by
  obtain ⟨fd, F⟩ := t.e_cycle_from
  refine mkCl (N := ["moves", "begin", "cycle"]) (ps := ["moves", "begin"]) F t.g_cycle_from (fun _ _ _ _ _ _ us hl => match us, hl with | [_, _], _ => rfl) sc_cyc (fun vs H Q E h => ?_) (fun cdv A outer s H vs Q E hr h => ?_)
  · obtain ⟨_, _, _, _, rfl, _⟩ := h
    rfl
  · obtain ⟨lm, mv, b, cyc, rfl, hm, ic, hz, q⟩ := h
    have nd : (["moves", "begin", "cycle"] : List Str).Nodup := by decide +kernel
    refine ⟨_, pss_cons (ps_set (i := 2) nd rfl (Or.inl rfl) (pe_lst (pa_cons (pv 1) pa_nil)) rfl)
      (pss_cons (ps_while PassesOwn.never (pt_cmpR op_ne (pe_ix ix_seq (pv 0) (pe_ix ix_seq (pv 2) (pe_un un_neg pe_int) fun _ _ => rfl) fun _ _ => rfl) (pv 1) (nomark _))
        (pss_one (ps_expr (pe_bm PySem.F.plainAttrs_list PySem.F.slot_list_append PySem.F.type_list_append mt_append (pv 2) (pa_cons (pe_ix ix_seq (pv 0) (pe_ix ix_seq (pv 2) (pe_un un_neg pe_int) fun _ _ => rfl) fun _ _ => rfl) pa_nil)))))
      (pss_one (ps_ret (pv 2)))), ?_⟩
    refine ⟨_, rfl, sz (show 1 ≤ 1000 by decide), fun D hD => ?_⟩
    have h0 : 0 < cyc.length := (List.getElem?_eq_some_iff.mp ic.c0).1
    refine ⟨fun m σ' H' => ∃ j, 0 < j ∧ j ≤ cyc.length ∧ m = cyc.length - j ∧ σ' = [some (.ref lm), some (.int b), some (.ref D)] ∧ Kp (TT K) [] H H' ∧ H' D = some (.lst (fr (cyc.take j))), ⟨cyc.length - 1, 1, Nat.one_pos, h0, rfl, rfl, Kp.new hD (fun _ z => by cases z), ?_⟩, fun m σ1 H1 z => ?_⟩
    · rw [upd_same, show cyc.take 1 = [b] by rw [List.take_succ, ic.c0]; rfl]
      rfl
    · obtain ⟨j, j0, j1, rfl, rfl, k, hd⟩ := z
      obtain ⟨i, rfl⟩ : ∃ i, j = i + 1 := ⟨j - 1, by omega⟩
      obtain ⟨c, hc⟩ : ∃ c, cyc[i]? = some c := ⟨cyc[i], by simp⟩
      have hd' : H1 D = some (.lst (fr (cyc.take i) ++ [V.int (c : Int)])) := by
        rw [hd, List.take_succ, hc]
        show some (HO.lst (fr (cyc.take i ++ [c]))) = _
        rw [fr_snoc]
      have hm1 := k.get hm (fun z => by cases z) rfl
      have nx := ic.nx i c hc
      have rd : atI (fr mv) (c : Int) = some (.int ((cyc.getD (i + 1) b : Nat) : Int)) := at_nat (by unfold fr; rw [List.getElem?_map, nx]; rfl)
      refine ⟨_, rfl, _, rfl, _, rfl, .inl ⟨D, _, _, _, rfl, rfl, SqL.of hd', atI_last _ _, ?_⟩⟩
      refine .inl ⟨lm, _, _, _, rfl, rfl, SqL.of hm1, rd, ?_⟩
      refine ⟨_, rfl, rfl, _, rfl, ?_⟩
      by_cases hj : i + 1 < cyc.length
      · obtain ⟨c2, hc2⟩ : ∃ c2, cyc[i + 1]? = some c2 := ⟨cyc[i + 1], by simp⟩
        have e2 : cyc.getD (i + 1) b = c2 := by rw [List.getD_eq_getElem?_getD, hc2]; rfl
        rw [e2] at rd ⊢
        have hne := ic.ne (i + 1) c2 (by omega) hc2
        have hb : (!decide (V.int (c2 : Int) = V.int (b : Int))) = true := by
          rw [decide_eq_false]
          · rfl
          · intro z
            injection z with z
            exact hne (Int.ofNat.inj z)
        rw [hb]
        refine iteT ⟨fun σ' H' => ∃ j, i + 1 < j ∧ j ≤ cyc.length ∧ σ' = [some (.ref lm), some (.int b), some (.ref D)] ∧ Kp (TT K) [] H H' ∧ H' D = some (.lst (fr (cyc.take j))), fun σ' H' z => ?_, ?_⟩
        · obtain ⟨j, a1, a2, a3, a4, a5⟩ := z
          exact ⟨cyc.length - j, by omega, j, by omega, a2, rfl, a3, a4, a5⟩
        · refine ⟨_, rfl, .inl ⟨rfl, _, SqL.of hd'⟩, _, rfl, _, rfl, _, rfl, .inl ⟨D, _, _, _, rfl, rfl, SqL.of hd', atI_last _ _, ?_⟩⟩
          refine .inl ⟨lm, _, _, _, rfl, rfl, SqL.of hm1, rd, ?_⟩
          refine ⟨D, _, _, rfl, rfl, hd', ?_, ?_⟩
          · rw [List.length_append, fr_len, List.length_take]
            have : (1000 : Nat) < sizeLine := by decide
            show min i cyc.length + 1 < _
            omega
          · refine ⟨i + 2, by omega, by omega, rfl, k.dst (nAl hD) hd' rfl rfl, ?_⟩
            rw [upd_same, List.take_succ, hc2, List.take_succ, hc]
            show _ = some (HO.lst (fr (cyc.take i ++ [c] ++ [c2])))
            rw [fr_snoc, fr_snoc]
      · have hj' : i + 1 = cyc.length := by omega
        have e2 : cyc.getD (i + 1) b = b := by rw [List.getD_eq_getElem?_getD, List.getElem?_eq_none (by omega)]; rfl
        rw [e2]
        have hb : (!decide (V.int (b : Int) = V.int (b : Int))) = false := by rw [decide_eq_true rfl]; rfl
        rw [hb]
        refine iteF ⟨_, rfl, q D H1 k (nAl hD) ?_⟩
        rw [hd, hj', List.take_length]
end
end Sw
namespace Sw
open PySem PySem.Spec PyProof.Rows L2 LamX
/-- the sum of the amounts over the first t places of a cycle that is passed again and again -/
def evP (am : List Int) (cyc : List Nat) : List Int := cyc.map fun c => am.getD c 0
def passP (am : List Int) (cyc : List Nat) (t : Nat) : Int := ((t / cyc.length : Nat) : Int) * (evP am cyc).sum + ((evP am cyc).take (t % cyc.length)).sum
theorem small_log2 {n : Nat} (h : n < 1000000) : ((n : Int)).natAbs.log2 < 9000 := by
  rw [Int.natAbs_natCast]
  by_cases z : n = 0
  · subst z; decide
  · have := (Nat.log2_lt z (k := 20)).mpr (by omega)
    omega
section
variable {P : Program} {w : World} {K : PySem.W.Frag} {mg : Str → Option Value} {base : Heap}
def spPass (T : List (Addr × Str)) : Sp := fun vs H Q _ => ∃ (la lc : Addr) (am : List Int) (cyc : List Nat) (t : Nat), vs = [.ref la, .ref lc, .int t] ∧ H la = some (.lst (am.map V.int)) ∧ H lc = some (.lst (fr cyc)) ∧ 0 < cyc.length ∧ cyc.length ≤ 100 ∧ (∀ c ∈ cyc, c < am.length) ∧ 0 ≤ (evP am cyc).sum ∧ (evP am cyc).sum ≤ 1000 ∧
  ∀ H', Kp T [] H H' → Q (.int (passP am cyc t)) H'
theorem sc_pass : FnScope ["amounts", "cycle", "times", "rounds", "rest", "every", "place"] ["amounts", "cycle", "times"] d_passed.scope := ⟨rfl, rfl, rfl, by decide +kernel, rfl, by decide +kernel, by decide +kernel⟩
theorem ok_pass (t : Tx K mg base) : Cl P w K mg base 1 "passed" (spPass (TT K)) := by
  obtain ⟨fd, F⟩ := t.e_passed
  refine mkCl (N := ["amounts", "cycle", "times", "rounds", "rest", "every", "place"]) (ps := ["amounts", "cycle", "times"]) F t.g_passed (fun _ _ _ _ _ _ us hl => match us, hl with | [_, _, _], _ => rfl) sc_pass (fun vs H Q E h => ?_) (fun cdv A outer s H vs Q E hr h => ?_)
  · obtain ⟨_, _, _, _, _, rfl, _⟩ := h
    rfl
  · obtain ⟨la, lc, am, cyc, tm, rfl, ha, hc, h0, h1, hb, s0, s1, q⟩ := h
    have nd : (["amounts", "cycle", "times", "rounds", "rest", "every", "place"] : List Str).Nodup := by decide +kernel
    refine ⟨_, pss_cons (ps_asg (pe_callB call_divmodW rfl t.b_divmod (by decide +kernel) (pa_cons (pv 2) (pa_cons (pe_callB call_len_seq rfl t.b_len (by decide +kernel) (pa_cons (pv 1) pa_nil)) pa_nil))) (pg_tup rfl (pgs_cons (pg_name (i := 3) nd rfl (Or.inl rfl)) (pgs_cons (pg_name (i := 4) nd rfl (Or.inl rfl)) pgs_nil))))
      (pss_cons (ps_setLc (i := 5) (own := [("place", 6)]) (g := gName 6) (tt := tYes) (by rfl) nd rfl rfl (sw_true rfl rfl rfl (by decide +kernel)) (pi_list (pv 1)) (blkOk_by (own := [("place", 6)]) (N := ["amounts", "cycle", "times", "rounds", "rest", "every", "place"]) (sc := d_passed.scope) (by decide +kernel)) (fun _ _ _ _ _ => pg_name (i := 6) nd rfl (Or.inl rfl)) (fun _ _ _ _ _ => pts_nil)
        (fun _ _ _ _ _ => pe_ix (ix_seqK (K := K) rfl) (pv 0) (pv 6) fun _ _ => rfl))
      (pss_one (ps_ret (pe_op op_add (pe_op op_mul (pv 3) (pe_callB (cr_sum rfl) rfl t.b_sum (by decide +kernel) (pa_cons (pv 5) pa_nil))) (pe_callB (cr_sum rfl) rfl t.b_sum (by decide +kernel) (pa_cons (pe_slice sl_list (pv 5) po_none (po_some (pv 4))) pa_nil)))))), ?_⟩
    refine ⟨_, rfl, _, rfl, lc, _, rfl, .inl (SqL.of hc), _, _, rfl, ⟨by rw [fr_len]; omega, PyProof.noPylong_of_log2 (small_log2 (by rw [fr_len]; omega))⟩, fun p hp => ?_⟩
    refine ⟨p, _, rfl, SqT.of upd_same, rfl, _, _, rfl, _, _, rfl, rfl, ?_⟩
    have k1 : Kp (TT K) [] H (upd H p (.tup [.int ((tm : Int) / ((fr cyc).length : Int)), .int ((tm : Int) % ((fr cyc).length : Int))])) := Kp.new hp fun _ z => by cases z
    have hc1 := k1.get hc (fun z => by cases z) rfl
    refine ⟨_, rfl, lc, rfl, ⟨_, SqL.of hc1⟩, fun D hD => ?_⟩
    refine lcL (T := TT K) (fun i acc H' => acc = (evP am (cyc.take i)).map V.int) (fun H' k => SqL.kp hc1 k) (by rw [fr_len]; omega) hD (fun _ _ _ _ r _ => r) rfl (fun i x acc H' N M hx k hd r n m => ?_) fun H' acc k hd hl r => ?_
    · unfold fr at hx
      rw [List.getElem?_map] at hx
      cases hi : cyc[i]? with
      | none => rw [hi] at hx; cases hx
      | some c =>
        rw [hi] at hx
        cases hx
        have hcl := hb c (List.mem_of_getElem? hi)
        refine ⟨rfl, it1 (B := M H') ?_⟩
        refine ⟨_, rfl, _, rfl, .inl ⟨la, _, c, .int (am.getD c 0), rfl, rfl, SqL.kp ha (k1.then k), at_nat (by rw [List.getElem?_map, List.getD_eq_getElem?_getD, List.getElem?_eq_getElem hcl]; rfl), n _ _ Kp.refl ?_⟩⟩
        rw [r, List.take_succ, hi]
        unfold evP
        rw [List.map_append, List.map_append]
        rfl
    · have r' : acc = (evP am cyc).map V.int := by rw [r, fr_len, List.take_length]
      subst r'
      have el : (evP am cyc).length = cyc.length := by unfold evP; rw [List.length_map]
      refine ⟨_, rfl, _, rfl, D, _, rfl, SqL.of hd, _, _, rfl, rfl, .inr ⟨by omega, by omega⟩, ?_⟩
      have e1 : (tm : Int) % ((fr cyc).length : Int) = ((tm % cyc.length : Nat) : Int) := by rw [fr_len]; exact (Int.natCast_emod _ _).symm
      have e2 : (tm : Int) / ((fr cyc).length : Int) = ((tm / cyc.length : Nat) : Int) := by rw [fr_len]; exact (Int.natCast_ediv _ _).symm
      refine ⟨_, rfl, _, rfl, _, rfl, D, _, rfl, SqL.of hd, fun p2 hp2 => ?_⟩
      rw [e1, cut_to (by rw [List.length_map, el]; exact Nat.le_of_lt (Nat.mod_lt _ h0)), ← List.map_take]
      refine ⟨p2, _, rfl, SqL.of upd_same, _, _, rfl, rfl, ?_⟩
      rw [e2]
      exact q _ ((k1.then k).then (Kp.new hp2 fun _ z => by cases z))
end
end Sw
namespace Sw
open PySem PySem.Spec PyProof.Rows L2 LamX
section
variable {X : Cx} {K : PySem.W.Frag} {T name : String} {id : String} {r : V → List V → Hp → VK → Prop} {to : TE} {t : TA} {o e : Expr} {es : List Expr} {nm : Str} {apos cpos : Pos}
theorem mt_indexK (hK : X.K = K) : MtR X "list.index" (rIndex K) := by
  subst hK
  exact mt_index
end
section
variable {K : PySem.W.Frag} {T : List (Addr × Str)} {H H1 H2 : Hp} {a D : Addr} {xs : List V} {g : TG} {tt : L2.TT} {te : TE} {vs : List Nat} {σ : L2.St} {Qd : Hp → Prop}
/-- a comprehension over an enumerate of a list -/
theorem lcE (R : Nat → List V → Hp → Prop) (hx : ∀ H', Kp T [] H1 H' → SqL K H' a xs) (hn : xs.length ≤ 100000) (hD : H1 D = none) (st : ∀ i acc H H', R i acc H → Kp T [D] H H' → R i acc H') (h0 : R 0 [] H1)
    (hs : ∀ (i : Nat) (x : V) (p : Addr) (acc : List V) (H' H2 : Hp) (N : V → Hp → Prop) (M : Hp → Prop), xs[i]? = some x → Kp T [] H1 H' → H' p = none → H2 = upd H' p (.tup [.int (i : Nat), x]) → H2 D = some (.lst acc) → R i acc H2 → (∀ y H4, Kp T [] H2 H4 → R (i + 1) (acc ++ [y]) H4 → N y H4) → (∀ H3, Kp T [] H2 H3 → R (i + 1) acc H3 → M H3) →
      g (.ref p) (wipe σ vs) H2 fun σ2 H2 => wipe σ2 vs = wipe σ vs ∧ tt σ2 H2 fun b H3 => if b = true then te σ2 H3 N else M H3)
    (hd : ∀ H' acc, Kp T [] H1 H' → H' D = some (.lst acc) → acc.length ≤ xs.length → R xs.length acc H' → Qd H') :
    ∃ W : Nat → Nat → Hp → Prop, (∃ m, W 0 m (upd H1 D (.lst []))) ∧ ∀ i m H, W i m H →
      ((Ite K a).stop i H ∧ Qd H) ∨ ((Ite K a).go i H ∧ ∃ Nx : Hp → Prop, (∀ H', Nx H' → ∃ m', m' < m ∧ W (i + 1) m' H') ∧ ∀ x H', (Ite K a).yld i H x H' → g x (wipe σ vs) H' fun σ2 H2 => wipe σ2 vs = wipe σ vs ∧ tt σ2 H2 fun b H3 =>
        if b = true then te σ2 H3 fun y H4 => ∃ acc, H4 D = some (.lst acc) ∧ acc.length < sizeLine ∧ Nx (upd H4 D (.lst (acc ++ [y]))) else Nx H3) := by
  refine lc_it (walk_enum (xs := xs)) (LcInv T D H1 R) ⟨[], Kp.new hD (fun _ z => (by cases z)), upd_same, Nat.le_refl _, st _ _ _ _ h0 (Kp.sub (Kp.new hD fun _ z => (by cases z)))⟩ (fun i H' _ p => hx H' p.choose_spec.1)
    (fun i x H0 H' hi p y => ?_) fun H' p => p.elim fun acc z => hd H' acc z.1 z.2.1 z.2.2.1 z.2.2.2
  obtain ⟨q, u, v, rfl, hq, rfl, e1, e2⟩ := y
  cases e1
  have kq : ∀ {fp}, Kp T fp H0 (upd H0 q (.tup [.int (i : Nat), v])) := Kp.new hq fun _ z => by cases z
  obtain ⟨acc, k, hd', hl, r⟩ := p
  have p2 : LcInv T D H1 R i (upd H0 q (.tup [.int (i : Nat), v])) := ⟨acc, k.then kq, (kq (fp := [])).get hd' (fun z => (by cases z)) rfl, hl, st _ _ _ _ r kq⟩
  refine lc_turn (by omega) hD st p2 fun acc N M k' hd2 r2 n m => hs i v q acc H0 _ N M e2 k hq rfl hd2 r2 n m
end
theorem SlotsAt.mdE {C : Addr} {H : Hp} {vp : List Addr} {A : Ag} {S : SM} {a : SA} {p : Addr} (s : SlotsAt C H vp A S a) (e : a.p = p) {m : Str} {R : Prop} (l : (fsl A a).lookup m = none) (h : R) : ∃ b dx fs, V.ref p = .ref b ∧ H b = some (.ins C dx fs) ∧ fs.lookup m = none ∧ R := by
  subst e
  exact s.md l h
/-- a leap, as its parts tell -/
structure LeapOk (A : Ag) (S S1 S' : SM) (t : Nat) (mv : List Nat) (cyc : Nat → List Nat) (am : List Int) (R : List Nat) : Prop where
  live1 : S1.live = S.live
  lenm : mv.length = (S.free ++ S.live.map (·.1)).length
  lenr : R.length = (S.free ++ S.live.map (·.1)).length
  lena : am.length = (S.free ++ S.live.map (·.1)).length
  mov : ∀ (i s : Nat), (S.free ++ S.live.map (·.1))[i]? = some s → ∃ j : Nat, mv[i]? = some j ∧ (S1.free ++ S.live.map (·.1))[j]? = some s
  amo : ∀ (i s : Nat), (S.free ++ S.live.map (·.1))[i]? = some s → am[i]? = some (cn S1.cnt s - cn S.cnt s)
  isc : ∀ i, i < (S.free ++ S.live.map (·.1)).length → IsCyc mv i (cyc i)
  lenc : ∀ i, i < (S.free ++ S.live.map (·.1)).length → (cyc i).length ≤ 100
  inc : ∀ i, i < (S.free ++ S.live.map (·.1)).length → ∀ c ∈ cyc i, c < (S.free ++ S.live.map (·.1)).length
  sum : ∀ i, i < (S.free ++ S.live.map (·.1)).length → 0 ≤ (evP am (cyc i)).sum ∧ (evP am (cyc i)).sum ≤ 1000
  res : ∀ (i s : Nat), (S.free ++ S.live.map (·.1))[i]? = some s → R[(cyc i).getD (t % (cyc i).length) 0]? = some s
  inj : ∀ i j, i < (S.free ++ S.live.map (·.1)).length → j < (S.free ++ S.live.map (·.1)).length → (cyc i).getD (t % (cyc i).length) 0 = (cyc j).getD (t % (cyc j).length) 0 → i = j
  sur : ∀ p, p < (S.free ++ S.live.map (·.1)).length → ∃ i, i < (S.free ++ S.live.map (·.1)).length ∧ (cyc i).getD (t % (cyc i).length) 0 = p
  cnt : ∀ (i s : Nat), (S.free ++ S.live.map (·.1))[i]? = some s → cn S'.cnt s = cn S.cnt s + passP am (cyc i) t
  free' : S'.free = R.take S.free.length
  back : R.drop S.free.length = S.live.map (·.1)
  live' : S'.live = S.live
  wf' : Wf A S'
  same : ∀ s ∈ S.live.map (·.1), cn S'.cnt s = cn S.cnt s
section
variable {P : Program} {w : World} {K : PySem.W.Frag} {mg : Str → Option Value} {base : Heap}
def spLeap (T : List (Addr × Str)) (C : Addr) : Sp := fun vs H Q _ => ∃ (vp : List Addr) (A : Ag) (S S1 S' : SM) (a : SA) (bb : Addr) (xs : List V) (ds : List De) (t : Nat) (mv : List Nat) (cyc : Nat → List Nat) (am : List Int) (R : List Nat),
  vs = [.ref a.p, .ref bb, .int t] ∧ SlotsAt C H vp A S a ∧ Wf A S ∧ Tabs T H ∧ BlkD H bb xs ds ∧ bb ∉ a.fp ∧ S.run A ds = some S1 ∧ LeapOk A S S1 S' t mv cyc am R ∧
  ∀ a' H', a'.p = a.p → Kp T a.fp H H' → Fr H a.fp a'.fp → SlotsAt C H' vp A S' a' → Q .non H'
abbrev NL : List Str := ["slots", "block", "times", "before", "counts", "trial", "after", "slot", "amounts", "moves", "arrangement", "taken", "place", "cycle", "many", "totals", "number"]
theorem sc_leap : FnScope NL ["slots", "block", "times"] d_leap.scope := ⟨rfl, rfl, rfl, by decide +kernel, rfl, by decide +kernel, by decide +kernel⟩
theorem ok_leap (t : Tx K mg base) : Cl P w K mg base 7 "leap" (spLeap (TT K) (SC K)) := by
  obtain ⟨fd, F⟩ := t.e_leap
  refine mkCl (N := NL) (ps := ["slots", "block", "times"]) F t.g_leap (fun _ _ _ _ _ _ us hl => match us, hl with | [_, _, _], _ => rfl) sc_leap (fun vs H Q E h => ?_) (fun cdv A outer s H vs Q E hr h => ?_)
  · obtain ⟨_, _, _, _, _, _, _, _, _, _, _, _, _, _, rfl, _⟩ := h
    rfl
  · obtain ⟨vp, G, S, S1, S', a, bb, xs, ds, tm, mv, cyc, am, R, rfl, sa, wf, tb, b, nb, hrun, lo, q⟩ := h
    have nd : NL.Nodup := by decide +kernel
    refine ⟨_, pss_cons (ps_set (i := 3) nd rfl (Or.inl rfl) (pe_c (ok_arr t) hr (by decide) rfl (pa_cons (pv 0) pa_nil)) rfl)
      (pss_cons (ps_set (i := 4) nd rfl (Or.inr rfl) (pe_mt0 (ok_counts t) hr (by decide) (pv 0)) rfl)
      (pss_cons (ps_set (i := 5) nd rfl (Or.inr rfl) (pe_mt0 (ok_copy t) hr (by decide) (pv 0)) rfl)
      (pss_cons (ps_expr (pe_c (ok_exec t) hr (by decide) rfl (pa_cons (pv 5) (pa_cons (pv 1) (pa_cons pe_int pa_nil)))))
      (pss_cons (ps_set (i := 6) nd rfl (Or.inr rfl) (pe_c (ok_arr t) hr (by decide) rfl (pa_cons (pv 5) pa_nil)) rfl)
      (pss_cons (ps_setLc (i := 8) (own := [("slot", 7)]) (g := gName 7) (tt := tYes) (by rfl) nd rfl rfl (sw_true rfl rfl rfl (by decide +kernel)) (pi_list (pv 3)) (blkOk_by (own := [("slot", 7)]) (N := NL) (sc := d_leap.scope) (by decide +kernel)) (fun _ _ _ _ _ => pg_name (i := 7) nd rfl (Or.inl rfl)) (fun _ _ _ _ _ => pts_nil)
        (fun _ _ _ _ _ => pe_op op_sub (pe_ix (ix_seqK (K := K) rfl) (pe_mt0 (ok_counts t) hr (by decide) (pv 5)) (pv 7) fun _ _ => rfl) (pe_ix (ix_seqK (K := K) rfl) (pv 4) (pv 7) fun _ _ => rfl)))
      (pss_cons (ps_setLc (i := 9) (own := [("slot", 7)]) (g := gName 7) (tt := tYes) (by rfl) nd rfl rfl (sw_true rfl rfl rfl (by decide +kernel)) (pi_list (pv 3)) (blkOk_by (own := [("slot", 7)]) (N := NL) (sc := d_leap.scope) (by decide +kernel)) (fun _ _ _ _ _ => pg_name (i := 7) nd rfl (Or.inl rfl)) (fun _ _ _ _ _ => pts_nil)
        (te := tBM K "list" (rIndex K) (tVar 6) (tCons (tVar 7) tNil)) (fun _ _ _ _ _ => pe_bm PySem.F.plainAttrs_list PySem.F.slot_list_index PySem.F.type_list_index (mt_indexK (K := K) rfl) (pv 6) (pa_cons (pv 7) pa_nil)))
      (pss_cons (ps_set (i := 10) nd rfl (Or.inl rfl) (pe_callTy call_list_of rfl t.b_list (by decide +kernel) (pa_cons (pv 3) pa_nil)) rfl)
      (pss_cons (ps_set (i := 11) nd rfl (Or.inr rfl) pe_dnewK rfl)
      (pss_cons (ps_for PassesOwn.never rfl (pi_enumX rfl t.b_enumerate (pa_cons (pv 3) pa_nil)) (pg_tup rfl (pgs_cons (pg_name (i := 12) nd rfl (Or.inl rfl)) (pgs_cons (pg_name (i := 7) nd rfl (Or.inl rfl)) pgs_nil)))
        (pss_cons (ps_set (i := 13) nd rfl (Or.inl rfl) (pe_c (ok_cyc t) hr (by decide) rfl (pa_cons (pv 9) (pa_cons (pv 12) pa_nil))) rfl)
        (pss_cons (ps_asg (pv 7) (pg_sub (pv 10) (pe_ix ix_seq (pv 13) (pe_op op_mod (pv 2) (pe_callB call_len_seq rfl t.b_len (by decide +kernel) (pa_cons (pv 13) pa_nil))) fun _ _ => rfl) set_list))
        (pss_one (ps_dput (hu_of hr) (pv 11) (pv 7) (pe_c (ok_pass t) hr (by decide) rfl (pa_cons (pv 8) (pa_cons (pv 13) (pa_cons (pv 2) pa_nil)))) rfl)))))
      (pss_cons (ps_set (i := 14) nd rfl (Or.inl rfl) (pe_callB call_len_seq rfl t.b_len (by decide +kernel) (pa_cons (pe_mt0 (ok_free t) hr (by decide) (pv 0)) pa_nil)) rfl)
      (pss_cons (ps_setLc (i := 15) (own := [("slot", 7), ("number", 16)]) (g := gTup K 2 (gCons (gName 7) (gCons (gName 16) gNil))) (tt := tYes) (by rfl) nd rfl rfl (sw_true rfl rfl rfl (by decide +kernel)) (pi_enumX rfl t.b_enumerate (pa_cons (pv 4) pa_nil)) (blkOk_by (own := [("slot", 7), ("number", 16)]) (N := NL) (sc := d_leap.scope) (by decide +kernel))
        (fun _ _ _ _ _ => pg_tupK (K := K) rfl rfl (pgs_cons (pg_name (i := 7) nd rfl (Or.inl rfl)) (pgs_cons (pg_name (i := 16) nd rfl (Or.inl rfl)) pgs_nil))) (fun _ _ _ _ _ => pts_nil)
        (fun _ _ _ _ _ => pe_op op_add (pv 16) (pe_dget (hu_of hr) (pv 11) (pv 7) fun _ _ => rfl)))
      (pss_one (ps_expr (pe_mt (ok_back t) hr (by decide) (pv 0) (pa_cons (pe_slice sl_list (pv 10) po_none (po_some (pv 14))) (pa_cons (pe_slice sl_list (pv 10) (po_some (pv 14)) po_none) (pa_cons (pv 15) pa_nil))))))))))))))))), ?_⟩
    have bnd : S.free.length + S.live.length ≤ 6 := by rw [wf.count]; exact wf.ok.n6
    have hBn : (S.free ++ S.live.map (·.1)).length ≤ 6 := by rw [List.length_append, List.length_map]; exact bnd
    have hBd : (S.free ++ S.live.map (·.1)).Nodup := wf.nodup
    have albb : Al H bb := b.sq.elim Al.l Al.tu
    have hrunW : ∀ {ds : List De} {S S1 : SM}, Wf G S → S.run G ds = some S1 → Wf G S1 := by
      intro ds
      induction ds with
      | nil => intro S S1 w h; cases h; exact w
      | cons d ds ih =>
        intro S S1 w h
        rw [SM.run] at h
        cases e : S.deed G d with
        | none => rw [e] at h; cases h
        | some S2 => rw [e] at h; exact ih (w.deed e) h
    have wf1 := hrunW wf hrun
    -- before, counts, trial
    refine ⟨_, rfl, vp, G, S, a, rfl, sa, wf, tb, fun pB H1 k1 nB eB => ?_⟩
    have sa1 := sa.keep k1 (fun _ z => by cases z) (fun _ z => by cases z)
    refine ⟨_, rfl, sa1.md rfl ⟨vp, G, S, a, rfl, sa1, fun pC H2 k2 nC eC => ?_⟩⟩
    have sa2 := sa1.keep k2 (fun _ z => by cases z) (fun _ z => by cases z)
    refine ⟨_, rfl, sa2.md rfl ⟨vp, G, S, a, rfl, sa2, wf, fun a2 H3 k3 f3 st3 => ?_⟩⟩
    have k03 := (k1.then k2).then k3
    have f03 : Fr H [] a2.fp := Fr.trans (k1.then k2) (fun b hb => .inl hb) f3
    have bn2 : bb ∉ a2.fp := fun hb => (f03 bb hb).elim (fun z => by cases z) fun z => z albb
    -- execute(trial)
    refine ⟨_, rfl, _, rfl, vp, G, S, S1, a2, bb, xs, ds, .int 0, rfl, st3, wf, k03.tab tb, b.kp k03 (fun z => by cases z), bn2, hrun, fun a3 H4 e4 k4 f4 st4 _ => ?_⟩
    have k04 : Kp (TT K) [] H H4 := k03.trans k4 f03
    have e1B := (k2.then k3).get eB (fun z => by cases z) rfl
    have nB2 : pB ∉ a2.fp := fun hb => (f3 pB hb).elim (fun z => by cases z) fun z => z (Al.l (k2.get eB (fun z => by cases z) rfl))
    have nC2 : pC ∉ a2.fp := fun hb => (f3 pC hb).elim (fun z => by cases z) fun z => z (Al.l eC)
    have e4B := k4.get e1B nB2 rfl
    have e4C := k4.get (k3.get eC (fun z => by cases z) rfl) nC2 rfl
    -- after
    refine ⟨_, rfl, vp, G, S1, a3, by rw [e4]; rfl, st4, wf1, k04.tab tb, fun pA H5 k5 nA eA => ?_⟩
    rw [lo.live1] at eA
    have k05 := k04.then k5
    have e5B := k5.get e4B (fun z => by cases z) rfl
    have e5C := k5.get e4C (fun z => by cases z) rfl
    have st5 := st4.keep k5 (fun _ z => by cases z) (fun _ z => by cases z)
    -- amounts
    refine ⟨_, rfl, pB, rfl, ⟨_, SqL.of e5B⟩, fun pM hM => ?_⟩
    refine lcL (T := TT K) (fun i acc H' => acc = (am.take i).map V.int) (fun H' k => SqL.kp e5B k) (by rw [fr_len]; omega) hM (fun _ _ _ _ r _ => r) rfl (fun i x acc H' N M hx k hd r n m => ?_) fun H6 acc k6 e6M hl r => ?_
    · unfold fr at hx
      rw [List.getElem?_map] at hx
      cases hi : (S.free ++ S.live.map (·.1))[i]? with
      | none => rw [hi] at hx; cases hx
      | some sl =>
        rw [hi] at hx
        cases hx
        have hsl : sl < S.cnt.length := by
          rw [wf.len]
          exact List.mem_range.mp (wf.perm.mem_iff.mp (List.mem_of_getElem? hi))
        have hsl1 : sl < S1.cnt.length := by rw [wf1.len, ← wf.len]; exact hsl
        have st := st5.keep k (fun _ z => by cases z) (fun _ z => by cases z)
        refine ⟨rfl, it1 (B := M H') ?_⟩
        refine ⟨_, rfl, st.mdE e4 rfl ⟨vp, G, S1, a3, by rw [e4]; rfl, st, fun pc Hc kc nc ec => ?_⟩⟩
        refine ⟨_, rfl, .inl ⟨pc, _, sl, .int (cn S1.cnt sl), rfl, rfl, SqL.of ec, at_nat (by rw [List.getElem?_map, at_cn hsl1]; rfl), ?_⟩⟩
        refine ⟨_, rfl, _, rfl, .inl ⟨pC, _, sl, .int (cn S.cnt sl), rfl, rfl, SqL.kp e5C (k.then kc), at_nat (by rw [List.getElem?_map, at_cn hsl]; rfl), ?_⟩⟩
        refine ⟨_, _, rfl, rfl, n _ _ kc ?_⟩
        rw [r, List.take_succ, lo.amo i sl hi, List.map_append]
        rfl
    have r6 : acc = am.map V.int := by rw [r, fr_len, ← lo.lena, List.take_length]
    subst r6
    have k06 := k05.then k6
    have e6B := k6.get e5B (fun z => by cases z) rfl
    have e6C := k6.get e5C (fun z => by cases z) rfl
    have e6A := k6.get eA (fun z => by cases z) rfl
    -- moves
    refine ⟨_, rfl, pB, rfl, ⟨_, SqL.of e6B⟩, fun pV hV => ?_⟩
    have hAd : (S1.free ++ S.live.map (·.1)).Nodup := by rw [← lo.live1]; exact wf1.nodup
    refine lcL (T := TT K) (fun i acc H' => acc = fr (mv.take i)) (fun H' k => SqL.kp e6B k) (by rw [fr_len]; omega) hV (fun _ _ _ _ r _ => r) rfl (fun i x acc H' N M hx k hd r n m => ?_) fun H7 acc k7 e7V hl r => ?_
    · unfold fr at hx
      rw [List.getElem?_map] at hx
      cases hi : (S.free ++ S.live.map (·.1))[i]? with
      | none => rw [hi] at hx; cases hx
      | some sl =>
        rw [hi] at hx
        cases hx
        obtain ⟨j, j1, j2⟩ := lo.mov i sl hi
        refine ⟨rfl, it1 (B := M H') ?_⟩
        refine ⟨_, rfl, .inl ⟨rfl, _, SqL.kp e6A k⟩, _, rfl, pA, _, _, j, .int sl, rfl, rfl, SqL.kp e6A k, rfl, flat_fr, ?_, by simp [eqV], fun m' z' hm' hz' => ?_, n _ _ Kp.refl ?_⟩
        · unfold fr
          rw [List.getElem?_map, j2]
          rfl
        · unfold fr at hz'
          rw [List.getElem?_map] at hz'
          cases hz : (S1.free ++ S.live.map (·.1))[m']? with
          | none => rw [hz] at hz'; cases hz'
          | some s2 =>
            rw [hz] at hz'
            cases hz'
            have hne : s2 ≠ sl := fun e => by
              subst e
              exact absurd (nd_ix hAd hz j2) (by omega)
            show ((s2 : Int) == (sl : Int)) = false
            simpa using fun z => hne (Int.ofNat.inj z)
        · rw [r, List.take_succ, j1, fr_app]
          rfl
    have r7 : acc = fr mv := by rw [r, fr_len, ← lo.lenm, List.take_length]
    subst r7
    have k07 := k06.then k7
    have e7B := k7.get e6B (fun z => by cases z) rfl
    have e7C := k7.get e6C (fun z => by cases z) rfl
    have e7M := k7.get e6M (fun z => by cases z) rfl
    -- arrangement, taken
    refine ⟨_, rfl, pB, _, rfl, .inl (SqL.of e7B), fun pR hR => ?_⟩
    refine fun pT hT => ?_
    have k79 : Kp (TT K) [] H7 (upd (upd H7 pR (.lst (fr (S.free ++ S.live.map (·.1))))) pT (.dK [])) := (Kp.new hR fun _ z => by cases z).then (Kp.new hT fun _ z => by cases z)
    have nRT : pR ≠ pT := (nn hT).symm
    have aR : ¬ Al H7 pR := nAl hR
    have aT : ¬ Al H7 pT := nAl (upm hT)
    have e9B := k79.get e7B (fun z => by cases z) rfl
    have hlenB : (fr (S.free ++ S.live.map (·.1))).length = (S.free ++ S.live.map (·.1)).length := fr_len
    refine ⟨_, rfl, pB, fr (S.free ++ S.live.map (·.1)), rfl, ?_⟩
    refine for_enumX (.inl e9B) (fun i σ' H' => Kp (TT K) [] H7 H' ∧ (∃ arr : List Nat, H' pR = some (.lst (fr arr)) ∧ arr.length = (S.free ++ S.live.map (·.1)).length ∧ ∀ i', i' < i → arr[(cyc i').getD (tm % (cyc i').length) 0]? = (S.free ++ S.live.map (·.1))[i']?) ∧
      H' pT = some (.dK (kvl (((S.free ++ S.live.map (·.1)).take i).map fun s => (s, PyData.none)) ((List.range i).map fun i => V.int (passP am (cyc i) tm)))) ∧
      ∃ u7 u12 u13, σ' = [some (.ref a.p), some (.ref bb), some (.int tm), some (.ref pB), some (.ref pC), some (.ref a2.p), some (.ref pA), u7, some (.ref pM), some (.ref pV), some (.ref pR), some (.ref pT), u12, u13, none, none, none])
      ⟨k79, ⟨_, up nRT upd_same, rfl, fun i' h => absurd h (Nat.not_lt_zero _)⟩, ?_, _, _, _, rfl⟩ (fun i σ' H' z => ⟨fun _ => z.1.get e7B (fun z => by cases z) rfl, fun e => by rw [e9B] at e; cases e⟩) (fun i x σ1 H1' p hx z hp => ?_) fun σ1 H8 z => ?_
    · rw [upd_same]
      rfl
    · obtain ⟨z1, ⟨arr, z2, z3, z4⟩, z5, u7, u12, u13, rfl⟩ := z
      unfold fr at hx
      rw [List.getElem?_map] at hx
      cases hi : (S.free ++ S.live.map (·.1))[i]? with
      | none => rw [hi] at hx; cases hx
      | some sl =>
        rw [hi] at hx
        cases hx
        have hin : i < (S.free ++ S.live.map (·.1)).length := (List.getElem?_eq_some_iff.mp hi).1
        have kp : Kp (TT K) [] H1' (upd H1' p (.tup [.int (i : Nat), .int (sl : Nat)])) := Kp.new hp fun _ z => by cases z
        refine ⟨p, _, rfl, SqT.of upd_same, rfl, _, _, rfl, _, _, rfl, rfl, ?_⟩
        have z1p := z1.then kp
        have eV := z1p.get e7V (fun z => by cases z) rfl
        have isc := lo.isc i hin
        have c0 : 0 < (cyc i).length := (List.getElem?_eq_some_iff.mp isc.c0).1
        refine ⟨_, rfl, _, rfl, pV, mv, i, cyc i, rfl, eV, isc, lo.lenc i hin, fun pY Hy ky ny ey => ?_⟩
        have kpy := kp.then ky
        have zy := z1.then kpy
        have eR := kpy.get z2 (fun z => by cases z) rfl
        have eT := kpy.get z5 (fun z => by cases z) rfl
        have hmod : tm % (cyc i).length < (cyc i).length := Nat.mod_lt _ c0
        have hc : (cyc i)[tm % (cyc i).length]? = some ((cyc i).getD (tm % (cyc i).length) 0) := by
          rw [List.getD_eq_getElem?_getD, List.getElem?_eq_getElem hmod]
          rfl
        have hcin := lo.inc i hin _ (List.mem_of_getElem? hc)
        have e1 : (tm : Int) % ((fr (cyc i)).length : Int) = ((tm % (cyc i).length : Nat) : Int) := by rw [fr_len]; exact (Int.natCast_emod _ _).symm
        refine ⟨_, rfl, _, rfl, _, rfl, _, rfl, _, rfl, pY, _, rfl, .inl (SqL.of ey), _, _, rfl, rfl, by rw [fr_len]; omega, ?_⟩
        have rdc : atI (fr (cyc i)) ((tm : Int) % ((fr (cyc i)).length : Int)) = some (.int (((cyc i).getD (tm % (cyc i).length) 0 : Nat) : Int)) := by
          rw [e1]
          exact at_nat (by unfold fr; rw [List.getElem?_map, hc]; rfl)
        refine .inl ⟨pY, _, _, .int (((cyc i).getD (tm % (cyc i).length) 0 : Nat) : Int), rfl, rfl, SqL.of ey, rdc, ?_⟩
        refine ⟨pR, _, _, (cyc i).getD (tm % (cyc i).length) 0, rfl, rfl, eR, ix_nat (by rw [fr_len, z3]; exact hcin), ?_⟩
        have es : (fr arr).set ((cyc i).getD (tm % (cyc i).length) 0) (.int (sl : Int)) = fr (arr.set ((cyc i).getD (tm % (cyc i).length) 0) sl) := by unfold fr; rw [List.map_set]
        rw [es]
        have kw : Kp (TT K) [] H7 (upd Hy pR (.lst (fr (arr.set ((cyc i).getD (tm % (cyc i).length) 0) sl)))) := zy.dst aR eR rfl rfl
        have eM := kw.get e7M (fun z => by cases z) rfl
        have nYR : pY ≠ pR := fun e => by
          have := (kp).al pR (Al.l z2)
          rw [← e] at this
          exact ny this
        have hs := lo.sum i hin
        refine ⟨_, rfl, _, rfl, _, rfl, pM, pY, am, cyc i, tm, rfl, eM, up nYR ey, c0, lo.lenc i hin, fun c hc => by rw [lo.lena]; exact lo.inc i hin c hc, hs.1, hs.2, fun Hz kz => ?_⟩
        have kwz := kw.then kz
        have eT3 := kz.get (up (u := .lst (fr (arr.set ((cyc i).getD (tm % (cyc i).length) 0) sl))) nRT.symm eT) (fun z => by cases z) rfl
        have eR3 := kz.get (upd_same (H := Hy) (a := pR) (o := .lst (fr (arr.set ((cyc i).getD (tm % (cyc i).length) 0) sl)))) (fun z => by cases z) rfl
        refine ⟨_, rfl, _, rfl, pT, _, rfl, DPut.k (k := .inl (sl : Int)) eT3 ?_, ?_⟩
        · unfold kvl
          rw [List.length_zip, List.length_map, List.length_map, List.length_map, List.length_range, List.length_take]
          have : (1000 : Nat) < sizeLine := by decide
          omega
        · have hnin : sl ∉ (((S.free ++ S.live.map (·.1)).take i).map fun s => (s, PyData.none)).map (·.1) := by
            rw [List.map_map]
            intro z
            obtain ⟨s', hs', e⟩ := List.mem_map.mp z
            have e' : s' = sl := e
            subst e'
            obtain ⟨j, hj⟩ := List.getElem?_of_mem hs'
            rw [List.getElem?_take] at hj
            split at hj
            · exact absurd (nd_ix hBd hj hi) (by omega)
            · cases hj
          rw [kv_put (d := .none) hnin (by rw [List.length_map, List.length_range, List.length_map, List.length_take]; omega)]
          refine ⟨kwz.dst aT eT3 rfl rfl, ⟨arr.set ((cyc i).getD (tm % (cyc i).length) 0) sl, up nRT eR3, by rw [List.length_set]; exact z3, fun i' hi' => ?_⟩, ?_, _, _, _, rfl⟩
          · rw [List.getElem?_set]
            by_cases e : i' = i
            · subst e
              rw [if_pos rfl, if_pos (by rw [z3]; exact hcin), hi]
            · rw [if_neg, z4 i' (by omega)]
              intro z
              exact e (lo.inj i i' hin (by omega) z).symm
          · rw [upd_same, List.take_succ, hi, List.range_succ, List.map_append, List.map_append]
            rfl
    · obtain ⟨z1, ⟨arr, z2, z3, z4⟩, z5, u7, u12, u13, rfl⟩ := z
      rw [hlenB] at z4 z5
      have k08 := k07.then z1
      have hR : arr = R := by
        refine List.ext_getElem? fun p => ?_
        by_cases hp : p < (S.free ++ S.live.map (·.1)).length
        · obtain ⟨i, hi, e⟩ := lo.sur p hp
          have hBi : (S.free ++ S.live.map (·.1))[i]? = some (S.free ++ S.live.map (·.1))[i] := by simp
          have h1 := z4 i hi
          have h2 := lo.res i _ hBi
          rw [e] at h1 h2
          rw [h1, h2, hBi]
        · rw [List.getElem?_eq_none (by omega), List.getElem?_eq_none (by rw [lo.lenr]; omega)]
      subst hR
      have sa8 := sa.keep k08 (fun _ z => by cases z) (fun _ z => by cases z)
      have e8C := z1.get e7C (fun z => by cases z) rfl
      rw [List.take_length] at z5
      -- many
      refine ⟨_, rfl, sa8.md rfl ⟨vp, G, S, a, rfl, sa8, wf, k08.tab tb, fun pF H9 k9 nF eF => ?_⟩⟩
      refine ⟨pF, _, rfl, .inl (SqL.of eF), ?_⟩
      rw [fr_len]
      have k09 := k08.then k9
      have e9C := k9.get e8C (fun z => by cases z) rfl
      have e9R := k9.get z2 (fun z => by cases z) rfl
      have e9T := k9.get z5 (fun z => by cases z) rfl
      -- totals
      refine ⟨_, rfl, pC, S.cnt.map V.int, rfl, .inl ⟨SqL.of e9C, fun pX hX => ?_⟩⟩
      have hcl : S.cnt.length = (S.free ++ S.live.map (·.1)).length := by rw [wf.len, List.length_append, List.length_map, wf.count]
      refine lcE (T := TT K) (fun i acc H' => acc = (S'.cnt.take i).map V.int) (fun H' k => SqL.kp e9C k) (by rw [List.length_map]; omega) hX (fun _ _ _ _ r _ => r) rfl (fun i x p acc H' H2 N M hx k hp e2 hd r n m => ?_) fun H10 acc k10 e10X hl r => ?_
      · subst e2
        have kp : Kp (TT K) [] H' (upd H' p (.tup [.int (i : Nat), x])) := Kp.new hp fun _ z => by cases z
        rw [List.getElem?_map] at hx
        cases hi : S.cnt[i]? with
        | none => rw [hi] at hx; cases hx
        | some c =>
          rw [hi] at hx
          cases hx
          have hin : i < S.cnt.length := (List.getElem?_eq_some_iff.mp hi).1
          have hmem : i ∈ S.free ++ S.live.map (·.1) := wf.perm.mem_iff.mpr (List.mem_range.mpr (by rw [← wf.len]; exact hin))
          obtain ⟨b', hb⟩ := List.getElem?_of_mem hmem
          have hbl : b' < (S.free ++ S.live.map (·.1)).length := (List.getElem?_eq_some_iff.mp hb).1
          have hc := lo.cnt b' i hb
          have eT := (k.then kp).get e9T (fun z => by cases z) rfl
          have g := DGet.k (k := .inl (i : Int)) eT
          have gv : valV (kvl ((S.free ++ S.live.map (·.1)).map fun s => (s, PyData.none)) ((List.range (S.free ++ S.live.map (·.1)).length).map fun i => V.int (passP am (cyc i) tm))) (.inl (i : Int)) = some (.int (passP am (cyc b') tm)) := by
            refine kv_ix (i := b') (p := (i, PyData.none)) ?_ ?_ ?_
            · rw [List.map_map]
              show ((S.free ++ S.live.map (·.1)).map id).Nodup
              rw [List.map_id]
              exact hBd
            · rw [List.getElem?_map, hb]
              rfl
            · rw [List.getElem?_map, List.getElem?_range hbl]
              rfl
          rw [gv] at g
          refine ⟨p, _, rfl, SqT.of upd_same, rfl, _, _, rfl, _, _, rfl, rfl, rfl, it1 (B := M (upd H' p (.tup [.int (i : Int), .int c]))) ?_⟩
          refine ⟨_, rfl, _, rfl, _, rfl, pT, _, rfl, g, _, _, rfl, rfl, n _ _ Kp.refl ?_⟩
          have hi' : S'.cnt[i]? = some (c + passP am (cyc b') tm) := by
            rw [at_cn (by rw [lo.wf'.len, ← wf.len]; exact hin), hc, cn_at hi]
          rw [r, List.take_succ, hi', List.map_append]
          rfl
      · have r' : acc = S'.cnt.map V.int := by rw [r, List.length_map, wf.len, ← lo.wf'.len, List.take_length]
        subst r'
        have k010 := k09.then k10
        have sa10 := sa.keep k010 (fun _ z => by cases z) (fun _ z => by cases z)
        have e10R := k10.get e9R (fun z => by cases z) rfl
        have hfl : S.free.length ≤ (fr arr).length := by
          rw [fr_len, z3, List.length_append]
          omega
        refine ⟨_, rfl, sa10.md rfl ?_⟩
        refine ⟨_, rfl, _, rfl, _, rfl, pR, _, rfl, SqL.of e10R, fun q1 hq1 => ?_⟩
        rw [cut_to hfl]
        have kq1 : Kp (TT K) [] H10 (upd H10 q1 (.lst ((fr arr).take S.free.length))) := Kp.new hq1 fun _ z => by cases z
        refine ⟨_, rfl, _, rfl, _, rfl, pR, _, rfl, SqL.kp e10R kq1, fun q2 hq2 => ?_⟩
        rw [cut_from hfl]
        have kq2 : Kp (TT K) [] (upd H10 q1 (.lst ((fr arr).take S.free.length))) (upd (upd H10 q1 (.lst ((fr arr).take S.free.length))) q2 (.lst ((fr arr).drop S.free.length))) := Kp.new hq2 fun _ z => by cases z
        have kq := kq1.then kq2
        have k012 := k010.then kq
        have sa12 := sa.keep k012 (fun _ z => by cases z) (fun _ z => by cases z)
        have f1 : (fr arr).take S.free.length = fr S'.free := by rw [lo.free']; unfold fr; rw [List.map_take]
        have f2 : (fr arr).drop S.free.length = fr (S.live.map (·.1)) := by rw [← lo.back]; unfold fr; rw [List.map_drop]
        refine ⟨_, rfl, vp, G, S, S', a, q1, q2, pX, S'.free, rfl, sa12, wf, lo.wf', lo.live', ?_, .refl _, fun _ => rfl, ?_, kq.get e10X (fun z => by cases z) rfl, lo.same, fun a' H' e1 k1' f1' s1' => ?_⟩
        · rw [← f1]
          exact up (nn hq2).symm upd_same
        · rw [← f2]
          exact upd_same
        · exact q a' H' e1 (k012.sub.then k1') (Fr.trans (k012 : Kp (TT K) [] H _) Fr.refl f1') s1'
end
end Sw
namespace Sw
open PySem PySem.Spec PyProof.Rows L2 LamX
def Rl.lf : Rl → Bool
  | .last => true
  | .first => true
  | _ => false
theorem Rl.lf_in {r : Rl} : inV (.str r.s) [.str "last", .str "first"] = r.lf := by cases r <;> decide +kernel
theorem Rl.lf_srt {r : Rl} : r.lf = true ↔ ¬ Srt r := by
  unfold Srt
  cases r <;> simp [Rl.lf]
def mostT (r : Rl) : Nat := if r.lf = true then 1000000000000000000 else 1000
section
variable {P : Program} {w : World} {K : PySem.W.Frag} {mg : Str → Option Value} {base : Heap}
def spTimes (T : List (Addr × Str)) (C : Addr) : Sp := fun vs H Q _ => ∃ (vp : List Addr) (A : Ag) (S : SM) (a : SA) (t : Nat), vs = [.ref a.p, .int t] ∧ SlotsAt C H vp A S a ∧ t ≤ mostT A.r ∧ ∀ H', Kp T [] H H' → Q .non H'
theorem sc_times : FnScope ["slots", "times", "most"] ["slots", "times"] d_look_times.scope := ⟨rfl, rfl, rfl, by decide +kernel, rfl, by decide +kernel, by decide +kernel⟩
theorem ok_times (t : Tx K mg base) : Cl P w K mg base 2 "look_times" (spTimes (TT K) (SC K)) := by
  obtain ⟨fd, F⟩ := t.e_look_times
  refine mkCl (N := ["slots", "times", "most"]) (ps := ["slots", "times"]) F t.g_look_times (fun _ _ _ _ _ _ us hl => match us, hl with | [_, _], _ => rfl) sc_times (fun vs H Q E h => ?_) (fun cdv A outer s H vs Q E hr h => ?_)
  · obtain ⟨_, _, _, _, _, rfl, _⟩ := h
    rfl
  · obtain ⟨vp, G, S, a, tm, rfl, sa, hm, q⟩ := h
    have nd : (["slots", "times", "most"] : List Str).Nodup := by decide +kernel
    refine ⟨_, pss_cons (ps_set (i := 2) nd rfl (Or.inl rfl) (pe_ifExp (pt_cmpR op_in_seq (pe_fld (pv 0) rfl) (pe_tup (pa_cons pe_str (pa_cons pe_str pa_nil))) rfl) (C8.pe_gc rfl t.i_MAX_TIMES) (C8.pe_gc rfl t.i_MAX_PLAIN_TIMES)) rfl)
      (pss_one (ps_if (PW.pt (pw_or (pt_not (pt_val (pe_c (ok_isInt t) hr (Nat.le_refl _) rfl (pa_cons (pv 1) pa_nil)))) (pw_or1 (pt_not (pt_chain op_le op_le pe_int (pv 1) (pv 2)))))) (pss_one ps_never) pss_nil)), ?_⟩
    refine ⟨_, rfl, sa.fd t.cl t.a_rule f_r ⟨sz (show 2 ≤ 1000 by decide), fun p hp => ?_⟩⟩
    have k : Kp (TT K) [] H (upd H p (.tup [.str "last", .str "first"])) := Kp.new hp fun _ z => by cases z
    refine ⟨p, _, rfl, .inr (SqT.of upd_same), rfl, rfl, G.r.lf, by rw [← Rl.lf_in]; rfl, ?_⟩
    have e0 : decide ((0 : Int) ≤ (tm : Int)) = true := decide_eq_true (by omega)
    cases hl : G.r.lf with
    | true =>
      refine iteT ?_
      unfold mostT at hm
      rw [if_pos hl] at hm
      refine ⟨_, rfl, tm, rfl, true, rfl, iteF ?_⟩
      refine ⟨_, rfl, _, _, rfl, rfl, _, rfl, ?_⟩
      rw [e0]
      refine iteT ⟨_, rfl, _, _, rfl, rfl, _, rfl, ?_⟩
      rw [decide_eq_true (show (tm : Int) ≤ 1000000000000000000 by omega)]
      exact iteF (q _ k)
    | false =>
      refine iteF ?_
      unfold mostT at hm
      rw [if_neg (by rw [hl]; exact Bool.false_ne_true)] at hm
      refine ⟨_, rfl, tm, rfl, true, rfl, iteF ?_⟩
      refine ⟨_, rfl, _, _, rfl, rfl, _, rfl, ?_⟩
      rw [e0]
      refine iteT ⟨_, rfl, _, _, rfl, rfl, _, rfl, ?_⟩
      rw [decide_eq_true (show (tm : Int) ≤ 1000 by omega)]
      exact iteF (q _ k)
end
end Sw
namespace Sw
open PySem PySem.Spec PyProof.Rows L2 LamX
def SM.runN (A : Ag) (ds : List De) : Nat → SM → Option SM
  | 0, S => some S
  | n + 1, S => match SM.runN A ds n S with
    | some S1 => S1.run A ds
    | none => none
theorem runN_le {A : Ag} {ds : List De} {S : SM} : ∀ {n : Nat} {S' : SM}, S.runN A ds n = some S' → ∀ j, j ≤ n → ∃ Sj, S.runN A ds j = some Sj
  | 0, S', h, j, hj => ⟨S', by rw [Nat.le_zero.mp hj]; exact h⟩
  | n + 1, S', h, j, hj => by
    by_cases e : j = n + 1
    · subst e; exact ⟨S', h⟩
    · rw [SM.runN] at h
      cases e1 : S.runN A ds n with
      | none => rw [e1] at h; cases h
      | some S1 => exact runN_le e1 j (by omega)
theorem Wf.run {A : Ag} : ∀ {ds : List De} {S S1 : SM}, Wf A S → S.run A ds = some S1 → Wf A S1
  | [], S, S1, w, h => by cases h; exact w
  | d :: ds, S, S1, w, h => by
    rw [SM.run] at h
    cases e : S.deed A d with
    | none => rw [e] at h; cases h
    | some S2 => rw [e] at h; exact Wf.run (w.deed e) h
theorem Wf.runN {A : Ag} {ds : List De} {S : SM} (w : Wf A S) : ∀ {n : Nat} {S' : SM}, S.runN A ds n = some S' → Wf A S'
  | 0, S', h => by cases h; exact w
  | n + 1, S', h => by
    rw [SM.runN] at h
    cases e1 : S.runN A ds n with
    | none => rw [e1] at h; cases h
    | some S1 => rw [e1] at h; exact (Wf.runN w e1).run h
section
variable {P : Program} {w : World} {K : PySem.W.Frag} {mg : Str → Option Value} {base : Heap}
def spRep (T : List (Addr × Str)) (C : Addr) : Sp := fun vs H Q _ => ∃ (vp : List Addr) (A : Ag) (S S' : SM) (a : SA) (bb : Addr) (xs : List V) (ds : List De) (t : Nat),
  vs = [.ref a.p, .ref bb, .int t] ∧ SlotsAt C H vp A S a ∧ Wf A S ∧ Tabs T H ∧ BlkD H bb xs ds ∧ bb ∉ a.fp ∧ 2 * tkN xs = xs.length ∧ 0 < xs.length ∧ t ≤ mostT A.r ∧
  (A.r.lf = true → (t = 0 → S' = S) ∧ (0 < t → ∃ S1 mv cyc am R, S.run A ds = some S1 ∧ LeapOk A S S1 S' t mv cyc am R)) ∧
  (A.r.lf = false → S.runN A ds t = some S' ∧ S'.live = S.live ∧ ∀ s ∈ S.live.map (·.1), cn S'.cnt s = cn S.cnt s) ∧
  ∀ a' H', a'.p = a.p → Kp T a.fp H H' → Fr H a.fp a'.fp → SlotsAt C H' vp A S' a' → Q (.int ((tkN xs * t : Nat) : Int)) H'
abbrev NR : List Str := ["slots", "block", "times", "takes", "is_balanced", "trial", "turn"]
theorem sc_rep : FnScope NR ["slots", "block", "times"] d_repeat.scope := ⟨rfl, rfl, rfl, by decide +kernel, rfl, by decide +kernel, by decide +kernel⟩
theorem ok_rep (t : Tx K mg base) : Cl P w K mg base 8 "repeat" (spRep (TT K) (SC K)) := by
  obtain ⟨fd, F⟩ := t.e_repeat
  refine mkCl (N := NR) (ps := ["slots", "block", "times"]) F t.g_repeat (fun _ _ _ _ _ _ us hl => match us, hl with | [_, _, _], _ => rfl) sc_rep (fun vs H Q E h => ?_) (fun cdv A outer s H vs Q E hr h => ?_)
  · obtain ⟨_, _, _, _, _, _, _, _, _, rfl, _⟩ := h
    rfl
  · obtain ⟨vp, G, S, S', a, bb, xs, ds, tm, rfl, sa, wf, tb, b, nb, bal, pos, hm, c1, c2, q⟩ := h
    have nd : NR.Nodup := by decide +kernel
    refine ⟨_, pss_cons (ps_expr (pe_c (ok_look t) hr (by decide) rfl (pa_cons (pv 1) pa_nil)))
      (pss_cons (ps_expr (pe_c (ok_times t) hr (by decide) rfl (pa_cons (pv 0) (pa_cons (pv 2) pa_nil))))
      (pss_cons (ps_set (i := 3) nd rfl (Or.inl rfl) (pe_c (ok_tkof t) hr (by decide) rfl (pa_cons (pv 1) pa_nil)) rfl)
      (pss_cons (ps_set (i := 4) nd rfl (Or.inl rfl) (pe_cmpR op_eq (pe_op op_mul pe_int (pv 3)) (pe_callB call_len_seq rfl t.b_len (by decide +kernel) (pa_cons (pv 1) pa_nil)) rfl) rfl)
      (pss_cons (ps_if (PW.pt (pw_and (pt_val (pv 4)) (pw_and1 (pt_cmpR op_in_seq (pe_fld (pv 0) rfl) (pe_tup (pa_cons pe_str (pa_cons pe_str pa_nil))) rfl))))
        (pss_cons (ps_if (pt_cmpR op_gt (pv 2) pe_int (nomark _)) (pss_one (ps_expr (pe_c (ok_leap t) hr (by decide) rfl (pa_cons (pv 0) (pa_cons (pv 1) (pa_cons (pv 2) pa_nil)))))) pss_nil)
          (pss_one (ps_ret (pe_op op_mul (pv 3) (pv 2))))) pss_nil)
      (pss_cons (ps_set (i := 5) nd rfl (Or.inl rfl) (pe_mt0 (ok_copy t) hr (by decide) (pv 0)) rfl)
      (pss_cons (ps_set (i := 6) nd rfl (Or.inl rfl) pe_int rfl)
      (pss_cons (ps_while PassesOwn.never (PW.pt (pw_and (pt_cmpR op_lt (pv 6) (pv 2) (nomark _)) (pw_and1 (pt_cmpR op_gt (pe_callB call_len_seq rfl t.b_len (by decide +kernel) (pa_cons (pv 1) pa_nil)) pe_int (nomark _)))))
        (pss_cons (ps_expr (pe_c (ok_exec t) hr (by decide) rfl (pa_cons (pv 5) (pa_cons (pv 1) (pa_cons (pv 6) pa_nil)))))
          (pss_one (ps_aug (i := 6) nd rfl (Or.inl rfl) pe_int ip_add))))
      (pss_cons (ps_expr (pe_mt (ok_back t) hr (by decide) (pv 0) (pa_cons (pe_fld (pv 5) rfl) (pa_cons (pe_fld (pv 5) rfl) (pa_cons (pe_mt0 (ok_counts t) hr (by decide) (pv 5)) pa_nil)))))
      (pss_one (ps_ret (pe_op op_mul (pv 3) (pv 2)))))))))))), ?_⟩
    have b40 := b.len
    have tk40 : tkN xs ≤ 40 := by omega
    have albb : Al H bb := b.sq.elim Al.l Al.tu
    refine ⟨_, rfl, bb, xs, rfl, b.at, fun H1 k1 => ?_⟩
    have sa1 := sa.keep k1 (fun _ z => by cases z) (fun _ z => by cases z)
    refine ⟨_, rfl, _, rfl, vp, G, S, a, tm, rfl, sa1, hm, fun H2 k2 => ?_⟩
    have k02 := k1.then k2
    have b2 := b.kp k02 (fun z => by cases z)
    refine ⟨_, rfl, bb, xs, rfl, b2.at, fun H3 k3 => ?_⟩
    have k03 := k02.then k3
    have b3 := b.kp k03 (fun z => by cases z)
    have sa3 := sa.keep k03 (fun _ z => by cases z) (fun _ z => by cases z)
    refine ⟨_, rfl, _, _, rfl, rfl, .inl ⟨by decide, by decide⟩, ?_⟩
    refine ⟨_, rfl, bb, xs, rfl, b3.at.sq', ?_⟩
    refine ⟨rfl, ?_⟩
    have eb : decide (V.int ((2 : Int) * (tkN xs : Nat)) = V.int ((xs.length : Nat) : Int)) = true := decide_eq_true (by rw [← bal]; exact congrArg V.int (by omega))
    rw [eb]
    refine ⟨_, rfl, true, rfl, ?_⟩
    refine iteT ?_
    refine ⟨_, rfl, sa3.fd t.cl t.a_rule f_r ⟨sz (show 2 ≤ 1000 by decide), fun p hp => ?_⟩⟩
    have kp : Kp (TT K) [] H3 (upd H3 p (.tup [.str "last", .str "first"])) := Kp.new hp fun _ z => by cases z
    refine ⟨p, _, rfl, .inr (SqT.of upd_same), rfl, rfl, G.r.lf, by rw [← Rl.lf_in]; rfl, ?_⟩
    have k04 := k03.then kp
    have sa4 := sa.keep k04 (fun _ z => by cases z) (fun _ z => by cases z)
    have em : ((tkN xs : Nat) : Int) * (tm : Int) = ((tkN xs * tm : Nat) : Int) := (Int.natCast_mul _ _).symm
    cases hlf : G.r.lf with
    | true =>
      refine iteT ?_
      obtain ⟨d1, d2⟩ := c1 hlf
      refine ⟨_, rfl, _, _, rfl, rfl, _, rfl, ?_⟩
      by_cases h0 : 0 < tm
      · rw [decide_eq_true (show (0 : Int) < (tm : Int) by omega)]
        refine iteT ?_
        obtain ⟨S1, mv, cyc, am, R, e1, e2⟩ := d2 h0
        refine ⟨_, rfl, _, rfl, _, rfl, vp, G, S, S1, S', a, bb, xs, ds, tm, mv, cyc, am, R, rfl, sa4, wf, k04.tab tb, b.kp k04 (fun z => by cases z), nb, e1, e2, fun a' H' ea k f s' => ?_⟩
        refine ⟨_, rfl, _, rfl, _, _, rfl, rfl, .inl ⟨by omega, by omega⟩, ?_⟩
        show Q (V.int (((tkN xs : Nat) : Int) * _)) _
        rw [em]
        exact q a' H' ea (k04.sub.then k) (Fr.trans (k04 : Kp (TT K) [] H _) Fr.refl f) s'
      · rw [decide_eq_false (show ¬ (0 : Int) < (tm : Int) by omega)]
        refine iteF ?_
        refine ⟨_, rfl, _, rfl, _, _, rfl, rfl, .inl ⟨by omega, by omega⟩, ?_⟩
        show Q (V.int (((tkN xs : Nat) : Int) * _)) _
        rw [em]
        have := d1 (by omega)
        subst this
        exact q a _ rfl k04.sub Fr.refl sa4
    | false =>
      refine iteF ?_
      obtain ⟨d1, d2, d3⟩ := c2 hlf
      refine ⟨_, rfl, sa4.md rfl ⟨vp, G, S, a, rfl, sa4, wf, fun a2 H5 k5 f5 s5 => ?_⟩⟩
      have k05 := k04.then k5
      have f05 : Fr H [] a2.fp := Fr.trans k04 (fun b hb => .inl hb) f5
      refine ?_
      refine ⟨fun m σ' H' => ∃ j Sj aj, j ≤ tm ∧ m = tm - j ∧ S.runN G ds j = some Sj ∧ SlotsAt (SC K) H' vp G Sj aj ∧ aj.p = a2.p ∧ Kp (TT K) [] H H' ∧ Fr H [] aj.fp ∧ σ' = [some (.ref a.p), some (.ref bb), some (.int tm), some (.int (tkN xs : Nat)), some (.bl true), some (.ref a2.p), some (.int (j : Nat))],
        ⟨tm, 0, S, a2, Nat.zero_le _, rfl, rfl, s5, rfl, k05, f05, rfl⟩, fun m σ1 H6 z => ?_⟩
      obtain ⟨j, Sj, aj, z1, rfl, z2, z3, z4, z5, z6, rfl⟩ := z
      have bj : bb ∉ aj.fp := fun hb => (z6 bb hb).elim (fun z => by cases z) fun z => z albb
      refine ⟨_, rfl, _, rfl, _, _, rfl, rfl, _, rfl, ?_⟩
      by_cases hj : j < tm
      · rw [decide_eq_true (show (j : Int) < (tm : Int) by omega)]
        refine iteT ?_
        refine ⟨_, rfl, bb, xs, rfl, (b.kp z5 (fun z => by cases z)).at.sq', _, _, rfl, rfl, _, rfl, ?_⟩
        rw [decide_eq_true (show (0 : Int) < (xs.length : Int) by omega)]
        refine iteT ⟨fun σ' H' => ∃ Sj aj, S.runN G ds (j + 1) = some Sj ∧ SlotsAt (SC K) H' vp G Sj aj ∧ aj.p = a2.p ∧ Kp (TT K) [] H H' ∧ Fr H [] aj.fp ∧ σ' = [some (.ref a.p), some (.ref bb), some (.int tm), some (.int (tkN xs : Nat)), some (.bl true), some (.ref a2.p), some (.int ((j + 1 : Nat) : Int))],
          fun σ' H' ⟨Sj, aj, y1, y2, y3, y4, y5, y6⟩ => ⟨tm - (j + 1), by omega, j + 1, Sj, aj, by omega, rfl, y1, y2, y3, y4, y5, y6⟩, ?_⟩
        obtain ⟨Sn, hn⟩ := runN_le d1 (j + 1) (by omega)
        have hn' := hn
        rw [SM.runN, z2] at hn'
        refine ⟨_, rfl, _, rfl, _, rfl, vp, G, Sj, Sn, aj, bb, xs, ds, _, by rw [z4]; rfl, z3, wf.runN z2, z5.tab tb, b.kp z5 (fun z => by cases z), bj, hn', fun a' H' e k f s' _ => ?_⟩
        exact ⟨_, rfl, _, _, rfl, rfl, Sn, a', hn, s', e.trans z4, z5.trans k z6, Fr.trans z5 z6 f, rfl⟩
      · rw [decide_eq_false (show ¬ (j : Int) < (tm : Int) by omega)]
        refine iteF ?_
        have ej : j = tm := by omega
        subst ej
        rw [d1] at z2
        cases z2
        have sa6 := sa.keep z5 (fun _ z => by cases z) (fun _ z => by cases z)
        have fd6 : ∀ {f : Str} {v : V} {Q : V → Prop}, NoAttr K (SC K) f → (fsl G aj).lookup f = some v → Q v → ∃ b D dx fs v, V.ref a2.p = .ref b ∧ H6 b = some (.ins D dx fs) ∧ Cls K D ∧ NoAttr K D f ∧ fs.lookup f = some v ∧ Q v := by
          intro f v Q n l qq
          rw [← z4]
          exact z3.fd t.cl n l qq
        refine ⟨_, rfl, sa6.md rfl ⟨_, rfl, fd6 t.a_order f_o ⟨_, rfl, fd6 t.a_ages f_a ⟨_, rfl, z3.mdE z4 rfl ⟨vp, G, S', aj, by rw [z4]; rfl, z3, fun pc H7 k7 nc ec => ?_⟩⟩⟩⟩⟩
        have z7 := z3.keep k7 (fun _ z => by cases z) (fun _ z => by cases z)
        have k07 := z5.then k7
        have sa7 := sa.keep k07 (fun _ z => by cases z) (fun _ z => by cases z)
        obtain ⟨order, o1, o2, o3⟩ := z7.ord
        have ha := z7.ages
        rw [d2] at ha
        refine ⟨vp, G, S, S', a, aj.lo, aj.la, pc, order, rfl, sa7, wf, wf.runN d1, d2, o1, o2, o3, ha, ec, d3, fun a' H' e k f s' => ?_⟩
        refine ⟨_, rfl, _, rfl, _, _, rfl, rfl, .inl ⟨by omega, by omega⟩, ?_⟩
        show Q (V.int (((tkN xs : Nat) : Int) * _)) _
        rw [em]
        exact q a' H' e (k07.sub.then k) (Fr.trans (k07 : Kp (TT K) [] H _) Fr.refl f) s'
end
end Sw
namespace Sw
open PySem PySem.Spec PyProof.Rows L2 LamX
section
variable {P : Program} {w : World} {K : PySem.W.Frag} {mg : Str → Option Value} {base : Heap}
/-! _law_cell_at -/
def spCellAt (K : PySem.W.Frag) : Sp := fun vs H Q _ => ∃ (ls : Addr) (ns : List Int), vs = [.ref ls, .int 0] ∧ SqL K H ls (ns.map V.int) ∧ Q (.int (ns.getD 0 0)) H
theorem sc_cellat : FnScope ["_law_script", "_law_k"] ["_law_script", "_law_k"] d_L_cell_at.scope := ⟨rfl, rfl, rfl, by decide +kernel, rfl, by decide +kernel, by decide +kernel⟩
theorem ok_cellat (t : Tx K mg base) : Cl P w K mg base 1 "_law_cell_at" (spCellAt K) := by
  obtain ⟨fd, F⟩ := t.e_L_cell_at
  refine mkCl (N := ["_law_script", "_law_k"]) (ps := ["_law_script", "_law_k"]) F t.g_L_cell_at (fun _ _ _ _ _ _ us hl => match us, hl with | [_, _], _ => rfl) sc_cellat (fun vs H Q E h => ?_) (fun cdv A outer s H vs Q E hr h => ?_)
  · obtain ⟨_, _, rfl, _⟩ := h
    rfl
  · obtain ⟨ls, ns, rfl, hs, q⟩ := h
    refine ⟨_, pss_cons (ps_if (pt_cmpR op_lt (pv 1) (pe_callB call_len_seq rfl t.b_len (by decide +kernel) (pa_cons (pv 0) pa_nil)) (nomark _)) (pss_one (ps_ret (pe_ix ix_seq (pv 0) (pv 1) fun _ _ => rfl))) pss_nil) (pss_one (ps_ret pe_int)), ?_⟩
    refine ⟨_, rfl, _, rfl, ls, _, rfl, .inl hs, _, _, rfl, rfl, _, rfl, ?_⟩
    rw [List.length_map]
    cases ns with
    | nil =>
      rw [decide_eq_false (by decide)]
      exact iteF q
    | cons n ns =>
      rw [decide_eq_true (by rw [List.length_cons]; omega)]
      refine iteT ⟨_, rfl, _, rfl, .inl ⟨ls, _, (0 : Nat), .int n, rfl, rfl, hs, at_nat rfl, q⟩⟩
/-! _law_state -/
def StAt (H : Hp) (st : Addr) : Prop := ∃ x m k : Int, H st = some (.lst [.int x, .int m, .int k])
def spState0 (T : List (Addr × Str)) : Sp := fun vs H Q _ => ∃ i : Int, vs = [.int i] ∧ ∀ p H', Kp T [] H H' → ¬ Al H p → StAt H' p → Q (.ref p) H'
theorem sc_state0 : FnScope ["_law_cell"] ["_law_cell"] d_L_state.scope := ⟨rfl, rfl, rfl, by decide +kernel, rfl, by decide +kernel, by decide +kernel⟩
theorem ok_state0 (t : Tx K mg base) : Cl P w K mg base 1 "_law_state" (spState0 (TT K)) := by
  obtain ⟨fd, F⟩ := t.e_L_state
  refine mkCl (N := ["_law_cell"]) (ps := ["_law_cell"]) F t.g_L_state (fun _ _ _ _ _ _ us hl => match us, hl with | [_], _ => rfl) sc_state0 (fun vs H Q E h => ?_) (fun cdv A outer s H vs Q E hr h => ?_)
  · obtain ⟨_, rfl, _⟩ := h
    rfl
  · obtain ⟨i, rfl, q⟩ := h
    have nd : (["_law_cell"] : List Str).Nodup := by decide +kernel
    refine ⟨_, pss_cons (ps_set (i := 0) nd rfl (Or.inl rfl) (pe_ifExp (pt_cmpR op_ge (pv 0) pe_int (nomark _)) (pv 0) (pe_op op_sub (pe_op op_sub pe_int (pe_op op_mul pe_int (pv 0))) pe_int)) rfl)
      (pss_one (ps_ret (pe_lst (pa_cons (pe_op op_mul (pv 0) (pe_callTy call_int1 rfl t.b_int (by decide +kernel) (pa_cons (pe_cmpR op_ge (pv 0) (pe_op op_pow pe_int pe_int) rfl) pa_nil)))
        (pa_cons (pe_op op_mod (pe_callTy call_int1 rfl t.b_int (by decide +kernel) (pa_cons (pv 0) pa_nil)) pe_int) (pa_cons pe_int pa_nil)))))), ?_⟩
    have bb : ∀ k : Bool, -(2 ^ 64) < (if k then 1 else 0 : Int) ∧ (if k then 1 else 0 : Int) < 2 ^ 64 := fun k => by cases k <;> decide
    refine ⟨_, rfl, _, _, rfl, rfl, _, rfl, ite2 (fun _ => ⟨_, rfl, ?_⟩) (fun _ => ⟨_, rfl, _, _, rfl, rfl, .inl ⟨by decide, by decide⟩, _, _, rfl, rfl, _, _, rfl, rfl, ?_⟩)⟩
    · refine ⟨_, rfl, _, rfl, _, _, rfl, rfl, ⟨by decide, by decide, by decide⟩, _, _, rfl, rfl, .inr ⟨_, rfl, ?_⟩⟩
      refine ⟨_, _, rfl, rfl, .inr (bb _), _, rfl, .inl ⟨_, rfl, _, _, rfl, rfl, (show (0 : Int) < 2147483629 by decide), ?_⟩⟩
      exact ⟨sz (show 3 ≤ 1000 by decide), fun p hp => q p _ (Kp.new hp fun _ z => by cases z) (nAl hp) ⟨_, _, _, upd_same⟩⟩
    · refine ⟨_, rfl, _, rfl, _, _, rfl, rfl, ⟨by decide, by decide, by decide⟩, _, _, rfl, rfl, .inr ⟨_, rfl, ?_⟩⟩
      refine ⟨_, _, rfl, rfl, .inr (bb _), _, rfl, .inl ⟨_, rfl, _, _, rfl, rfl, (show (0 : Int) < 2147483629 by decide), ?_⟩⟩
      exact ⟨sz (show 3 ≤ 1000 by decide), fun p hp => q p _ (Kp.new hp fun _ z => by cases z) (nAl hp) ⟨_, _, _, upd_same⟩⟩
/-! _law_digit -/
def spDigit (T : List (Addr × Str)) : Sp := fun vs H Q _ => ∃ (st : Addr) (b : Nat), vs = [.ref st, .int b] ∧ StAt H st ∧ 0 < b ∧ b ≤ 1000000000000000000 ∧ ∀ (d : Nat) H', d < b → Kp T [st] H H' → StAt H' st → Q (.int (d : Int)) H'
theorem sc_digit : FnScope ["_law_state_here", "_law_base", "_law_found", "_law_mixed"] ["_law_state_here", "_law_base"] d_L_digit.scope := ⟨rfl, rfl, rfl, by decide +kernel, rfl, by decide +kernel, by decide +kernel⟩
theorem log2_18 {n : Nat} (h : n ≤ 1000000000000000000) : ((n : Int)).natAbs.log2 < 9000 := by
  rw [Int.natAbs_natCast]
  by_cases z : n = 0
  · subst z; decide
  · have := (Nat.log2_lt z (k := 60)).mpr (by omega)
    omega
theorem mod_nat {x : Int} {b : Nat} (h : 0 < b) : ∃ d : Nat, d < b ∧ x % (b : Int) = (d : Int) := by
  have h1 := Int.emod_nonneg x (show (b : Int) ≠ 0 by omega)
  have h2 := Int.emod_lt_of_pos x (show (0 : Int) < (b : Int) by omega)
  exact ⟨(x % (b : Int)).toNat, by omega, by omega⟩
theorem ok_digit (t : Tx K mg base) : Cl P w K mg base 1 "_law_digit" (spDigit (TT K)) := by
  obtain ⟨fd, F⟩ := t.e_L_digit
  refine mkCl (N := ["_law_state_here", "_law_base", "_law_found", "_law_mixed"]) (ps := ["_law_state_here", "_law_base"]) F t.g_L_digit (fun _ _ _ _ _ _ us hl => match us, hl with | [_, _], _ => rfl) sc_digit (fun vs H Q E h => ?_) (fun cdv A outer s H vs Q E hr h => ?_)
  · obtain ⟨_, _, rfl, _⟩ := h
    rfl
  · obtain ⟨st, b, rfl, ⟨x, m, k, hs⟩, b0, b1, q⟩ := h
    have nd : (["_law_state_here", "_law_base", "_law_found", "_law_mixed"] : List Str).Nodup := by decide +kernel
    have ix : ∀ {i : Int}, PE (cxOf L2.CX0 P w K mg base ["_law_state_here", "_law_base", "_law_found", "_law_mixed"] d_L_digit.qual d_L_digit.scope (He.fAd K d_L_digit.at_) cdv A outer s H E).nox (.Name "_law_base" ⟨0, 0, 0, 0⟩) (tVar 1) := pv 1
    refine ⟨_, pss_cons (ps_if (pt_cmpR op_gt (pe_ix ix_seq (pv 0) pe_int fun _ _ => rfl) pe_int (nomark _))
        (pss_cons (ps_set (i := 2) nd rfl (Or.inl rfl) (pe_op op_mod (pe_callTy call_int1 rfl t.b_int (by decide +kernel) (pa_cons (pe_ix ix_seq (pv 0) pe_int fun _ _ => rfl) pa_nil)) (pv 1)) rfl)
        (pss_cons (ps_asg (pe_op op_fdivW (pe_ix ix_seq (pv 0) pe_int fun _ _ => rfl) (pv 1)) (pg_sub (pv 0) pe_int set_list))
        (pss_one (ps_ret (pv 2))))) pss_nil)
      (pss_cons (ps_asg (pe_op op_add (pe_ix ix_seq (pv 0) pe_int fun _ _ => rfl) pe_int) (pg_sub (pv 0) pe_int set_list))
      (pss_cons (ps_set (i := 3) nd rfl (Or.inl rfl) (pe_op op_mod (pe_callTy call_int1 rfl t.b_int (by decide +kernel) (pa_cons (pe_op op_mul (pe_op op_add (pe_op op_add (pe_ix ix_seq (pv 0) pe_int fun _ _ => rfl) (pe_op op_mul pe_int (pe_ix ix_seq (pv 0) pe_int fun _ _ => rfl))) pe_int) pe_int) pa_nil)) pe_int) rfl)
      (pss_cons (ps_set (i := 3) nd rfl (Or.inl rfl) (pe_op op_mod (pe_callTy call_int1 rfl t.b_int (by decide +kernel) (pa_cons (pe_op op_mul (pv 3) (pe_op op_add (pe_op op_fdiv (pv 3) pe_int) pe_int)) pa_nil)) pe_int) rfl)
      (pss_one (ps_ret (pe_op op_mod (pe_callTy call_int1 rfl t.b_int (by decide +kernel) (pa_cons (pe_op op_fdiv (pe_op op_mod (pe_callTy call_int1 rfl t.b_int (by decide +kernel) (pa_cons (pe_op op_mul (pv 3) (pe_op op_add (pe_op op_fdiv (pv 3) pe_int) pe_int)) pa_nil)) pe_int) pe_int) pa_nil)) (pv 1))))))), ?_⟩
    have sm : ∀ (y c : Int), 0 < c → c < 2147483648 → -(2 ^ 64) < y % c ∧ y % c < 2 ^ 64 := fun y c h1 h2 => by
      have := Int.emod_nonneg y (show c ≠ 0 by omega)
      have := Int.emod_lt_of_pos y h1
      omega
    refine ⟨_, rfl, .inl ⟨st, _, (0 : Nat), .int x, rfl, rfl, SqL.of hs, at_nat rfl, ?_⟩⟩
    refine ⟨_, _, rfl, rfl, _, rfl, ite2 (fun _ => ?_) (fun _ => ?_)⟩
    · obtain ⟨d, d1, d2⟩ := mod_nat (x := x) b0
      refine ⟨_, rfl, .inl ⟨st, _, (0 : Nat), .int x, rfl, rfl, SqL.of hs, at_nat rfl, .inl ⟨_, rfl, _, rfl, _, _, rfl, rfl, by omega, ?_⟩⟩⟩
      refine ⟨_, rfl, .inl ⟨st, _, (0 : Nat), .int x, rfl, rfl, SqL.of hs, at_nat rfl, _, rfl, _, _, rfl, rfl, ⟨by omega, log2_18 b1⟩, ?_⟩⟩
      refine ⟨_, rfl, st, _, (0 : Nat), 0, rfl, rfl, hs, rfl, ?_⟩
      refine ⟨_, rfl, ?_⟩
      show Q (V.int (x % (b : Int))) _
      rw [d2]
      exact q d _ d1 (Kp.write hs rfl rfl List.mem_cons_self) ⟨_, _, _, upd_same⟩
    · refine ⟨_, rfl, .inl ⟨st, _, (2 : Nat), .int k, rfl, rfl, SqL.of hs, at_nat rfl, _, _, rfl, rfl, ?_⟩⟩
      refine ⟨_, rfl, st, _, (2 : Nat), 2, rfl, rfl, hs, rfl, ?_⟩
      have hs2 : upd H st (.lst [.int x, .int m, .int (k + 1)]) st = some (.lst [.int x, .int m, .int (k + 1)]) := upd_same
      refine ⟨_, rfl, .inl ⟨st, _, (1 : Nat), .int m, rfl, rfl, SqL.of hs2, at_nat rfl, _, rfl, .inl ⟨st, _, (2 : Nat), .int (k + 1), rfl, rfl, SqL.of hs2, at_nat rfl, ?_⟩⟩⟩
      refine ⟨_, _, rfl, rfl, .inl ⟨by decide, by decide⟩, _, _, rfl, rfl, _, _, rfl, rfl, _, _, rfl, rfl, .inr ⟨by decide, by decide⟩, .inl ⟨_, rfl, _, _, rfl, rfl, (show (0 : Int) < 2147483647 by decide), ?_⟩⟩
      refine ⟨_, rfl, _, rfl, _, _, rfl, rfl, ⟨by decide, by decide⟩, _, _, rfl, rfl, _, _, rfl, rfl, .inl (sm _ _ (by decide) (by decide)), .inl ⟨_, rfl, _, _, rfl, rfl, (show (0 : Int) < 2147483587 by decide), ?_⟩⟩
      refine ⟨_, rfl, _, rfl, _, _, rfl, rfl, ⟨by decide, by decide⟩, _, _, rfl, rfl, _, _, rfl, rfl, .inl (sm _ _ (by decide) (by decide)), .inl ⟨_, rfl, _, _, rfl, rfl, (show (0 : Int) < 2147483399 by decide), ?_⟩⟩
      refine ⟨_, _, rfl, rfl, ⟨by decide, by decide⟩, .inl ⟨_, rfl, _, rfl, _, _, rfl, rfl, by omega, ?_⟩⟩
      show Q (V.int (_ % (b : Int))) _
      obtain ⟨d, d1, d2⟩ := mod_nat (x := ((((((m + 6271 * (k + 1) + 3) * 48271) % 2147483647) * (((m + 6271 * (k + 1) + 3) * 48271) % 2147483647 / 1009 + 69621)) % 2147483587) * (((((m + 6271 * (k + 1) + 3) * 48271) % 2147483647) * (((m + 6271 * (k + 1) + 3) * 48271) % 2147483647 / 1009 + 69621)) % 2147483587 / 2003 + 40692)) % 2147483399 / 7) b0
      have z := q d _ d1 (Kp.write hs rfl rfl List.mem_cons_self) ⟨_, _, _, hs2⟩
      rw [← d2] at z
      exact z
/-! _law_one -/
def spOne (T : List (Addr × Str)) : Sp := fun vs H Q _ => ∃ (st lx : Addr) (xs : List V), vs = [.ref st, .ref lx] ∧ StAt H st ∧ H lx = some (.lst xs) ∧ lx ≠ st ∧ xs ≠ [] ∧ xs.length ≤ 1000 ∧ ∀ (i : Nat) (x : V) H', xs[i]? = some x → Kp T [st] H H' → StAt H' st → Q x H'
theorem sc_one : FnScope ["_law_state_here", "_law_some"] ["_law_state_here", "_law_some"] d_L_one.scope := ⟨rfl, rfl, rfl, by decide +kernel, rfl, by decide +kernel, by decide +kernel⟩
theorem ok_one (t : Tx K mg base) : Cl P w K mg base 2 "_law_one" (spOne (TT K)) := by
  obtain ⟨fd, F⟩ := t.e_L_one
  refine mkCl (N := ["_law_state_here", "_law_some"]) (ps := ["_law_state_here", "_law_some"]) F t.g_L_one (fun _ _ _ _ _ _ us hl => match us, hl with | [_, _], _ => rfl) sc_one (fun vs H Q E h => ?_) (fun cdv A outer s H vs Q E hr h => ?_)
  · obtain ⟨_, _, _, rfl, _⟩ := h
    rfl
  · obtain ⟨st, lx, xs, rfl, hs, hx, hne, h0, hl, q⟩ := h
    refine ⟨_, pss_one (ps_ret (pe_ix ix_seq (pv 1) (pe_c (ok_digit t) hr (Nat.le_refl _) rfl (pa_cons (pv 0) (pa_cons (pe_callB call_len_seq rfl t.b_len (by decide +kernel) (pa_cons (pv 1) pa_nil)) pa_nil))) fun _ _ => rfl)), ?_⟩
    have hl0 : 0 < xs.length := List.length_pos_iff.mpr h0
    refine ⟨_, rfl, _, rfl, _, rfl, lx, xs, rfl, .inl (SqL.of hx), st, xs.length, rfl, hs, hl0, by omega, fun d H' hd k s' => ?_⟩
    refine .inl ⟨lx, xs, d, xs[d], rfl, rfl, SqL.of (k.get hx (by simpa using hne) rfl), at_nat (by simp [hd]), q d _ H' (by simp [hd]) k s'⟩
end
end Sw
namespace Sw
open PySem PySem.Spec PyProof.Rows L2 LamX
theorem pr_mem {α β : Type} {F G : α → β → Prop} : ∀ {l₁ : List α} {l₂ : List β}, (∀ a b, b ∈ l₂ → F a b → G a b) → Paired F l₁ l₂ → Paired G l₁ l₂
  | _, _, _, .nil => .nil
  | _, _, f, .cons h t => .cons (f _ _ List.mem_cons_self h) (pr_mem (fun a b hb => f a b (List.mem_cons_of_mem _ hb)) t)
theorem nkv_nd : ([(Sum.inr "numbers" : Key), Sum.inr "counts", Sum.inr "free", Sum.inr "live"]).Nodup := by decide +kernel
theorem merge_nkv {n : NA} : mergeK [] [(Sum.inr "numbers", .ref n.tn), (Sum.inr "counts", .ref n.lc), (Sum.inr "free", .ref n.lf), (Sum.inr "live", .ref n.lv)] = nkv n := by
  rw [merge_app]
  · rfl
  · exact nkv_nd
section
variable {P : Program} {w : World} {K : PySem.W.Frag} {mg : Str → Option Value} {base : Heap}
/-! _law_notes -/
def spNotes (T : List (Addr × Str)) : Sp := fun vs H Q _ => ∃ (A : Ag) (tn : Addr), vs = [.ref tn] ∧ A.Ok ∧ H tn = some (.tup (agV A)) ∧ ∀ (n : NA) H', n.tn = tn → Kp T [] H H' → Fr H [] n.fp → NotesAt H' [] A (SM.new A.n) n → Q (.ref n.q) H'
theorem sc_notes : FnScope ["_law_numbers"] ["_law_numbers"] d_L_notes.scope := ⟨rfl, rfl, rfl, by decide +kernel, rfl, by decide +kernel, by decide +kernel⟩
theorem ok_notes (t : Tx K mg base) : Cl P w K mg base 1 "_law_notes" (spNotes (TT K)) := by
  obtain ⟨fd, F⟩ := t.e_L_notes
  refine mkCl (N := ["_law_numbers"]) (ps := ["_law_numbers"]) F t.g_L_notes (fun _ _ _ _ _ _ us hl => match us, hl with | [_], _ => rfl) sc_notes (fun vs H Q E h => ?_) (fun cdv A outer s H vs Q E hr h => ?_)
  · obtain ⟨_, _, rfl, _⟩ := h
    rfl
  · obtain ⟨G, tn, rfl, ok, ht, q⟩ := h
    have n6 := ok.n6
    have n1 := ok.ln
    have l1 := ok.l1
    refine ⟨_, pss_one (ps_ret (pe_disp (pps_cons pe_str (pv 0) (pps_cons pe_str (pe_op op_rep (pe_lst (pa_cons pe_int pa_nil)) (pe_ix ix_seq (pv 0) pe_int fun _ _ => rfl))
      (pps_cons pe_str (pe_listRg rfl rfl t.b_list (prg_1 rfl t.b_range (pe_ix ix_seq (pv 0) pe_int fun _ _ => rfl))) (pps_cons pe_str (pe_lst pa_nil) pps_nil)))) (by rfl) (by rfl) (fun z => by cases z) (by decide))), ?_⟩
    refine fun p hp => ?_
    have np : tn ≠ p := ne_of_none ht hp
    have k1 : Kp (TT K) [] H (upd H p (.dK [])) := Kp.new hp fun _ z => by cases z
    have ht1 := k1.t _ _ ht
    refine ⟨_, rfl, sz (show 1 ≤ 1000 by decide), fun lz hz => ?_⟩
    have k2 := k1.then (Kp.new (T := TT K) (fp := []) (o := .lst [.int 0]) hz fun _ z => by cases z)
    refine ⟨_, rfl, .inr (.inl ⟨tn, _, (0 : Nat), .int G.n, rfl, rfl, SqT.of (k2.t _ _ ht), at_nat rfl, ?_⟩)⟩
    refine ⟨lz, G.n, _, rfl, rfl, upd_same, by omega, by omega, sz (by show 1 * _ ≤ 1000; omega), fun lc hlc => ?_⟩
    have k3 := k2.then (Kp.new (T := TT K) (fp := []) (o := .lst (List.replicate (G.n : Int).toNat [V.int 0]).flatten) hlc fun _ z => by cases z)
    refine ⟨_, rfl, .inr (.inl ⟨tn, _, (0 : Nat), .int G.n, rfl, rfl, SqT.of (k3.t _ _ ht), at_nat rfl, ?_⟩)⟩
    refine ⟨_, rfl, .of_le (by decide) (by omega) (by decide) (by omega), fun lf hlf => ?_⟩
    have k4 := k3.then (Kp.new (T := TT K) (fp := []) (o := .lst (rgV 0 (G.n : Int))) hlf fun _ z => by cases z)
    refine ⟨sz (Nat.zero_le _), fun lv hlv => ?_⟩
    have k5 := k4.then (Kp.new (T := TT K) (fp := []) (o := .lst []) hlv fun _ z => by cases z)
    have pz : p ≠ lz := (nn hz).symm
    have pc : p ≠ lc := (nn (upm hlc)).symm
    have pf : p ≠ lf := (nn (upm (upm hlf))).symm
    have pv' : p ≠ lv := (nn (upm (upm (upm hlv)))).symm
    have cf : lc ≠ lf := (nn hlf).symm
    have cv : lc ≠ lv := (nn (upm hlv)).symm
    have fv : lf ≠ lv := (nn hlv).symm
    refine ⟨up pv' (up pf (up pc (up pz upd_same))), [(.inr "numbers", .ref tn), (.inr "counts", .ref lc), (.inr "free", .ref lf), (.inr "live", .ref lv)], rfl, (show 4 ≤ 15 by decide), ?_⟩
    rw [merge_nkv (n := ⟨p, lc, lf, lv, tn⟩)]
    have k6 : Kp (TT K) [] H _ := k5.dst (o' := .dK (nkv ⟨p, lc, lf, lv, tn⟩)) (nAl hp) (up pv' (up pf (up pc (up pz upd_same)))) rfl rfl
    refine q ⟨p, lc, lf, lv, tn⟩ _ rfl k6 ?_ ⟨upd_same, k6.t _ _ ht, ?_, ?_, ⟨[], up pv'.symm upd_same, .nil⟩, cf, cv, fv, fun _ _ z => (by cases z), fun _ z => (by cases z)⟩
    · intro b hb
      simp only [NA.fp, List.mem_cons, List.not_mem_nil, or_false] at hb
      rcases hb with e | e | e | e <;> subst e
      · exact .inr (nAl hp)
      · exact .inr (k2.back (nAl hlc))
      · exact .inr (k3.back (nAl hlf))
      · exact .inr (k4.back (nAl hlv))
    · refine up pc.symm (up cv (up cf ?_))
      rw [upd_same, rep_z]
      rfl
    · refine up pf.symm (up fv ?_)
      rw [upd_same, rg_fr]
      rfl
/-! reads of a notes dict -/
section
variable {H : Hp} {n : NA}
theorem nk_n : valV (nkv n) (.inr "numbers") = some (.ref n.tn) := valV_pos rfl
theorem nk_c : valV (nkv n) (.inr "counts") = some (.ref n.lc) := by
  unfold nkv
  rw [valV_neg (by show ¬ (Sum.inr "numbers" : Key) = (Sum.inr "counts" : Key); decide +kernel)]
  exact valV_pos rfl
theorem nk_f : valV (nkv n) (.inr "free") = some (.ref n.lf) := by
  unfold nkv
  rw [valV_neg (by show ¬ (Sum.inr "numbers" : Key) = (Sum.inr "free" : Key); decide +kernel), valV_neg (by show ¬ (Sum.inr "counts" : Key) = (Sum.inr "free" : Key); decide +kernel)]
  exact valV_pos rfl
theorem nk_l : valV (nkv n) (.inr "live") = some (.ref n.lv) := by
  unfold nkv
  rw [valV_neg (by show ¬ (Sum.inr "numbers" : Key) = (Sum.inr "live" : Key); decide +kernel), valV_neg (by show ¬ (Sum.inr "counts" : Key) = (Sum.inr "live" : Key); decide +kernel), valV_neg (by show ¬ (Sum.inr "free" : Key) = (Sum.inr "live" : Key); decide +kernel)]
  exact valV_pos rfl
theorem gn_n (h : H n.q = some (.dK (nkv n))) : DGet H n.q (.str "numbers") (some (.ref n.tn)) := by
  have := DGet.k (k := .inr "numbers") h
  rw [nk_n] at this
  exact this
theorem gn_c (h : H n.q = some (.dK (nkv n))) : DGet H n.q (.str "counts") (some (.ref n.lc)) := by
  have := DGet.k (k := .inr "counts") h
  rw [nk_c] at this
  exact this
theorem gn_f (h : H n.q = some (.dK (nkv n))) : DGet H n.q (.str "free") (some (.ref n.lf)) := by
  have := DGet.k (k := .inr "free") h
  rw [nk_f] at this
  exact this
theorem gn_l (h : H n.q = some (.dK (nkv n))) : DGet H n.q (.str "live") (some (.ref n.lv)) := by
  have := DGet.k (k := .inr "live") h
  rw [nk_l] at this
  exact this
/-- a read d["k"] -/
theorem dg {a : Addr} {z : Str} {v : V} {R : V → Prop} (g : DGet H a (.str z) (some v)) (r : R v) : ∃ b u, V.ref a = .ref b ∧ DGet H b (.str z) (some u) ∧ R u := ⟨a, v, rfl, g, r⟩
end
/-! _law_taken -/
def spTkn (T : List (Addr × Str)) : Sp := fun vs H Q _ => ∃ (vp : List Addr) (A : Ag) (S : SM) (n : NA) (v : V) (d : PyData) (s : Nat) (f : List Nat), vs = [.ref n.q, v] ∧ NotesAt H vp A S n ∧ Wf A S ∧ S.free = s :: f ∧ Vd vp H v d ∧
  ∀ h H', Kp T n.fp H H' → H' h = some (.tup (hdV A s (cn S.cnt s + 1))) → NotesAt H' vp A (S.take d) n → Q (.ref h) H'
abbrev NT : List Str := ["_law_notes_here", "_law_value", "_law_slot", "_law_handle"]
theorem sc_tkn : FnScope NT ["_law_notes_here", "_law_value"] d_L_taken.scope := ⟨rfl, rfl, rfl, by decide +kernel, rfl, by decide +kernel, by decide +kernel⟩
theorem ok_tkn (t : Tx K mg base) : Cl P w K mg base 1 "_law_taken" (spTkn (TT K)) := by
  obtain ⟨fd, F⟩ := t.e_L_taken
  refine mkCl (N := NT) (ps := ["_law_notes_here", "_law_value"]) F t.g_L_taken (fun _ _ _ _ _ _ us hl => match us, hl with | [_, _], _ => rfl) sc_tkn (fun vs H Q E h => ?_) (fun cdv A outer s H vs Q E hr h => ?_)
  · obtain ⟨_, _, _, _, _, _, _, _, rfl, _⟩ := h
    rfl
  · obtain ⟨vp, G, S, n, v, d, sl, f, rfl, na, wf, hf, hv, q⟩ := h
    have nd : NT.Nodup := by decide +kernel
    refine ⟨_, pss_cons (ps_set (i := 2) nd rfl (Or.inl rfl) (pe_bm PySem.F.plainAttrs_list PySem.F.slot_list_pop PySem.F.type_list_pop mt_popAt (pe_dget (hu_of hr) (pv 0) pe_str (fun _ _ => rfl)) (pa_cons pe_int pa_nil)) rfl)
      (pss_cons (ps_set (i := 3) nd rfl (Or.inl rfl) (pe_tup (pa_cons (pv 2) (pa_cons (pe_op op_mod (pe_callTy call_int1 rfl t.b_int (by decide +kernel) (pa_cons (pe_ix ix_seq (pe_dget (hu_of hr) (pv 0) pe_str (fun _ _ => rfl)) (pv 2) fun _ _ => rfl) pa_nil)) (pe_ix ix_seq (pe_dget (hu_of hr) (pv 0) pe_str (fun _ _ => rfl)) pe_int fun _ _ => rfl)) pa_nil))) rfl)
      (pss_cons (ps_asg (pe_op op_add (pe_ix ix_seq (pe_dget (hu_of hr) (pv 0) pe_str (fun _ _ => rfl)) (pv 2) fun _ _ => rfl) pe_int) (pg_sub (pe_dget (hu_of hr) (pv 0) pe_str (fun _ _ => rfl)) (pv 2) set_list))
      (pss_cons (ps_expr (pe_bm PySem.F.plainAttrs_list PySem.F.slot_list_append PySem.F.type_list_append mt_append (pe_dget (hu_of hr) (pv 0) pe_str (fun _ _ => rfl)) (pa_cons (pe_tup (pa_cons (pv 3) (pa_cons (pv 1) pa_nil))) pa_nil)))
      (pss_one (ps_ret (pv 3)))))), ?_⟩
    have sin : sl ∈ S.free := by rw [hf]; exact List.mem_cons_self
    have slt := wf.lt sin
    have g1 := wf.ok.g1
    have ho := na.ob
    have hfr := na.free
    rw [hf] at hfr
    obtain ⟨ts, hl, hts⟩ := na.live
    have qf : n.q ≠ n.lf := ne_k ho hfr fun z => by cases z
    have qc : n.q ≠ n.lc := ne_k ho na.cnt fun z => by cases z
    have ql : n.q ≠ n.lv := ne_k ho hl fun z => by cases z
    -- pop
    refine ⟨_, rfl, dg (gn_f ho) ⟨.inl ⟨rfl, _, SqL.of hfr⟩, ?_⟩⟩
    refine ⟨n.lf, _, 0, 0, .int sl, rfl, rfl, hfr, by decide, by decide, seqIndex_of (by decide) (by rw [fr_len, List.length_cons]; omega), rfl, ?_⟩
    have ho2 := up (u := .lst ((fr (sl :: f)).eraseIdx 0)) qf ho
    have hc2 := up (u := .lst ((fr (sl :: f)).eraseIdx 0)) na.n1 na.cnt
    have hl2 := up (u := .lst ((fr (sl :: f)).eraseIdx 0)) na.n3.symm hl
    have k2 : Kp (TT K) n.fp H (upd H n.lf (.lst ((fr (sl :: f)).eraseIdx 0))) := Kp.write hfr rfl rfl (by simp [NA.fp])
    have ht2 := k2.t _ _ na.nums
    -- handle
    refine ⟨_, rfl, _, rfl, dg (gn_c ho2) ⟨_, rfl, .inl ⟨n.lc, _, sl, .int (cn S.cnt sl), rfl, rfl, SqL.of hc2, at_nat (by rw [List.getElem?_map, at_cn slt]; rfl), .inl ⟨_, rfl, ?_⟩⟩⟩⟩
    refine ⟨_, rfl, dg (gn_n ho2) (.inr (.inl ⟨n.tn, _, (2 : Nat), .int G.g, rfl, rfl, SqT.of ht2, at_nat rfl, ?_⟩))⟩
    refine ⟨_, _, rfl, rfl, by omega, sz (show 2 ≤ 1000 by decide), fun h hh => ?_⟩
    have k3 := k2.then (Kp.new (T := TT K) (fp := n.fp) (o := .tup [.int (sl : Int), .int (cn S.cnt sl % (G.g : Int))]) hh fun _ z => by cases z)
    have kh : Kp (TT K) [] _ _ := Kp.new (T := TT K) (fp := []) (o := .tup [.int (sl : Int), .int (cn S.cnt sl % (G.g : Int))]) hh fun _ z => by cases z
    have ho3 := kh.get ho2 (fun z => by cases z) rfl
    have hc3 := kh.get hc2 (fun z => by cases z) rfl
    have hl3 := kh.get hl2 (fun z => by cases z) rfl
    -- counts
    refine ⟨_, rfl, dg (gn_c ho3) ⟨_, rfl, .inl ⟨n.lc, _, sl, .int (cn S.cnt sl), rfl, rfl, SqL.of hc3, at_nat (by rw [List.getElem?_map, at_cn slt]; rfl), _, _, rfl, rfl, ?_⟩⟩⟩
    refine ⟨_, rfl, dg (gn_c ho3) ⟨_, rfl, n.lc, _, sl, sl, rfl, rfl, hc3, ix_nat (by rw [List.length_map]; exact slt), ?_⟩⟩
    rw [map_set]
    have ho4 := up (u := .lst ((S.cnt.set sl (cn S.cnt sl + 1)).map V.int)) qc ho3
    have hl4 := up (u := .lst ((S.cnt.set sl (cn S.cnt sl + 1)).map V.int)) na.n2.symm hl3
    have k4 := k3.then (Kp.write (T := TT K) (fp := n.fp) (o' := .lst ((S.cnt.set sl (cn S.cnt sl + 1)).map V.int)) hc3 rfl rfl (by simp [NA.fp]))
    -- live
    refine ⟨_, rfl, dg (gn_l ho4) ⟨.inl ⟨rfl, _, SqL.of hl4⟩, ?_⟩⟩
    refine ⟨_, rfl, _, rfl, sz (show 2 ≤ 1000 by decide), fun tr htr => ?_⟩
    have kt : Kp (TT K) [] _ _ := Kp.new (T := TT K) (fp := []) (o := .tup [.ref h, v]) htr fun _ z => by cases z
    have hl5 := kt.get hl4 (fun z => by cases z) rfl
    have k5 := k4.then kt.sub
    have lts := pr_len hts
    refine ⟨n.lv, _, _, rfl, rfl, hl5, ?_, ?_⟩
    · rw [List.length_map, lts]
      have := wf.lim
      have := wf.ok.ln
      have := wf.ok.n6
      have : (1000 : Nat) < sizeLine := by decide
      omega
    refine ⟨_, rfl, ?_⟩
    have k6 := k5.then (Kp.write (T := TT K) (fp := n.fp) (o' := .lst (ts.map V.ref ++ [V.ref tr])) hl5 rfl rfl (by simp [NA.fp]))
    have kw6 : Kp (TT K) [n.lv] _ _ := Kp.write (T := TT K) (fp := [n.lv]) (o' := .lst (ts.map V.ref ++ [V.ref tr])) hl5 rfl rfl List.mem_cons_self
    have eh : (upd (upd (upd H n.lf (.lst ((fr (sl :: f)).eraseIdx 0))) h (.tup [.int (sl : Int), .int (cn S.cnt sl % (G.g : Int))])) n.lc (.lst ((S.cnt.set sl (cn S.cnt sl + 1)).map V.int))) h = some (.tup (hdV G sl (cn S.cnt sl + 1))) := by
      refine up ?_ ?_
      · intro z
        rw [z] at hh
        rw [hc2] at hh
        cases hh
      · rw [upd_same]
        unfold hdV gen
        rw [Int.add_sub_cancel]
    have eh6 := kw6.t _ _ (kt.t _ _ eh)
    have vk : ∀ {v' d'}, Vd vp H v' d' → Vd vp _ v' d' := fun z => z.keep k6 na.dj
    have ec : (S.take d).cnt = bump S.cnt sl := by rw [take_eq hf]
    have rk : ∀ t p, p ∈ S.live → Row H vp G S.cnt t p → Row _ vp G (bump S.cnt sl) t p := fun t p hp r => by
      obtain ⟨h', v', r1, r2, r3⟩ := r
      have hne : p.1 ≠ sl := fun e => wf.apart sin (by rw [← e]; exact List.mem_map.mpr ⟨p, hp, rfl⟩)
      refine ⟨h', v', k6.t _ _ r1, ?_, vk r3⟩
      rw [cn_bump slt, if_neg hne]
      exact k6.t _ _ r2
    refine q h _ k6 eh6 ?_
    rw [take_eq hf]
    refine ⟨up ql (kt.get ho4 (fun z => by cases z) rfl), k6.t _ _ na.nums, ?_, ?_, ⟨ts ++ [tr], ?_, ?_⟩, na.n1, na.n2, na.n3, na.dj, fun b hb => k6.al b (na.va b hb)⟩
    · refine up na.n2 (kt.get ?_ (fun z => by cases z) rfl)
      exact upd_same
    · refine up na.n3 (kt.get (up na.n1.symm (kh.get ?_ (fun z => by cases z) rfl)) (fun z => by cases z) rfl)
      exact upd_same
    · rw [upd_same, List.map_append]
      rfl
    · refine pr_app ?_ (.cons ⟨h, v, kw6.t _ _ upd_same, ?_, vk hv⟩ .nil)
      · exact pr_mem (fun t p hp r => rk t p hp r) hts
      · rw [cn_bump slt, if_pos rfl]
        exact eh6
end
end Sw
namespace Sw
open PySem PySem.Spec PyProof.Rows L2 LamX
theorem pr_erase {α β : Type} {F : α → β → Prop} : ∀ {l₁ : List α} {l₂ : List β} (m : Nat), Paired F l₁ l₂ → Paired F (l₁.eraseIdx m) (l₂.eraseIdx m)
  | _, _, _, .nil => by simpa using Paired.nil
  | _, _, 0, .cons _ t => by simpa using t
  | _, _, m + 1, .cons h t => by
    rw [List.eraseIdx_cons_succ, List.eraseIdx_cons_succ]
    exact .cons h (pr_erase m t)
theorem erase_take_lt {α : Type} {ts : List α} {m i : Nat} {x : α} (h : ts[i]? = some x) (hm : i ≠ m) : (ts.take (i + 1)).eraseIdx m = (ts.take i).eraseIdx m ++ [x] := by
  have hi := (List.getElem?_eq_some_iff.mp h).1
  rw [List.take_succ, h]
  show (ts.take i ++ [x]).eraseIdx m = _
  by_cases l : m < i
  · rw [List.eraseIdx_append_of_lt_length (by rw [List.length_take]; omega)]
  · have e1 : ([x] : List α).eraseIdx (m - (ts.take i).length) = [x] := List.eraseIdx_of_length_le (by rw [List.length_take]; show 1 ≤ _; omega)
    have e2 : (ts.take i).eraseIdx m = ts.take i := List.eraseIdx_of_length_le (by rw [List.length_take]; omega)
    rw [List.eraseIdx_append_of_length_le (by rw [List.length_take]; omega), e1, e2]
theorem erase_take_eq {α : Type} {ts : List α} {m : Nat} {x : α} (h : ts[m]? = some x) : (ts.take (m + 1)).eraseIdx m = (ts.take m).eraseIdx m := by
  have hi := (List.getElem?_eq_some_iff.mp h).1
  rw [List.take_succ, h]
  show (ts.take m ++ [x]).eraseIdx m = _
  rw [List.eraseIdx_append_of_length_le (by rw [List.length_take]; omega), List.eraseIdx_of_length_le (l := ts.take m) (by rw [List.length_take]; omega)]
  have e : m - (ts.take m).length = 0 := by rw [List.length_take]; omega
  rw [e]
  simp
theorem live_eraseIdx {l1 l2 : List (Nat × PyData)} {p : Nat × PyData} : (l1 ++ p :: l2).eraseIdx l1.length = l1 ++ l2 := by
  rw [List.eraseIdx_append_of_length_le (Nat.le_refl _), Nat.sub_self]
  rfl
section
variable {n : NA} {x : Addr}
theorem pk_l : putK (nkv n) (.inr "live") (.ref x) = nkv { n with lv := x } := by rfl
theorem pk_f : putK (nkv n) (.inr "free") (.ref x) = nkv { n with lf := x } := by rfl
end
theorem hfr2 : ∀ y ∈ ([("_law_slot", NameKind.local), ("_law_notes_here", NameKind.free)] : List (Str × NameKind)), y.2 = .free → d_L_given.scope.names.lookup y.1 = some .cell ∨ d_L_given.scope.names.lookup y.1 = some .free := by decide +kernel
theorem hcl2 : d_L_given.scope.names.lookup ("_law_notes_here" : Str) = some .cell := by decide +kernel
theorem KF2.keeps {P : Program} {w : World} {y z : Str} {cl : List (Str × Addr)} {ns : List Int} {kf : Int → Int} {h h' : Heap} (F : KF2 P w y z cl ns kf h) (k : ∀ b o, h.get? b = some o → h'.get? b = some o) : KF2 P w y z cl ns kf h' := by
  obtain ⟨cy, d, l, vs, its, e1, e2, e6, e7, e3, e4⟩ := F
  obtain ⟨ob, es, ep, a1, a2⟩ := e6
  exact ⟨cy, d, l, vs, its, e1, e2.keeps k, ⟨ob, es, ep, k _ _ a1, a2⟩, e7, e3.at fun o e => k _ o e, e4⟩
section
variable {P : Program} {w : World} {K : PySem.W.Frag} {mg : Str → Option Value} {base : Heap}
def spGvn (T : List (Addr × Str)) : Sp := fun vs H Q _ => ∃ (vp : List Addr) (A : Ag) (S : SM) (n : NA) (h : Addr) (s : Nat) (d : PyData), vs = [.ref n.q, .ref h] ∧ NotesAt H vp A S n ∧ Wf A S ∧ Tabs T H ∧ (s, d) ∈ S.live ∧ H h = some (.tup (hdV A s (cn S.cnt s))) ∧
  ∀ v n' H', n'.q = n.q → n'.tn = n.tn → Kp T n.fp H H' → Fr H n.fp n'.fp → Vd vp H' v d → NotesAt H' vp A (S.give A.r s) n' → Q v H'
abbrev NG : List Str := ["_law_notes_here", "_law_handle", "_law_value", "_law_held", "_law_kept", "_law_row", "_law_free", "_law_rule"]
theorem sc_gvn : FnScope NG ["_law_notes_here", "_law_handle"] d_L_given.scope := ⟨rfl, rfl, rfl, by decide +kernel, rfl, by decide +kernel, by decide +kernel⟩
theorem ok_gvn (t : Tx K mg base) : Cl P w K mg base 1 "_law_given" (spGvn (TT K)) := by
  obtain ⟨fd, F⟩ := t.e_L_given
  refine mkClC (N := NG) (ps := ["_law_notes_here", "_law_handle"]) F t.g_L_given (fun _ _ _ _ _ _ us hl => match us, hl with | [_, _], _ => rfl) sc_gvn (fun vs H Q E h => ?_) (fun A outer s H vs Q E hr h => ?_)
  · obtain ⟨_, _, _, _, _, _, _, rfl, _⟩ := h
    rfl
  · obtain ⟨vp, G, S, n, h, sl, d, rfl, na, wf, tb, hm, hh, q⟩ := h
    have nd : NG.Nodup := by decide +kernel
    refine ⟨_, pss_cons (ps_set (i := 2) nd rfl (Or.inl rfl) (pe_ix ix_seq (pe_lc (own := [("_law_held", 3), ("_law_kept", 4)]) (g := gTup K 2 (gCons (gName 3) (gCons (gName 4) gNil))) rfl nd (pi_list (pe_dget (hu_of hr) (pv 0) pe_str (fun _ _ => rfl))) (blkOk_by (own := [("_law_held", 3), ("_law_kept", 4)]) (N := NG) (sc := d_L_given.scope) (by decide +kernel))
          (fun _ _ _ _ _ => pg_tupK (K := K) rfl rfl (pgs_cons (pg_name (i := 3) nd rfl (Or.inl rfl)) (pgs_cons (pg_name (i := 4) nd rfl (Or.inl rfl)) pgs_nil))) (fun _ _ _ _ _ => pts_one (pt_cmpR (op_eqDK (K := K) rfl hr.units) (pv 3) (pv 1) (nomark _))) (fun _ _ _ _ _ => pv 4)) pe_int fun _ _ => rfl) rfl)
      (pss_cons (ps_dput (hu_of hr) (pv 0) pe_str (pe_lc (own := [("_law_row", 5)]) (g := gName 5) rfl nd (pi_list (pe_dget (hu_of hr) (pv 0) pe_str (fun _ _ => rfl))) (blkOk_by (own := [("_law_row", 5)]) (N := NG) (sc := d_L_given.scope) (by decide +kernel))
          (fun _ _ _ _ _ => pg_name (i := 5) nd rfl (Or.inl rfl)) (fun _ _ _ _ _ => pts_one (pt_cmpR (op_neDK (K := K) rfl hr.units) (pe_ix (ix_seqK (K := K) rfl) (pv 5) pe_int fun _ _ => rfl) (pv 1) (nomark _))) (fun _ _ _ _ _ => pv 5)) rfl)
      (pss_cons (ps_par (i := 6) (j := 7) (by rfl) nd rfl rfl (by decide) rfl rfl (pa_cons (pe_dget (hu_of hr) (pv 0) pe_str (fun _ _ => rfl)) (pa_cons (pe_ix ix_seq (pe_dget (hu_of hr) (pv 0) pe_str (fun _ _ => rfl)) pe_int fun _ _ => rfl) pa_nil)) (by rfl))
      (pss_cons (ps_dput (hu_of hr) (pv 0) pe_str (pe_ifExp (pt_cmpR op_eq (pv 7) pe_str (nomark _)) (pe_op op_cat (pe_lst (pa_cons (pe_ix ix_seq (pv 1) pe_int fun _ _ => rfl) pa_nil)) (pv 6)) (pe_op op_cat (pv 6) (pe_lst (pa_cons (pe_ix ix_seq (pv 1) pe_int fun _ _ => rfl) pa_nil)))) rfl)
      (pss_cons (ps_if (pt_cmpR op_eq (pv 7) pe_str (nomark _)) (pss_one (ps_dput (hu_of hr) (pv 0) pe_str (pe_callB cr_sortedI rfl t.b_sorted (by decide +kernel) (pa_cons (pe_dget (hu_of hr) (pv 0) pe_str (fun _ _ => rfl)) pa_nil)) rfl)) pss_nil)
      (pss_cons (ps_if (pt_cmpR op_eq (pv 7) pe_str (nomark _)) (pss_one (ps_dput (hu_of hr) (pv 0) pe_str
          (pe_sortLam (T := TT K) (KW := KW2 K 0 "counts") (FK := fun ns kf => KF2 P w "_law_notes_here" "counts" _ ns kf) (x := "_law_slot") (j := 0) (by rfl) rfl t.b_sorted (pe_dget (hu_of hr) (pv 0) pe_str (fun _ _ => rfl)) hr (t.tb ("_law_given", none) (by decide +kernel)) rfl (by exact List.mem_cons_of_mem _ List.mem_cons_self)
          (tab_u2 t) (by rfl) ⟨by rfl, by rfl, by rfl, by decide +kernel, by decide +kernel⟩ (by exact hfr2) (fun _ _ _ _ _ _ => by rfl) (fun ns kf h h' F k => F.keeps k) (fun pins σ H H2 s s2 ns kf I kw e I2 => kf2_of (y := "_law_notes_here") rfl (by exact hcl2) (by decide +kernel) (by exact hfr2) kw e I2)
          (fun A L f c' h h₁ tk tk1 ns kf n t s hn F k hns => body2 ⟨by rfl, by decide +kernel, by decide +kernel⟩ (by decide) (by decide) (by decide) L f c' h h₁ tk tk1 n t s hn F k hns)) rfl)) pss_nil)
      (pss_one (ps_ret (pv 2)))))))), ?_⟩
    obtain ⟨l1, l2, el, n1, n2⟩ := live_split wf hm
    have lm : sl ∈ S.live.map (·.1) := List.mem_map.mpr ⟨_, hm, rfl⟩
    have ho := na.ob
    obtain ⟨ts, hv, hts⟩ := na.live
    have lts : ts.length = S.live.length := pr_len hts
    have bnd : S.live.length ≤ 6 := by
      have := wf.lim
      have := wf.ok.ln
      have := wf.ok.n6
      omega
    have hp0 : S.live[l1.length]? = some (sl, d) := by rw [el]; simp
    obtain ⟨t0, ht0, h0, v0, r1, r2, r3⟩ := pr_at hts hp0
    have hne : ∀ i p, S.live[i]? = some p → i ≠ l1.length → p.1 ≠ sl := by
      intro i p hi hn e
      have a1 : (S.live.map (·.1))[i]? = some sl := by rw [List.getElem?_map, hi]; exact congrArg some e
      have a2 : (S.live.map (·.1))[l1.length]? = some sl := by rw [List.getElem?_map, hp0]; rfl
      exact hn (nd_ix wf.live_nd a1 a2)
    have eqh : ∀ (c c' : Int) (s' : Nat), PyData.eqv (Tp [(s' : Int), c]) (Tp [(sl : Int), c']) = true → s' = sl := by
      intro c c' s' e
      rw [eqv_Tp] at e
      have := of_decide_eq_true e
      injection this with a b
      exact Int.ofNat.inj a
    -- value
    refine ⟨_, rfl, dg (gn_l ho) ⟨n.lv, rfl, ⟨_, SqL.of hv⟩, fun D hD => ?_⟩⟩
    refine lcL (T := TT K) (fun i acc H' => (i ≤ l1.length → acc = []) ∧ (l1.length < i → acc = [v0])) (fun H' k => SqL.kp hv k) (by rw [List.length_map]; omega) hD (fun _ _ _ _ r _ => r) ⟨fun _ => rfl, fun z => absurd z (Nat.not_lt_zero _)⟩ (fun i x acc H' N M hx k hd r n' m => ?_) fun H1 acc k1 hd1 hl1 r => ?_
    · rw [List.getElem?_map] at hx
      cases hi : ts[i]? with
      | none => rw [hi] at hx; cases hx
      | some ti =>
        rw [hi] at hx
        cases hx
        obtain ⟨p, hp, hi', vi, q1, q2, q3⟩ := pr_at1 hts hi
        refine ⟨ti, _, rfl, SqT.kp q1 k, rfl, _, _, rfl, _, _, rfl, rfl, rfl, ?_⟩
        refine ⟨_, rfl, _, rfl, Tp [(p.1 : Int), gen G (cn S.cnt p.1)], Tp [(sl : Int), gen G (cn S.cnt sl)], dp_Tp (k.t _ _ q2), dp_Tp (k.t _ _ hh), sh_Tp, sh_Tp, _, rfl, ?_⟩
        by_cases e : i = l1.length
        · subst e
          rw [hp0] at hp
          cases hp
          rw [ht0] at hi
          cases hi
          rw [r1] at q1
          cases q1
          rw [eqv_Tp, decide_eq_true rfl]
          refine iteT ⟨_, rfl, n' _ _ Kp.refl ⟨fun z => absurd z (by omega), fun _ => ?_⟩⟩
          rw [r.1 (Nat.le_refl _)]
          rfl
        · have hb : PyData.eqv (Tp [(p.1 : Int), gen G (cn S.cnt p.1)]) (Tp [(sl : Int), gen G (cn S.cnt sl)]) = false := by
            cases z : PyData.eqv (Tp [(p.1 : Int), gen G (cn S.cnt p.1)]) (Tp [(sl : Int), gen G (cn S.cnt sl)]) with
            | false => rfl
            | true => exact absurd (eqh _ _ _ z) (hne i p hp e)
          rw [hb]
          refine iteF (m _ Kp.refl ⟨fun z => r.1 (by omega), fun z => r.2 (by omega)⟩)
    have hacc : acc = [v0] := r.2 (by rw [List.length_map, lts, el, List.length_append, List.length_cons]; omega)
    subst hacc
    refine .inl ⟨D, _, (0 : Nat), v0, rfl, rfl, SqL.of hd1, at_nat rfl, ?_⟩
    have na1 := na.keep k1 (fun _ z => by cases z) (fun _ z => by cases z)
    have ho1 := na1.ob
    have hv1 := k1.get hv (fun z => by cases z) rfl
    -- live
    refine ⟨_, rfl, dg (gn_l ho1) ⟨n.lv, rfl, ⟨_, SqL.of hv1⟩, fun D2 hD2 => ?_⟩⟩
    refine lcL (T := TT K) (fun i acc H' => acc = ((ts.take i).eraseIdx l1.length).map V.ref) (fun H' k => SqL.kp hv1 k) (by rw [List.length_map]; omega) hD2 (fun _ _ _ _ r _ => r) rfl (fun i x acc H' N M hx k hd r n' m => ?_) fun H2 acc k2 hd2 hl2 r2' => ?_
    · rw [List.getElem?_map] at hx
      cases hi : ts[i]? with
      | none => rw [hi] at hx; cases hx
      | some ti =>
        rw [hi] at hx
        cases hx
        obtain ⟨p, hp, hi', vi, q1, q2, q3⟩ := pr_at1 hts hi
        have kk := k1.then k
        refine ⟨rfl, ?_⟩
        refine ⟨_, rfl, .inr (.inl ⟨ti, _, (0 : Nat), .ref hi', rfl, rfl, SqT.kp q1 kk, at_nat rfl, ?_⟩)⟩
        refine ⟨_, rfl, Tp [(p.1 : Int), gen G (cn S.cnt p.1)], Tp [(sl : Int), gen G (cn S.cnt sl)], dp_Tp (kk.t _ _ q2), dp_Tp (kk.t _ _ hh), sh_Tp, sh_Tp, _, rfl, ?_⟩
        by_cases e : i = l1.length
        · subst e
          rw [hp0] at hp
          cases hp
          rw [eqv_Tp, decide_eq_true rfl]
          refine iteF (m _ Kp.refl ?_)
          rw [r, erase_take_eq hi]
        · have hb : PyData.eqv (Tp [(p.1 : Int), gen G (cn S.cnt p.1)]) (Tp [(sl : Int), gen G (cn S.cnt sl)]) = false := by
            cases z : PyData.eqv (Tp [(p.1 : Int), gen G (cn S.cnt p.1)]) (Tp [(sl : Int), gen G (cn S.cnt sl)]) with
            | false => rfl
            | true => exact absurd (eqh _ _ _ z) (hne i p hp e)
          rw [hb]
          refine iteT ⟨_, rfl, n' _ _ Kp.refl ?_⟩
          rw [r, erase_take_lt hi e, List.map_append]
          rfl
    have hacc2 : acc = (ts.eraseIdx l1.length).map V.ref := by rw [r2', List.length_map, List.take_length]
    subst hacc2
    have k12 := k1.then k2
    have ho2 := k2.get ho1 (fun z => by cases z) rfl
    have fD2 : ¬ Al H D2 := k1.back (nAl hD2)
    refine ⟨_, rfl, n.q, _, rfl, DPut.k (k := .inr "live") ho2 (Nat.lt_of_le_of_lt (show 4 ≤ 1000 by decide) (by decide)), ?_⟩
    rw [pk_l]
    have m0 : n.q ∈ n.fp := by simp [NA.fp]
    have k3 : Kp (TT K) n.fp H (upd H2 n.q (.dK (nkv { n with lv := D2 }))) := k12.sub.then (Kp.write ho2 rfl rfl m0)
    have qD2 : D2 ≠ n.q := fun z => fD2 (z ▸ Al.d ho)
    have qf : n.lf ≠ n.q := ne_k na.free ho fun z => by cases z
    have qc : n.lc ≠ n.q := ne_k na.cnt ho fun z => by cases z
    have hf3 := up (u := .dK (nkv { n with lv := D2 })) qf (k12.get na.free (fun z => by cases z) rfl)
    have hc3 := up (u := .dK (nkv { n with lv := D2 })) qc (k12.get na.cnt (fun z => by cases z) rfl)
    have hd3 := up (u := .dK (nkv { n with lv := D2 })) qD2 hd2
    have ob3 : (upd H2 n.q (.dK (nkv { n with lv := D2 }))) ({ n with lv := D2 } : NA).q = some (.dK (nkv { n with lv := D2 })) := upd_same
    -- free, rule
    refine ⟨_, rfl, dg (gn_f (n := { n with lv := D2 }) ob3) ⟨_, rfl, dg (gn_n (n := { n with lv := D2 }) ob3) (.inr (.inl ⟨n.tn, _, (3 : Nat), .str G.r.s, rfl, rfl, SqT.of (k3.t _ _ na.nums), at_nat rfl, ?_⟩))⟩⟩
    refine ⟨_, _, rfl, ?_⟩
    have aD2 : Al (upd H2 n.q (.dK (nkv { n with lv := D2 }))) D2 := Al.l hd3
    have fin : ∀ pf H5, Kp (TT K) n.fp H H5 → ¬ Al H pf → pf ≠ D2 → H5 n.q = some (.dK (nkv { n with lv := D2, lf := pf })) → H5 n.lc = some (.lst (S.cnt.map V.int)) → H5 pf = some (.lst (fr (insF G.r S.cnt sl S.free))) →
        H5 D2 = some (.lst ((ts.eraseIdx l1.length).map V.ref)) → Q v0 H5 := by
      intro pf H5 k5 nf fd e1 e2 e3 e4
      refine q v0 { n with lv := D2, lf := pf } H5 rfl rfl k5 ?_ (r3.keep k5 na.dj) ?_
      · intro b hb
        simp only [NA.fp, List.mem_cons, List.not_mem_nil, or_false] at hb
        rcases hb with e | e | e | e <;> subst e
        · exact .inl m0
        · exact .inl (by simp [NA.fp])
        · exact .inr nf
        · exact .inr fD2
      · rw [give_eq el n1 n2]
        have cD2 : n.lc ≠ D2 := fun z => fD2 (z ▸ Al.l na.cnt)
        have cpf : n.lc ≠ pf := fun z => nf (z ▸ Al.l na.cnt)
        refine ⟨e1, k5.t _ _ na.nums, e2, e3, ⟨ts.eraseIdx l1.length, e4, ?_⟩, cpf, cD2, fd, ?_, fun b hb => k5.al b (na.va b hb)⟩
        · have z := pr_erase l1.length hts
          rw [el, live_eraseIdx] at z
          exact Paired.imp z fun _ _ r => r.keep k5 na.dj
        · intro b hb hv
          have al := na.va b hv
          simp only [NA.fp, List.mem_cons, List.not_mem_nil, or_false] at hb
          rcases hb with e | e | e | e <;> subst e
          · exact na.dj _ m0 hv
          · exact na.dj _ (by simp [NA.fp]) hv
          · exact nf al
          · exact fD2 al
    have bf : S.free.length ≤ 6 := by
      have := wf.count
      have := wf.ok.n6
      omega
    have hh3 := k3.t _ _ hh
    refine ⟨_, rfl, rfl, _, rfl, ite2 (fun hr' => ?_) (fun hr' => ?_)⟩
    · have er : G.r = .last := rl_yes (r' := .last) hr'
      refine ⟨_, rfl, .inr (.inl ⟨h, _, (0 : Nat), .int sl, rfl, rfl, SqT.of hh3, at_nat rfl, sz (show 1 ≤ 1000 by decide), fun p1 hp1 => ?_⟩)⟩
      have kp1 : Kp (TT K) [] (upd H2 n.q (.dK (nkv { n with lv := D2 }))) (upd (upd H2 n.q (.dK (nkv { n with lv := D2 }))) p1 (.lst [.int (sl : Int)])) := Kp.new hp1 fun _ z => by cases z
      refine ⟨_, rfl, p1, n.lf, _, _, rfl, rfl, upd_same, kp1.get hf3 (fun z => by cases z) rfl, by rw [fr_len]; exact sz (by show 1 + _ ≤ 1000; omega), fun p2 hp2 => ?_⟩
      have kp2 := kp1.then (Kp.new (T := TT K) (fp := []) (o := .lst ([V.int (sl : Int)] ++ fr S.free)) hp2 fun _ z => by cases z)
      have ob4 := kp2.get ob3 (fun z => by cases z) rfl
      refine ⟨_, rfl, n.q, _, rfl, DPut.k (k := .inr "free") ob4 (Nat.lt_of_le_of_lt (show 4 ≤ 1000 by decide) (by decide)), ?_⟩
      rw [pk_f]
      have nf : ¬ Al H p2 := (k3.then kp1.sub).back (nAl hp2)
      have q2 : p2 ≠ n.q := fun z => nf (z ▸ Al.d ho)
      have hD : p2 ≠ D2 := fun z => nAl hp2 (z ▸ kp1.al _ aD2)
      have n1' : Rl.s G.r ≠ Rl.s .lowest := by rw [er]; decide +kernel
      refine ⟨_, rfl, rfl, _, rfl, ite2 (fun z => absurd (rl_yes (r' := .lowest) z) (by rw [er]; decide)) fun _ => ?_⟩
      refine ⟨_, rfl, rfl, _, rfl, ite2 (fun z => absurd (rl_yes (r' := .least) z) (by rw [er]; decide)) fun _ => ?_⟩
      refine ⟨_, rfl, fin p2 _ ((k3.then kp2.sub).then (Kp.write ob4 rfl rfl m0)) nf hD upd_same (up qc (kp2.get hc3 (fun z => by cases z) rfl)) ?_ (up qD2 (kp2.get hd3 (fun z => by cases z) rfl))⟩
      refine up q2 ?_
      rw [upd_same, er]
      rfl
    · have er : G.r ≠ .last := rl_no (r' := .last) hr'
      refine ⟨_, rfl, _, rfl, .inr (.inl ⟨h, _, (0 : Nat), .int sl, rfl, rfl, SqT.of hh3, at_nat rfl, sz (show 1 ≤ 1000 by decide), fun p1 hp1 => ?_⟩)⟩
      have kp1 : Kp (TT K) [] (upd H2 n.q (.dK (nkv { n with lv := D2 }))) (upd (upd H2 n.q (.dK (nkv { n with lv := D2 }))) p1 (.lst [.int (sl : Int)])) := Kp.new hp1 fun _ z => by cases z
      refine ⟨n.lf, p1, _, _, rfl, rfl, kp1.get hf3 (fun z => by cases z) rfl, upd_same, by rw [fr_len]; exact sz (by show _ + 1 ≤ 1000; omega), fun p2 hp2 => ?_⟩
      have kp2 := kp1.then (Kp.new (T := TT K) (fp := []) (o := .lst (fr S.free ++ [V.int (sl : Int)])) hp2 fun _ z => by cases z)
      have ob4 := kp2.get ob3 (fun z => by cases z) rfl
      refine ⟨_, rfl, n.q, _, rfl, DPut.k (k := .inr "free") ob4 (Nat.lt_of_le_of_lt (show 4 ≤ 1000 by decide) (by decide)), ?_⟩
      rw [pk_f]
      have nf : ¬ Al H p2 := (k3.then kp1.sub).back (nAl hp2)
      have q2 : p2 ≠ n.q := fun z => nf (z ▸ Al.d ho)
      have hD : p2 ≠ D2 := fun z => nAl hp2 (z ▸ kp1.al _ aD2)
      have k5 := (k3.then kp2.sub).then (Kp.write (T := TT K) (fp := n.fp) (o' := .dK (nkv { n with lv := D2, lf := p2 })) ob4 rfl rfl m0)
      have hc5 := up (u := .dK (nkv { n with lv := D2, lf := p2 })) qc (kp2.get hc3 (fun z => by cases z) rfl)
      have hd5 := up (u := .dK (nkv { n with lv := D2, lf := p2 })) qD2 (kp2.get hd3 (fun z => by cases z) rfl)
      have eo : fr S.free ++ [V.int (sl : Int)] = fr (ordB G.r S.free sl) := by
        unfold ordB
        rw [if_neg er]
        exact fr_snoc.symm
      have hp5 : (upd (upd (upd (upd H2 n.q (.dK (nkv { n with lv := D2 }))) p1 (.lst [.int (sl : Int)])) p2 (.lst (fr S.free ++ [V.int (sl : Int)]))) n.q (.dK (nkv { n with lv := D2, lf := p2 }))) p2 = some (.lst (fr (ordB G.r S.free sl))) := by
        rw [← eo]
        exact up q2 upd_same
      have ob5 : (upd (upd (upd (upd H2 n.q (.dK (nkv { n with lv := D2 }))) p1 (.lst [.int (sl : Int)])) p2 (.lst (fr S.free ++ [V.int (sl : Int)]))) n.q (.dK (nkv { n with lv := D2, lf := p2 }))) n.q = some (.dK (nkv { n with lv := D2, lf := p2 })) := upd_same
      have hap : sl ∉ S.free := wf.apart' lm
      have ndI : (insF G.r S.cnt sl S.free).Nodup := insF_perm.nodup_iff.mpr (List.nodup_cons.mpr ⟨hap, wf.free_nd⟩)
      have orI : Ord G.r S.cnt (insF G.r S.cnt sl S.free) := insF_ord hap wf.ord
      have pmI : (ordB G.r S.free sl).Perm (insF G.r S.cnt sl S.free) := ordB_perm (List.Perm.refl _)
      have ltI : ∀ s ∈ insF G.r S.cnt sl S.free, s < S.cnt.length := fun s hs => by
        rcases List.mem_cons.mp (insF_perm.mem_iff.mp hs) with e | e
        · rw [e]; exact wf.lt' lm
        · exact wf.lt e
      have hcl : S.cnt.length ≤ 6 := by rw [wf.len]; exact wf.ok.n6
      refine ⟨_, rfl, rfl, _, rfl, ite2 (fun hr2 => ?_) (fun hr2 => ?_)⟩
      · have er2 : G.r = .lowest := rl_yes (r' := .lowest) hr2
        refine ⟨_, rfl, dg (gn_f (n := { n with lv := D2, lf := p2 }) ob5) ⟨p2, nI (ordB G.r S.free sl), rfl, SqL.of (by rw [← fr_nI]; exact hp5), fun ns' p3 pm om hp3 => ?_⟩⟩
        have k6 : Kp (TT K) [] _ _ := Kp.new (T := TT K) (fp := []) (o := .lst (ns'.map V.int)) hp3 fun _ z => by cases z
        have ob6 := k6.get ob5 (fun z => by cases z) rfl
        refine ⟨_, rfl, n.q, _, rfl, DPut.k (k := .inr "free") ob6 (Nat.lt_of_le_of_lt (show 4 ≤ 1000 by decide) (by decide)), ?_⟩
        rw [pk_f]
        have nf3 : ¬ Al H p3 := k5.back (nAl hp3)
        have q3 : p3 ≠ n.q := fun z => nf3 (z ▸ Al.d ho)
        refine ⟨_, rfl, rfl, _, rfl, ite2 (fun z => absurd (rl_yes (r' := .least) z) (by rw [er2]; decide)) fun _ => ?_⟩
        refine ⟨_, rfl, fin p3 _ ((k5.then k6.sub).then (Kp.write ob6 rfl rfl m0)) nf3 (fun z => nAl hp3 (by rw [z]; exact Al.l hd5)) upd_same (up qc (k6.get hc5 (fun z => by cases z) rfl)) ?_ (up qD2 (k6.get hd5 (fun z => by cases z) rfl))⟩
        refine up q3 ?_
        have orL : Ord .lowest S.cnt (insF G.r S.cnt sl S.free) := by rw [← er2]; exact orI
        rw [upd_same, sort_lowest pmI ndI orL pm om, ← fr_nI]
      · have er2 : G.r ≠ .lowest := rl_no (r' := .lowest) hr2
        refine ⟨_, rfl, rfl, _, rfl, ite2 (fun hr3 => ?_) (fun hr3 => ?_)⟩
        · have er3 : G.r = .least := rl_yes (r' := .least) hr3
          refine ⟨_, rfl, dg (gn_f (n := { n with lv := D2, lf := p2 }) ob5) ⟨p2, nI (ordB G.r S.free sl), fun z => cn S.cnt z.toNat, rfl, SqL.of (by rw [← fr_nI]; exact hp5), ⟨n.q, n.lc, _, S.cnt, rfl, ob5, nk_c (n := { n with lv := D2, lf := p2 }), hc5, fun z hz => ?_⟩, k5.tab tb, fun p3 H6 eN T2 hp3 => ?_⟩⟩
          · obtain ⟨s, hs, rfl⟩ := List.mem_map.mp hz
            have l := ltI s (pmI.mem_iff.mp hs)
            exact ⟨by omega, by omega, by rw [Int.toNat_natCast]; exact at_cn l⟩
          · have ke : Kp (TT K) [] _ H6 := Kp.ext eN T2
            have k6 := ke.then (Kp.new (T := TT K) (fp := []) (o := .lst (((nI (ordB G.r S.free sl)).mergeSort (leK fun z => cn S.cnt z.toNat)).map V.int)) hp3 fun _ z => by cases z)
            have ob6 := k6.get ob5 (fun z => by cases z) rfl
            refine ⟨_, rfl, n.q, _, rfl, DPut.k (k := .inr "free") ob6 (Nat.lt_of_le_of_lt (show 4 ≤ 1000 by decide) (by decide)), ?_⟩
            rw [pk_f]
            have nf3 : ¬ Al H p3 := (k5.then ke.sub).back (nAl hp3)
            have q3 : p3 ≠ n.q := fun z => nf3 (z ▸ Al.d ho)
            refine ⟨_, rfl, fin p3 _ ((k5.then k6.sub).then (Kp.write ob6 rfl rfl m0)) nf3 (fun z => nAl hp3 (by rw [z]; exact ke.al _ (Al.l hd5))) upd_same (up qc (k6.get hc5 (fun z => by cases z) rfl)) ?_ (up qD2 (k6.get hd5 (fun z => by cases z) rfl))⟩
            refine up q3 ?_
            have orL : Ord .least S.cnt (insF G.r S.cnt sl S.free) := by rw [← er3]; exact orI
            rw [upd_same, sort_least pmI ndI orL _ (fun s hs => by rw [Int.toNat_natCast]), ← fr_nI]
        · have er3 : G.r ≠ .least := rl_no (r' := .least) hr3
          have eI : ordB G.r S.free sl = insF G.r S.cnt sl S.free := ordB_eq fun z => z.elim er2 er3
          refine ⟨_, rfl, fin p2 _ k5 nf hD ob5 hc5 ?_ hd5⟩
          rw [hp5, eI]
end
end Sw
namespace Sw
open PySem PySem.Spec PyProof.Rows L2 LamX
/-- the live handles as data -/
def HD (A : Ag) (cnt : List Int) (l : List Nat) : List PyData := l.map fun (s : Nat) => Tp [(s : Int), gen A (cn cnt s)]
theorem lay_HD {A : Ag} {cnt : List Int} : ∀ l : List Nat, PyData.canLayAll0 (HD A cnt l) = true
  | [] => by unfold HD; simp [PyData.canLayAll0]
  | s :: l => by
    have ih := lay_HD (A := A) (cnt := cnt) l
    unfold HD at ih ⊢
    simp only [List.map_cons, PyData.canLayAll0, Bool.and_eq_true]
    exact ⟨cl_Tp, ih⟩
theorem dep_HD {A : Ag} {cnt : List Int} : ∀ l : List Nat, PyData.depthAll (HD A cnt l) ≤ 1
  | [] => by unfold HD; simp [PyData.depthAll]
  | s :: l => by
    have ih := dep_HD (A := A) (cnt := cnt) l
    unfold HD at ih ⊢
    simp only [List.map_cons, PyData.depthAll, de_Tp]
    omega
theorem sh_HD {A : Ag} {cnt : List Int} {l : List Nat} : SeqAt.shaped (.list (HD A cnt l)) = true := by
  unfold SeqAt.shaped
  have h1 := lay_HD (A := A) (cnt := cnt) l
  have h2 := dep_HD (A := A) (cnt := cnt) l
  rw [Bool.and_eq_true]
  refine ⟨by simp only [PyData.canLay0]; exact h1, decide_eq_true ?_⟩
  simp only [PyData.depth]
  omega
theorem dp_HD {K : PySem.W.Frag} {H : Hp} {A : Ag} {cnt : List Int} : ∀ {hs : List Addr} {l : List Nat}, Hds H A cnt hs l → DpAll K H (hs.map V.ref) (HD A cnt l)
  | _, _, .nil => .nil
  | _, _, .cons h t => .cons (dp_Tp h) (dp_HD t)
theorem eqv_sh {d : PyData} (h : SeqAt.shaped d = true) : PyData.eqv d d = true := SeqAt.eqv_refl d (SeqAt.canLay_of_shaped h)
section
variable {P : Program} {w : World} {K : PySem.W.Frag} {mg : Str → Option Value} {base : Heap}
theorem Tx.fnget (t : Tx K mg base) : ∀ f, PySem.W.findIn K (.ref (SC K)) "__getitem__" = some (some (.ref f)) → PySem.W.fnIn K f = true := by
  intro f hf
  have e := t.ex
  unfold exB at e
  simp only [Bool.and_eq_true, decide_eq_true_eq] at e
  have e4 := e.1.1.1.1.1.1.1.2
  have m := t.m_getitem.at_
  rw [m] at hf
  injection hf with hf
  injection hf with hf
  injection hf with hf
  rw [← hf]
  exact e4
/-! _law_as_noted -/
def spNoted (T : List (Addr × Str)) (C : Addr) : Sp := fun vs H Q _ => ∃ (vp : List Addr) (A : Ag) (S : SM) (a : SA) (n : NA), vs = [.ref a.p, .ref n.q] ∧ SlotsAt C H vp A S a ∧ NotesAt H vp A S n ∧ Wf A S ∧ Tabs T H ∧ ∀ H', Kp T [] H H' → Q (.bl true) H'
abbrev NN : List Str := ["_law_slots", "_law_notes_here", "_law_handle", "_law_value"]
theorem sc_noted : FnScope NN ["_law_slots", "_law_notes_here"] d_L_as_noted.scope := ⟨rfl, rfl, rfl, by decide +kernel, rfl, by decide +kernel, by decide +kernel⟩
theorem ok_noted (t : Tx K mg base) : Cl P w K mg base 6 "_law_as_noted" (spNoted (TT K) (SC K)) := by
  obtain ⟨fd, F⟩ := t.e_L_as_noted
  refine mkCl (N := NN) (ps := ["_law_slots", "_law_notes_here"]) F t.g_L_as_noted (fun _ _ _ _ _ _ us hl => match us, hl with | [_, _], _ => rfl) sc_noted (fun vs H Q E h => ?_) (fun cdv A outer s H vs Q E hr h => ?_)
  · obtain ⟨_, _, _, _, _, rfl, _⟩ := h
    rfl
  · obtain ⟨vp, G, S, a, n, rfl, sa, na, wf, tb, q⟩ := h
    have nd : NN.Nodup := by decide +kernel
    refine ⟨_, pss_cons (ps_if (PW.pt (pw_or (pt_cmpR (op_neD hr.units) (pe_mt0 (ok_counts t) hr (by decide) (pv 0)) (pe_dget (hu_of hr) (pv 1) pe_str (fun _ _ => rfl)) rfl)
        (pw_or (pt_cmpR (op_neD hr.units) (pe_mt0 (ok_free t) hr (by decide) (pv 0)) (pe_dget (hu_of hr) (pv 1) pe_str (fun _ _ => rfl)) rfl)
        (pw_or1 (pt_cmpR op_ne (pe_callB (call_lenOwn (ok_len t) (hr.mono (by decide))) rfl t.b_len (by decide +kernel) (pa_cons (pv 0) pa_nil)) (pe_callB call_len_seq rfl t.b_len (by decide +kernel) (pa_cons (pe_dget (hu_of hr) (pv 1) pe_str (fun _ _ => rfl)) pa_nil)) (nomark _)))))) (pss_one ps_never) pss_nil)
      (pss_cons (ps_if (pt_cmpR (op_neD hr.units) (pe_mt0 (ok_live t) hr (by decide) (pv 0))
          (pe_lc (own := [("_law_handle", 2), ("_law_value", 3)]) (g := gTup K 2 (gCons (gName 2) (gCons (gName 3) gNil))) (tt := tYes) rfl nd (pi_list (pe_dget (hu_of hr) (pv 1) pe_str (fun _ _ => rfl))) (blkOk_by (own := [("_law_handle", 2), ("_law_value", 3)]) (N := NN) (sc := d_L_as_noted.scope) (by decide +kernel))
            (fun _ _ _ _ _ => pg_tupK (K := K) rfl rfl (pgs_cons (pg_name (i := 2) nd rfl (Or.inl rfl)) (pgs_cons (pg_name (i := 3) nd rfl (Or.inl rfl)) pgs_nil))) (fun _ _ _ _ _ => pts_nil) (fun _ _ _ _ _ => pv 2)) rfl) (pss_one ps_never) pss_nil)
      (pss_cons (ps_if (pt_cmpR (op_neD hr.units) (pe_tup (pa_cons (pe_fld (pv 0) rfl) (pa_cons (pe_fld (pv 0) rfl) (pa_cons (pe_fld (pv 0) rfl) (pa_cons (pe_fld (pv 0) rfl) pa_nil))))) (pe_dget (hu_of hr) (pv 1) pe_str (fun _ _ => rfl)) rfl) (pss_one ps_never) pss_nil)
      (pss_one (ps_ret (pe_cmpR (op_eqD hr.units)
          (pe_lc (own := [("_law_handle", 2), ("_law_value", 3)]) (g := gTup K 2 (gCons (gName 2) (gCons (gName 3) gNil))) rfl nd (pi_list (pe_dget (hu_of hr) (pv 1) pe_str (fun _ _ => rfl))) (blkOk_by (own := [("_law_handle", 2), ("_law_value", 3)]) (N := NN) (sc := d_L_as_noted.scope) (by decide +kernel))
            (fun _ _ _ _ _ => pg_tupK (K := K) rfl rfl (pgs_cons (pg_name (i := 2) nd rfl (Or.inl rfl)) (pgs_cons (pg_name (i := 3) nd rfl (Or.inl rfl)) pgs_nil)))
            (fun _ _ _ _ _ => pts_one (pt_cmpR (op_neDK (K := K) rfl hr.units) (pe_ixOwn (ok_getit t) t.fnget hr (pv 0) (pv 2) (by with_unfolding_all (intros; rfl))) (pv 3) (nomark _))) (fun _ _ _ _ _ => pv 2)) (pe_lst pa_nil) rfl))))), ?_⟩
    obtain ⟨ts, hv, hts⟩ := na.live
    have lts : ts.length = S.live.length := pr_len hts
    have bnd : S.live.length ≤ 6 := by
      have := wf.lim
      have := wf.ok.ln
      have := wf.ok.n6
      omega
    -- counts
    refine ⟨_, rfl, sa.md rfl ⟨vp, G, S, a, rfl, sa, fun p1 H1 k1 _ e1 => ?_⟩⟩
    have na1 := na.keep k1 (fun _ z => by cases z) (fun _ z => by cases z)
    have sa1 := sa.keep k1 (fun _ z => by cases z) (fun _ z => by cases z)
    refine ⟨_, rfl, dg (gn_c na1.ob) ⟨_, _, dp_Lp e1, dp_Lp na1.cnt, sh_Lp, sh_Lp, false, by rw [eqv_Lp, decide_eq_true rfl]; rfl, iteF ?_⟩⟩
    -- free
    refine ⟨_, rfl, sa1.md rfl ⟨vp, G, S, a, rfl, sa1, wf, k1.tab tb, fun p2 H2 k2 _ e2 => ?_⟩⟩
    have na2 := na1.keep k2 (fun _ z => by cases z) (fun _ z => by cases z)
    have sa2 := sa1.keep k2 (fun _ z => by cases z) (fun _ z => by cases z)
    refine ⟨_, rfl, dg (gn_f na2.ob) ⟨_, _, dp_Lf e2, dp_Lf na2.free, sh_Lp, sh_Lp, false, by rw [eqv_Lp, decide_eq_true rfl]; rfl, iteF ?_⟩⟩
    -- len
    have k12 := k1.then k2
    obtain ⟨dx, ho⟩ := sa2.ob
    have hv2 := k12.get hv (fun z => by cases z) rfl
    refine ⟨_, rfl, a.p, dx, _, rfl, ho, vp, G, S, a, rfl, sa2, S.live.length, rfl, by omega, ?_⟩
    refine ⟨_, rfl, dg (gn_l na2.ob) ⟨n.lv, _, rfl, .inl (SqL.of hv2), rfl, false, ?_, iteF ?_⟩⟩
    · rw [List.length_map, lts, decide_eq_true rfl]
      rfl
    -- live
    refine ⟨_, rfl, sa2.md rfl ⟨vp, G, S, a, rfl, sa2, wf, fun p3 hs H3 k3 _ e3 hds => ?_⟩⟩
    have na3 := na2.keep k3 (fun _ z => by cases z) (fun _ z => by cases z)
    have sa3 := sa2.keep k3 (fun _ z => by cases z) (fun _ z => by cases z)
    have k13 := k12.then k3
    have hv3 := k13.get hv (fun z => by cases z) rfl
    refine ⟨_, rfl, dg (gn_l na3.ob) ⟨n.lv, rfl, ⟨_, SqL.of hv3⟩, fun D hD => ?_⟩⟩
    refine lcL (T := TT K) (fun i acc H' => ∃ hs, acc = hs.map V.ref ∧ Hds H' G S.cnt hs ((S.live.map (·.1)).take i)) (fun H' k => SqL.kp hv3 k) (by rw [List.length_map]; omega) hD (fun _ _ _ _ r k => r.imp fun hs z => ⟨z.1, z.2.kp k⟩) ⟨[], rfl, .nil⟩ (fun i x acc H' N M hx k hd r n' m => ?_) fun H4 acc k4 hd4 hl4 r => ?_
    · rw [List.getElem?_map] at hx
      cases hi : ts[i]? with
      | none => rw [hi] at hx; cases hx
      | some ti =>
        rw [hi] at hx
        cases hx
        obtain ⟨p, hp, hi', vi, q1, q2, q3⟩ := pr_at1 hts hi
        obtain ⟨hs, r1, r2⟩ := r
        have kk := k13.then k
        refine ⟨ti, _, rfl, SqT.kp q1 kk, rfl, _, _, rfl, _, _, rfl, rfl, rfl, it1 (B := M H') ⟨_, rfl, n' _ _ Kp.refl ⟨hs ++ [hi'], by rw [r1, List.map_append]; rfl, ?_⟩⟩⟩
        rw [List.take_succ, List.getElem?_map, hp]
        exact pr_app r2 (.cons (kk.t _ _ q2) .nil)
    obtain ⟨hs2, r1, r2⟩ := r
    subst r1
    rw [List.length_map, lts, List.take_of_length_le (by rw [List.length_map]; exact Nat.le_refl _)] at r2
    have k14 := k13.then k4
    have d3 : Dp K H4 (.ref p3) (.list (HD G S.cnt (S.live.map (·.1)))) := .lst (SqL.kp e3 k4) (dp_HD (hds.kp k4))
    have d4 : Dp K H4 (.ref D) (.list (HD G S.cnt (S.live.map (·.1)))) := .lst (SqL.of hd4) (dp_HD r2)
    refine ⟨_, _, d3, d4, sh_HD, sh_HD, false, by rw [eqv_sh sh_HD]; rfl, iteF ?_⟩
    have na4 := na3.keep k4 (fun _ z => by cases z) (fun _ z => by cases z)
    have sa4 := sa3.keep k4 (fun _ z => by cases z) (fun _ z => by cases z)
    -- numbers
    refine ⟨_, rfl, sa4.fd t.cl t.a_n f_n ⟨_, rfl, sa4.fd t.cl t.a_limit f_lim ⟨_, rfl, sa4.fd t.cl t.a_generations f_g ⟨_, rfl, sa4.fd t.cl t.a_rule f_r ⟨sz (show 4 ≤ 1000 by decide), fun p5 hp5 => ?_⟩⟩⟩⟩⟩
    have k5 : Kp (TT K) [] H4 (upd H4 p5 (.tup (agV G))) := Kp.new hp5 fun _ z => by cases z
    have na5 := na4.keep k5 (fun _ z => by cases z) (fun _ z => by cases z)
    have sa5 := sa4.keep k5 (fun _ z => by cases z) (fun _ z => by cases z)
    refine ⟨_, rfl, dg (gn_n na5.ob) ⟨_, _, dp_ag upd_same, dp_ag na5.nums, sh_ag, sh_ag, false, by rw [eqv_sh sh_ag]; rfl, iteF ?_⟩⟩
    -- values
    have k15 := k14.then k5
    have hv5 := k15.get hv (fun z => by cases z) rfl
    refine ⟨_, rfl, dg (gn_l na5.ob) ⟨n.lv, rfl, ⟨_, SqL.of hv5⟩, fun D2 hD2 => ?_⟩⟩
    refine lcL (T := TT K) (fun i acc H' => acc = []) (fun H' k => SqL.kp hv5 k) (by rw [List.length_map]; omega) hD2 (fun _ _ _ _ r _ => r) rfl (fun i x acc H' N M hx k hd r n' m => ?_) fun H6 acc k6 hd6 hl6 r => ?_
    · rw [List.getElem?_map] at hx
      cases hi : ts[i]? with
      | none => rw [hi] at hx; cases hx
      | some ti =>
        rw [hi] at hx
        cases hx
        obtain ⟨p, hp, hi', vi, q1, q2, q3⟩ := pr_at1 hts hi
        have kk := k15.then k
        have sa6 := sa5.keep k (fun _ z => by cases z) (fun _ z => by cases z)
        obtain ⟨dx6, ho6⟩ := sa6.ob
        refine ⟨ti, _, rfl, SqT.kp q1 kk, rfl, _, _, rfl, _, _, rfl, rfl, rfl, ?_⟩
        refine ⟨_, rfl, _, rfl, a.p, dx6, _, rfl, ho6, vp, G, S, a, hi', p.1, p.2, rfl, sa6, wf, List.mem_of_getElem? hp, kk.t _ _ q2, fun v H7 k7 hv7 => ?_⟩
        refine ⟨_, rfl, p.2, p.2, hv7.dp, ?_, hv7.shaped, hv7.shaped, false, by rw [eqv_sh hv7.shaped]; rfl, iteF (m _ k7 r)⟩
        exact (q3.keep (kk.then k7) (fun _ z => by cases z)).dp
    · subst r
      refine ⟨sz (Nat.zero_le _), fun p7 hp7 => ?_⟩
      have k7 : Kp (TT K) [] H6 (upd H6 p7 (.lst [])) := Kp.new hp7 fun _ z => by cases z
      have e6 : upd H6 p7 (.lst []) D2 = some (.lst (([] : List Int).map V.int)) := k7.get hd6 (fun z => by cases z) rfl
      refine ⟨Lp [], Lp [], dp_Lp e6, dp_Lp (ns := []) upd_same, sh_Lp, sh_Lp, ?_⟩
      rw [eqv_Lp, decide_eq_true rfl]
      exact q _ (k15.then (k6.then k7))
end
end Sw
namespace Sw
open PySem PySem.Spec PyProof.Rows L2 LamX
def B4 (b : Bool) : PyData := .list [.bool b, .bool b, .bool b, .bool b]
theorem sh_B4 {b : Bool} : SeqAt.shaped (B4 b) = true := by
  unfold SeqAt.shaped B4
  cases b <;> simp [PyData.canLay0, PyData.canLayAll0, PyData.depth, PyData.depthAll]
theorem dp_B4 {K : PySem.W.Frag} {H : Hp} {p : Addr} {b : Bool} (h : H p = some (.lst [.bl b, .bl b, .bl b, .bl b])) : Dp K H (.ref p) (B4 b) := .lst (SqL.of h) (.cons (.bl _) (.cons (.bl _) (.cons (.bl _) (.cons (.bl _) .nil))))
section
variable {P : Program} {w : World} {K : PySem.W.Frag} {mg : Str → Option Value} {base : Heap}
theorem Tx.noF (t : Tx K mg base) : PySem.W.notFirst K (SC K) (.ref (SC K)) = true := by
  have e := t.ex
  unfold exB at e
  simp only [Bool.and_eq_true, decide_eq_true_eq] at e
  exact e.1.1.1.1.1.1.1.1.2
theorem Tx.mro (t : Tx K mg base) : PySem.W.mroIn K (SC K) (.type "object") = some true := t.insC.hm
theorem Tx.neO (t : Tx K mg base) : PySem.W.findIn K (.ref (SC K)) "__ne__" = some (some (.builtin "object.__ne__")) := by
  have e := t.ex
  unfold exB at e
  simp only [Bool.and_eq_true, decide_eq_true_eq] at e
  exact He.eqO_ok e.1.1.1.1.1.2
def spAre (T : List (Addr × Str)) (C : Addr) : Sp := fun vs H Q _ => ∃ (vp : List Addr) (A : Ag) (S S2 : SM) (a b : SA), vs = [.ref a.p, .ref b.p, .bl (decide (S.cnt = S2.cnt))] ∧ SlotsAt C H vp A S a ∧ SlotsAt C H vp A S2 b ∧ Wf A S ∧ Wf A S2 ∧ Tabs T H ∧ (S.cnt = S2.cnt → S = S2) ∧
  ∀ H', Kp T [] H H' → Q (.bl true) H'
abbrev NA3 : List Str := ["_law_one_here", "_law_other", "_law_due"]
theorem sc_are : FnScope NA3 ["_law_one_here", "_law_other", "_law_due"] d_L_are.scope := ⟨rfl, rfl, rfl, by decide +kernel, rfl, by decide +kernel, by decide +kernel⟩
theorem ok_are (t : Tx K mg base) : Cl P w K mg base 7 "_law_are" (spAre (TT K) (SC K)) := by
  obtain ⟨fd, F⟩ := t.e_L_are
  refine mkCl (N := NA3) (ps := ["_law_one_here", "_law_other", "_law_due"]) F t.g_L_are (fun _ _ _ _ _ _ us hl => match us, hl with | [_, _, _], _ => rfl) sc_are (fun vs H Q E h => ?_) (fun cdv A outer s H vs Q E hr h => ?_)
  · obtain ⟨_, _, _, _, _, _, rfl, _⟩ := h
    rfl
  · obtain ⟨vp, G, S, S2, a, b, rfl, sa, sb, wf, wf2, tb, hS, q⟩ := h
    refine ⟨_, pss_one (ps_ret (pe_cmpR (op_eqD hr.units) (pe_lst (pa_cons (pe_cmpR (op_eqOwn (ok_eq t) t.noF (hr.mono (by decide))) (pv 0) (pv 1) rfl) (pa_cons (pe_cmpR (op_eqOwn (ok_eq t) t.noF (hr.mono (by decide))) (pv 1) (pv 0) rfl)
      (pa_cons (pe_not (pe_cmpR (op_neOwn (ok_eq t) t.mro t.neO hr) (pv 0) (pv 1) rfl)) (pa_cons (pe_not (pe_cmpR (op_neOwn (ok_eq t) t.mro t.neO hr) (pv 1) (pv 0) rfl)) pa_nil))))) (pe_op op_rep (pe_lst (pa_cons (pv 2) pa_nil)) pe_int) rfl)), ?_⟩
    have sym : decide (S2.cnt = S.cnt) = decide (S.cnt = S2.cnt) := by
      by_cases e : S.cnt = S2.cnt
      · rw [decide_eq_true e, decide_eq_true e.symm]
      · rw [decide_eq_false e, decide_eq_false fun z => e z.symm]
    have hS2 : S2.cnt = S.cnt → S2 = S := fun z => (hS z.symm).symm
    obtain ⟨dx, ha⟩ := sa.ob
    obtain ⟨dy, hb⟩ := sb.ob
    refine ⟨_, rfl, _, rfl, a.p, dx, _, b.p, dy, _, rfl, rfl, ha, hb, vp, G, S, S2, a, b, rfl, sa, sb, wf, wf2, tb, hS, fun H1 k1 => ⟨_, rfl, ?_⟩⟩
    have sa1 := sa.keep k1 (fun _ z => by cases z) (fun _ z => by cases z)
    have sb1 := sb.keep k1 (fun _ z => by cases z) (fun _ z => by cases z)
    refine ⟨_, rfl, _, rfl, b.p, dy, _, a.p, dx, _, rfl, rfl, k1.get hb (fun z => by cases z) rfl, k1.get ha (fun z => by cases z) rfl, vp, G, S2, S, b, a, rfl, sb1, sa1, wf2, wf, k1.tab tb, hS2, fun H2 k2 => ⟨_, rfl, ?_⟩⟩
    rw [sym]
    have k12 := k1.then k2
    have sa2 := sa.keep k12 (fun _ z => by cases z) (fun _ z => by cases z)
    have sb2 := sb.keep k12 (fun _ z => by cases z) (fun _ z => by cases z)
    refine ⟨_, rfl, _, rfl, a.p, dx, _, b.p, dy, _, rfl, rfl, k12.get ha (fun z => by cases z) rfl, k12.get hb (fun z => by cases z) rfl, vp, G, S, S2, a, b, rfl, sa2, sb2, wf, wf2, k12.tab tb, hS, fun H3 k3 => ⟨_, rfl, _, rfl, ?_⟩⟩
    have k13 := k12.then k3
    have sa3 := sa.keep k13 (fun _ z => by cases z) (fun _ z => by cases z)
    have sb3 := sb.keep k13 (fun _ z => by cases z) (fun _ z => by cases z)
    refine ⟨_, rfl, _, rfl, b.p, dy, _, a.p, dx, _, rfl, rfl, k13.get hb (fun z => by cases z) rfl, k13.get ha (fun z => by cases z) rfl, vp, G, S2, S, b, a, rfl, sb3, sa3, wf2, wf, k13.tab tb, hS2, fun H4 k4 => ⟨_, rfl, _, rfl, ?_⟩⟩
    rw [sym, Bool.not_not]
    have k14 := k13.then k4
    refine ⟨sz (show 4 ≤ 1000 by decide), fun p1 hp1 => ?_⟩
    have k5 : Kp (TT K) [] H4 (upd H4 p1 (.lst [.bl (decide (S.cnt = S2.cnt)), .bl (decide (S.cnt = S2.cnt)), .bl (decide (S.cnt = S2.cnt)), .bl (decide (S.cnt = S2.cnt))])) := Kp.new hp1 fun _ z => by cases z
    refine ⟨_, rfl, sz (show 1 ≤ 1000 by decide), fun p2 hp2 => ?_⟩
    have k6 := k5.then (Kp.new (T := TT K) (fp := []) (o := .lst [.bl (decide (S.cnt = S2.cnt))]) hp2 fun _ z => by cases z)
    refine ⟨p2, 4, _, rfl, rfl, upd_same, by decide, by decide, sz (show 1 * 4 ≤ 1000 by decide), fun p3 hp3 => ?_⟩
    have k7 := k6.then (Kp.new (T := TT K) (fp := []) (o := .lst (List.replicate (4 : Int).toNat [V.bl (decide (S.cnt = S2.cnt))]).flatten) hp3 fun _ z => by cases z)
    have e1 := up (u := .lst (List.replicate (4 : Int).toNat [V.bl (decide (S.cnt = S2.cnt))]).flatten) (ne_of_none (up (u := .lst [.bl (decide (S.cnt = S2.cnt))]) (ne_of_none upd_same hp2) (upd_same (H := H4) (a := p1))) hp3) (up (u := .lst [.bl (decide (S.cnt = S2.cnt))]) (ne_of_none upd_same hp2) (upd_same (H := H4) (a := p1) (o := .lst [.bl (decide (S.cnt = S2.cnt)), .bl (decide (S.cnt = S2.cnt)), .bl (decide (S.cnt = S2.cnt)), .bl (decide (S.cnt = S2.cnt))])))
    refine ⟨B4 (decide (S.cnt = S2.cnt)), B4 (decide (S.cnt = S2.cnt)), dp_B4 e1, dp_B4 upd_same, sh_B4, sh_B4, ?_⟩
    rw [eqv_sh sh_B4]
    exact q _ (k14.then k7)
end
end Sw
namespace Sw
open PySem PySem.Spec PyProof.Rows L2 LamX
/-! a map with its notes -/
structure PA where
  a : SA
  n : NA
def PA.fp (p : PA) : List Addr := p.a.fp ++ p.n.fp
structure PairAt (C : Addr) (H : Hp) (vp : List Addr) (A : Ag) (S : SM) (p : PA) : Prop where
  s : SlotsAt C H vp A S p.a
  n : NotesAt H vp A S p.n
  dj : Dj p.a.fp p.n.fp
/-- what a step leaves -/
structure Stp (T : List (Addr × Str)) (H H' : Hp) (fp fp' vp vp' : List Addr) : Prop where
  kp : Kp T fp H H'
  fr : Fr H fp fp'
  vr : Fr H vp vp'
  vs : ∀ b ∈ vp, b ∈ vp'
section
variable {T : List (Addr × Str)} {C : Addr} {H H1 H2 H' : Hp} {vp vp' vp2 fp fp1 fp2 : List Addr} {A : Ag} {S : SM} {p : PA} {d : PyData} {s : Nat}
theorem Dj.app {l l1 l2 : List Addr} (h : Dj l l1) (h' : Dj l l2) : Dj l (l1 ++ l2) := fun b hb z => (List.mem_append.mp z).elim (h b hb) (h' b hb)
theorem Dj.nil {l : List Addr} : Dj [] l := fun b hb => by cases hb
theorem Dj.one {b : Addr} {l : List Addr} (h : b ∉ l) : Dj [b] l := fun c hc => by rw [List.mem_singleton.mp hc]; exact h
theorem Dj.left {l l1 l2 : List Addr} (h : Dj l (l1 ++ l2)) : Dj l l1 := fun b hb z => h b hb (List.mem_append_left _ z)
theorem Dj.right {l l1 l2 : List Addr} (h : Dj l (l1 ++ l2)) : Dj l l2 := fun b hb z => h b hb (List.mem_append_right _ z)
theorem Dj.appL {l l1 l2 : List Addr} (h : Dj l1 l) (h' : Dj l2 l) : Dj (l1 ++ l2) l := fun b hb => (List.mem_append.mp hb).elim (h b) (h' b)
theorem Dj.subL {l l1 l2 : List Addr} (h : Dj l l2) (m : ∀ b ∈ l1, b ∈ l) : Dj l1 l2 := fun b hb => h b (m b hb)
theorem Fr.app {l l' m m' : List Addr} (f : Fr H l l') (g : Fr H m m') : Fr H (l ++ m) (l' ++ m') := fun b hb => (List.mem_append.mp hb).elim (fun z => (f b z).imp (List.mem_append_left _) id) fun z => (g b z).imp (List.mem_append_right _) id
theorem PA.a_in (b : Addr) (h : b ∈ p.a.fp) : b ∈ p.fp := List.mem_append_left _ h
theorem PA.n_in (b : Addr) (h : b ∈ p.n.fp) : b ∈ p.fp := List.mem_append_right _ h
theorem PairAt.al (P : PairAt C H vp A S p) : ∀ b ∈ p.fp, Al H b := fun b hb => (List.mem_append.mp hb).elim (P.s.al b) (P.n.al b)
theorem PairAt.va (P : PairAt C H vp A S p) : ∀ b ∈ vp, Al H b := P.s.va
theorem PairAt.dv (P : PairAt C H vp A S p) : Dj p.fp vp := Dj.appL P.s.dj P.n.dj
theorem PairAt.keep (P : PairAt C H vp A S p) (k : Kp T fp H H') (d1 : Dj fp p.fp) (d2 : Dj fp vp) : PairAt C H' vp A S p := ⟨P.s.keep k d1.left d2, P.n.keep k d1.right d2, P.dj⟩
theorem PairAt.keep0 (P : PairAt C H vp A S p) (k : Kp T [] H H') : PairAt C H' vp A S p := P.keep k Dj.nil Dj.nil
theorem PairAt.pool (P : PairAt C H vp A S p) (m : ∀ b ∈ vp, b ∈ vp') (d : Dj p.fp vp') (va : ∀ b ∈ vp', Al H b) : PairAt C H vp' A S p :=
  ⟨P.s.pool m (d.subL PA.a_in) va, P.n.pool m (d.subL PA.n_in) va, P.dj⟩
/-- another pair stands through a step of this one -/
theorem PairAt.stp {S' : SM} {q : PA} {A' : Ag} (P : PairAt C H vp A S q) (st : Stp T H H' fp fp2 vp vp') (d1 : Dj fp q.fp) (d2 : Dj fp vp) (va : ∀ b ∈ vp', Al H' b) : PairAt C H' vp' A S q :=
  (P.keep st.kp d1 d2).pool st.vs (fun b hb hv => (st.vr b hv).elim (P.dv b hb) fun z => z (P.al b hb)) va
theorem Stp.refl : Stp T H H fp fp vp vp := ⟨Kp.refl, Fr.refl, Fr.refl, fun _ h => h⟩
theorem Stp.trans (s1 : Stp T H H1 fp fp1 vp vp') (s2 : Stp T H1 H2 fp1 fp2 vp' vp2) : Stp T H H2 fp fp2 vp vp2 :=
  ⟨s1.kp.trans s2.kp s1.fr, Fr.trans s1.kp s1.fr s2.fr, Fr.trans s1.kp s1.vr s2.vr, fun b hb => s2.vs b (s1.vs b hb)⟩
/-- only new things -/
theorem Stp.of0 (k : Kp T [] H H') : Stp T H H' fp fp vp vp := ⟨k.sub, Fr.refl, Fr.refl, fun _ h => h⟩
theorem Stp.ofK (k : Kp T fp H H') : Stp T H H' fp fp vp vp := ⟨k, Fr.refl, Fr.refl, fun _ h => h⟩
/-- take in both -/
theorem PairAt.taken1 (P : PairAt C H vp A S p) (k : Kp T p.a.fp H H1) : NotesAt H1 vp A S p.n := P.n.keep k P.dj P.s.dj
theorem PairAt.taken2 (P : PairAt C H vp A S p) (s1 : SlotsAt C H1 vp A (S.take d) p.a) (k2 : Kp T p.n.fp H1 H2) (n2 : NotesAt H2 vp A (S.take d) p.n) : PairAt C H2 vp A (S.take d) p :=
  ⟨s1.keep k2 P.dj.symm P.n.dj, n2, P.dj⟩
theorem PairAt.taken3 (k1 : Kp T p.a.fp H H1) (k2 : Kp T p.n.fp H1 H2) : Kp T p.fp H H2 := (k1.mono PA.a_in).then (k2.mono PA.n_in)
/-- give in both -/
theorem PairAt.given2 {a' : SA} {n' : NA} {S' : SM} (P : PairAt C H vp A S p) (k1 : Kp T p.a.fp H H1) (f1 : Fr H p.a.fp a'.fp) (s1 : SlotsAt C H1 vp A S' a') (k2 : Kp T p.n.fp H1 H2) (f2 : Fr H1 p.n.fp n'.fp) (n2 : NotesAt H2 vp A S' n') :
    PairAt C H2 vp A S' ⟨a', n'⟩ := by
  have d1 : Dj a'.fp p.n.fp := Dj.fresh P.dj f1 P.n.al
  exact ⟨s1.keep k2 d1.symm P.n.dj, n2, (Dj.fresh d1.symm f2 s1.al).symm⟩
theorem PairAt.given3 {a' : SA} {n' : NA} (k1 : Kp T p.a.fp H H1) (f1 : Fr H p.a.fp a'.fp) (k2 : Kp T p.n.fp H1 H2) (f2 : Fr H1 p.n.fp n'.fp) : Stp T H H2 p.fp (PA.fp ⟨a', n'⟩) vp vp :=
  ⟨PairAt.taken3 k1 k2, Fr.app f1 fun b hb => (f2 b hb).imp id k1.back, Fr.refl, fun _ h => h⟩
end
/-! takes and gives, plainly -/
def SM.takes (S : SM) : Nat → SM
  | 0 => S
  | k + 1 => (SM.takes S k).take (Lp [(k : Int)])
def SM.gives (r : Rl) (S : SM) : List Nat → SM
  | [] => S
  | s :: l => SM.gives r (S.give r s) l
def SM.rnd (r : Rl) (S : SM) (k : Nat) : SM := (S.takes k).gives r (S.free.take k).reverse
structure TkOk (S S' : SM) (k : Nat) : Prop where
  free : S'.free = S.free.drop k
  live : ∃ new, S'.live = S.live ++ new ∧ new.map (·.1) = S.free.take k
  len : S'.cnt.length = S.cnt.length
  cnt : ∀ s, cn S'.cnt s = cn S.cnt s + if s ∈ S.free.take k then 1 else 0
theorem takes_ok {A : Ag} {S : SM} (w : Wf A S) : ∀ {k : Nat}, k ≤ S.free.length → S.live.length + k ≤ A.lim → TkOk S (S.takes k) k ∧ Wf A (S.takes k)
  | 0, _, _ => ⟨⟨rfl, ⟨[], by simp [SM.takes], rfl⟩, rfl, fun s => by simp [SM.takes]⟩, w⟩
  | k + 1, h1, h2 => by
    obtain ⟨t, w'⟩ := takes_ok w (k := k) (by omega) (by omega)
    have hk : k < S.free.length := by omega
    have e : (S.takes k).free = S.free[k] :: S.free.drop (k + 1) := by rw [t.free, List.drop_eq_getElem_cons hk]
    obtain ⟨new, n1, n2⟩ := t.live
    have nl : new.length = k := by
      have := congrArg List.length n2
      rw [List.length_map, List.length_take] at this
      omega
    have hl : (S.takes k).live.length < A.lim := by rw [n1, List.length_append, nl]; omega
    have et : S.takes (k + 1) = ⟨bump (S.takes k).cnt S.free[k], S.free.drop (k + 1), (S.takes k).live ++ [(S.free[k], Lp [(k : Int)])]⟩ := take_eq e
    have sl : S.free[k] < (S.takes k).cnt.length := w'.lt (by rw [e]; exact List.mem_cons_self)
    have hni : S.free[k] ∉ S.free.take k := by
      intro z
      obtain ⟨j, hj⟩ := List.getElem?_of_mem z
      rw [List.getElem?_take] at hj
      split at hj
      · exact absurd (nd_ix w.free_nd hj (show S.free[k]? = some S.free[k] by simp)) (by omega)
      · cases hj
    have tk : S.free.take (k + 1) = S.free.take k ++ [S.free[k]] := by rw [List.take_succ, List.getElem?_eq_getElem hk]; rfl
    refine ⟨⟨by rw [et], ⟨new ++ [(S.free[k], Lp [(k : Int)])], by rw [et, n1, List.append_assoc], ?_⟩, by rw [et]; exact bump_len.trans t.len, fun s => ?_⟩, ?_⟩
    · rw [List.map_append, n2, tk]
      rfl
    · rw [et]
      show cn (bump (S.takes k).cnt S.free[k]) s = _
      rw [cn_bump sl, tk]
      by_cases hs : s = S.free[k]
      · rw [if_pos hs, hs, t.cnt, if_neg hni, if_pos (List.mem_append_right _ (List.mem_singleton.mpr rfl))]
        omega
      · rw [if_neg hs, t.cnt]
        by_cases hm : s ∈ S.free.take k
        · rw [if_pos hm, if_pos (List.mem_append_left _ hm)]
        · rw [if_neg hm, if_neg]
          intro z
          rcases List.mem_append.mp z with z | z
          · exact hm z
          · exact hs (List.mem_singleton.mp z)
    · exact w'.take e hl
theorem gives_app {r : Rl} : ∀ {l l' : List Nat} {S : SM}, S.gives r (l ++ l') = (S.gives r l).gives r l'
  | [], _, _ => rfl
  | _ :: l, _, _ => gives_app (l := l)
theorem gives_cnt {r : Rl} : ∀ {l : List Nat} {S : SM}, (S.gives r l).cnt = S.cnt
  | [], _ => rfl
  | s :: l, S => gives_cnt (l := l) (S := S.give r s)
theorem gives_live {r : Rl} : ∀ {l : List Nat} {S : SM}, (S.gives r l).live = S.live.filter fun p => decide (p.1 ∉ l)
  | [], S => by
    unfold SM.gives
    rw [List.filter_eq_self.mpr]
    intro a _
    simp
  | s :: l, S => by
    rw [SM.gives, gives_live (l := l)]
    show (S.live.filter fun p => p.1 != s).filter _ = _
    rw [List.filter_filter]
    refine List.filter_congr fun p _ => ?_
    by_cases h1 : p.1 = s <;> by_cases h2 : p.1 ∈ l <;> simp [h1, h2]
end Sw
namespace Sw
open PySem PySem.Spec PyProof.Rows L2 LamX
theorem dp_Hd {K : PySem.W.Frag} {H : Hp} {A : Ag} {s : Nat} {c : Int} {p : Addr} (h : H p = some (.tup (hdV A s c))) : Dp K H (.ref p) (Tp [(s : Int), gen A c]) := dp_Tp h
section
variable {P : Program} {w : World} {K : PySem.W.Frag} {mg : Str → Option Value} {base : Heap}
/-! _law_round -/
def spRnd (T : List (Addr × Str)) (C : Addr) : Sp := fun vs H Q _ => ∃ (vp : List Addr) (A : Ag) (S : SM) (p : PA) (deep : Nat), vs = [.ref p.a.p, .ref p.n.q, .int deep] ∧ PairAt C H vp A S p ∧ Wf A S ∧ Tabs T H ∧ deep ≤ S.free.length ∧ S.live.length + deep ≤ A.lim ∧
  ∀ vp' p' H', p'.a.p = p.a.p → p'.n.q = p.n.q → Stp T H H' p.fp p'.fp vp vp' → PairAt C H' vp' A (S.rnd A.r deep) p' → Wf A (S.rnd A.r deep) → Q (.bl true) H'
abbrev NRn : List Str := ["_law_slots", "_law_notes_here", "_law_deep", "_law_handles", "_law_turn", "_law_handle"]
theorem sc_rnd : FnScope NRn ["_law_slots", "_law_notes_here", "_law_deep"] d_L_round.scope := ⟨rfl, rfl, rfl, by decide +kernel, rfl, by decide +kernel, by decide +kernel⟩
theorem ok_rnd (t : Tx K mg base) : Cl P w K mg base 5 "_law_round" (spRnd (TT K) (SC K)) := by
  obtain ⟨fd, F⟩ := t.e_L_round
  refine mkCl (N := NRn) (ps := ["_law_slots", "_law_notes_here", "_law_deep"]) F t.g_L_round (fun _ _ _ _ _ _ us hl => match us, hl with | [_, _, _], _ => rfl) sc_rnd (fun vs H Q E h => ?_) (fun cdv A outer s H vs Q E hr h => ?_)
  · obtain ⟨_, _, _, _, _, rfl, _⟩ := h
    rfl
  · obtain ⟨vp, G, S, p, deep, rfl, Pr, wf, tb, hd1, hd2, q⟩ := h
    have nd : NRn.Nodup := by decide +kernel
    refine ⟨_, pss_cons (ps_set (i := 3) nd rfl (Or.inl rfl) (pe_lst pa_nil) rfl)
      (pss_cons (ps_for PassesOwn.never rfl (pi_range1 rfl t.b_range (pa_cons (pv 2) pa_nil)) (pg_name (i := 4) nd rfl (Or.inl rfl))
        (pss_cons (ps_expr (pe_bm PySem.F.plainAttrs_list PySem.F.slot_list_append PySem.F.type_list_append mt_append (pv 3) (pa_cons (pe_mt (ok_take t) hr (by decide) (pv 0) (pa_cons (pe_lst (pa_cons (pv 4) pa_nil)) pa_nil)) pa_nil)))
        (pss_one (ps_if (pt_cmpR (op_neD hr.units) (pe_ix ix_seq (pv 3) (pe_un un_neg pe_int) fun _ _ => rfl) (pe_c (ok_tkn t) hr (by decide) rfl (pa_cons (pv 1) (pa_cons (pe_lst (pa_cons (pv 4) pa_nil)) pa_nil))) rfl) (pss_one ps_never) pss_nil))))
      (pss_cons (ps_for PassesOwn.never rfl (pi_list (pe_revL (pv 3))) (pg_name (i := 5) nd rfl (Or.inl rfl))
        (pss_one (ps_if (pt_cmpR (op_neD hr.units) (pe_mt (ok_give t) hr (by decide) (pv 0) (pa_cons (pv 5) pa_nil)) (pe_c (ok_gvn t) hr (by decide) rfl (pa_cons (pv 1) (pa_cons (pv 5) pa_nil))) rfl) (pss_one ps_never) pss_nil)))
      (pss_one (ps_ret pe_bl)))), ?_⟩
    have bf : S.free.length + S.live.length ≤ 6 := by
      rw [wf.count]
      exact wf.ok.n6
    refine ⟨sz (Nat.zero_le _), fun D hD => ?_⟩
    have nD : ¬ Al H D := nAl hD
    have DnP : D ∉ p.fp := fun z => nD (Pr.al D z)
    have DnV : D ∉ vp := fun z => nD (Pr.va D z)
    have k0 : Kp (TT K) [] H (upd H D (.lst [])) := Kp.new hD fun _ z => by cases z
    refine ⟨_, rfl, deep, rfl, by omega, by omega, ?_⟩
    rw [Int.toNat_natCast]
    refine for_range (fun i σ' H' => ∃ vp' hs, PairAt (SC K) H' vp' G (S.takes i) p ∧ Kp (TT K) p.fp H H' ∧ Fr H vp vp' ∧ (∀ b ∈ vp, b ∈ vp') ∧ D ∉ vp' ∧ H' D = some (.lst (hs.map V.ref)) ∧
        Paired (fun h s => H' h = some (.tup (hdV G s (cn S.cnt s + 1)))) hs (S.free.take i) ∧ ∃ u v, σ' = [some (.ref p.a.p), some (.ref p.n.q), some (.int (deep : Int)), some (.ref D), u, v])
      ⟨vp, [], Pr.keep0 k0, k0.sub, Fr.refl, fun _ h => h, DnV, upd_same, .nil, _, _, rfl⟩ (fun i σ1 H' hi z => ?_) fun σ1 H1 z => ?_
    · obtain ⟨vp', hs, z1, z2, z3, z4, z5, z6, z7, u, v, rfl⟩ := z
      rw [Int.zero_add]
      obtain ⟨tk, wi⟩ := takes_ok wf (k := i) (by omega) (by omega)
      have hk : i < S.free.length := by omega
      have ef : (S.takes i).free = S.free[i] :: S.free.drop (i + 1) := by rw [tk.free, List.drop_eq_getElem_cons hk]
      have hni : S.free[i] ∉ S.free.take i := by
        intro z
        obtain ⟨j, hj⟩ := List.getElem?_of_mem z
        rw [List.getElem?_take] at hj
        split at hj
        · exact absurd (nd_ix wf.free_nd hj (show S.free[i]? = some S.free[i] by simp)) (by omega)
        · cases hj
      have ec : cn (S.takes i).cnt S.free[i] = cn S.cnt S.free[i] := by rw [tk.cnt, if_neg hni]; omega
      have hll : (S.takes i).live.length < G.lim := by
        obtain ⟨new, e1, e2⟩ := tk.live
        have := congrArg List.length e2
        rw [List.length_map, List.length_take] at this
        rw [e1, List.length_append]
        omega
      have hsl : hs.length = i := by
        rw [pr_len z7, List.length_take]
        omega
      -- the value for the map
      refine ⟨_, rfl, .inl ⟨rfl, _, SqL.of z6⟩, ?_⟩
      refine ⟨_, rfl, z1.s.md rfl ⟨_, rfl, sz (show 1 ≤ 1000 by decide), fun w1 hw1 => ?_⟩⟩
      have kw1 : Kp (TT K) [] H' (upd H' w1 (.lst [.int (i : Int)])) := Kp.new hw1 fun _ z => by cases z
      have nw1 : ¬ Al H' w1 := nAl hw1
      have va1 : ∀ b ∈ w1 :: vp', Al (upd H' w1 (.lst [.int (i : Int)])) b := fun b hb => by
        rcases List.mem_cons.mp hb with e | e
        · rw [e]; exact Al.l upd_same
        · exact kw1.al b (z1.va b e)
      have P1 : PairAt (SC K) (upd H' w1 (.lst [.int (i : Int)])) (w1 :: vp') G (S.takes i) p := (z1.keep0 kw1).pool (fun b hb => List.mem_cons_of_mem _ hb) (fun b hb hv => by
        rcases List.mem_cons.mp hv with e | e
        · exact nw1 (by rw [← e]; exact z1.al b hb)
        · exact z1.dv b hb e) va1
      have hv1 : Vd (w1 :: vp') (upd H' w1 (.lst [.int (i : Int)])) (.ref w1) (Lp [(i : Int)]) := .lst w1 [(i : Int)] List.mem_cons_self upd_same
      refine ⟨w1 :: vp', G, S.takes i, p.a, .ref w1, Lp [(i : Int)], S.free[i], S.free.drop (i + 1), rfl, P1.s, wi, (z2.then kw1.sub).tab tb, ef, hll, hv1, fun h1 H2 k2 e2 s2 => ?_⟩
      have DA : D ∉ p.a.fp := fun z => DnP (PA.a_in D z)
      have DN : D ∉ p.n.fp := fun z => DnP (PA.n_in D z)
      have e6 := k2.get (kw1.get z6 (fun z => by cases z) rfl) DA rfl
      have Dw1 : D ∉ w1 :: vp' := fun z => by
        rcases List.mem_cons.mp z with e | e
        · exact nw1 (by rw [← e]; exact Al.l z6)
        · exact z5 e
      refine ⟨D, _, _, rfl, rfl, e6, ?_, ?_⟩
      · rw [List.length_map, hsl]
        have : (1000 : Nat) < sizeLine := by decide
        omega
      have kD : Kp (TT K) [D] H2 (upd H2 D (.lst (hs.map V.ref ++ [V.ref h1]))) := Kp.write e6 rfl rfl List.mem_cons_self
      have s3 := s2.keep kD (Dj.one DA) (Dj.one Dw1)
      have n3 := (P1.taken1 k2).keep kD (Dj.one DN) (Dj.one Dw1)
      -- compare
      refine ⟨_, rfl, _, rfl, .inl ⟨D, _, _, _, rfl, rfl, SqL.of upd_same, atI_last _ _, ?_⟩⟩
      refine ⟨_, rfl, _, rfl, sz (show 1 ≤ 1000 by decide), fun w2 hw2 => ?_⟩
      have kw2 : Kp (TT K) [] _ (upd (upd H2 D (.lst (hs.map V.ref ++ [V.ref h1]))) w2 (.lst [.int (i : Int)])) := Kp.new hw2 fun _ z => by cases z
      have nw2 : ¬ Al (upd H2 D (.lst (hs.map V.ref ++ [V.ref h1]))) w2 := nAl hw2
      have va2 : ∀ b ∈ w2 :: w1 :: vp', Al (upd (upd H2 D (.lst (hs.map V.ref ++ [V.ref h1]))) w2 (.lst [.int (i : Int)])) b := fun b hb => by
        rcases List.mem_cons.mp hb with e | e
        · rw [e]; exact Al.l upd_same
        · exact kw2.al b (s3.va b e)
      have s4 := (s3.keep kw2 Dj.nil Dj.nil).pool (vp' := w2 :: w1 :: vp') (fun b hb => List.mem_cons_of_mem _ hb) (fun b hb hv => by
        rcases List.mem_cons.mp hv with e | e
        · exact nw2 (by rw [← e]; exact s3.al b hb)
        · exact s3.dj b hb e) va2
      have n4 := (n3.keep kw2 Dj.nil Dj.nil).pool (vp' := w2 :: w1 :: vp') (fun b hb => List.mem_cons_of_mem _ hb) (fun b hb hv => by
        rcases List.mem_cons.mp hv with e | e
        · exact nw2 (by rw [← e]; exact n3.al b hb)
        · exact n3.dj b hb e) va2
      have hv2 : Vd (w2 :: w1 :: vp') (upd (upd H2 D (.lst (hs.map V.ref ++ [V.ref h1]))) w2 (.lst [.int (i : Int)])) (.ref w2) (Lp [(i : Int)]) := .lst w2 [(i : Int)] List.mem_cons_self upd_same
      refine ⟨w2 :: w1 :: vp', G, S.takes i, p.n, .ref w2, Lp [(i : Int)], S.free[i], S.free.drop (i + 1), rfl, n4, wi, ef, hv2, fun h2 H5 k5 e5 n5 => ?_⟩
      have e2' := k5.t _ _ (kw2.t _ _ (kD.t _ _ e2))
      refine ⟨_, _, dp_Hd e2', dp_Hd e5, sh_Tp, sh_Tp, false, by rw [eqv_Tp, decide_eq_true rfl]; rfl, iteF ?_⟩
      have Dw2 : D ∉ w2 :: w1 :: vp' := fun z => by
        rcases List.mem_cons.mp z with e | e
        · exact nw2 (by rw [← e]; exact Al.l upd_same)
        · exact Dw1 e
      have fw : Fr H' vp' (w2 :: w1 :: vp') := fun b hb => by
        rcases List.mem_cons.mp hb with e | e
        · refine .inr ?_
          rw [e]
          exact fun z => nw2 (kD.al _ (k2.al _ (kw1.al _ z)))
        · rcases List.mem_cons.mp e with e | e
          · rw [e]; exact .inr nw1
          · exact .inl e
      have kall : Kp (TT K) p.fp H H5 := ((z2.then (kw1.sub.then (k2.mono PA.a_in))).dst (o' := .lst (hs.map V.ref ++ [V.ref h1])) nD e6 rfl rfl).then (kw2.sub.then (k5.mono PA.n_in))
      · refine ⟨w2 :: w1 :: vp', hs ++ [h1], ⟨s4.keep k5 Pr.dj.symm n4.dj, n5, Pr.dj⟩, kall, Fr.trans z2 z3 fw, fun b hb => List.mem_cons_of_mem _ (List.mem_cons_of_mem _ (z4 b hb)), Dw2, ?_, ?_, _, _, rfl⟩
        · rw [List.map_append]
          exact k5.get (kw2.get upd_same (fun z => by cases z) rfl) DN rfl
        · rw [List.take_succ, List.getElem?_eq_getElem hk]
          have k25 := k5.t
          refine pr_app (Paired.imp z7 fun h s e => k5.t _ _ (kw2.t _ _ (kD.t _ _ (k2.t _ _ (kw1.t _ _ e))))) (.cons ?_ .nil)
          rw [← ec]
          exact e2'
    · obtain ⟨vp', hs, z1, z2, z3, z4, z5, z6, z7, u, v, rfl⟩ := z
      obtain ⟨tk, wi⟩ := takes_ok wf hd1 hd2
      obtain ⟨new, e1, e2⟩ := tk.live
      have hndT : (S.free.take deep).Nodup := wf.free_nd.sublist (List.take_sublist _ _)
      have hndR : (S.free.take deep).reverse.Nodup := (List.reverse_perm _).nodup_iff.mpr hndT
      have hsl : hs.length = deep := by
        rw [pr_len z7, List.length_take]
        omega
      refine ⟨_, rfl, D, _, rfl, SqL.of z6, fun R hR => ?_⟩
      rw [← List.map_reverse]
      have k1 : Kp (TT K) [] H1 (upd H1 R (.lst (hs.reverse.map V.ref))) := Kp.new hR fun _ z => by cases z
      have nR : ¬ Al H1 R := nAl hR
      refine ⟨R, rfl, ⟨_, SqL.of upd_same⟩, ?_⟩
      refine for_list (xs := hs.reverse.map V.ref) (fun i σ' H' => ∃ p', PairAt (SC K) H' vp' G ((S.takes deep).gives G.r ((S.free.take deep).reverse.take i)) p' ∧ Wf G ((S.takes deep).gives G.r ((S.free.take deep).reverse.take i)) ∧ p'.a.p = p.a.p ∧ p'.n.q = p.n.q ∧ Stp (TT K) H1 H' p.fp p'.fp vp' vp' ∧ R ∉ p'.fp ∧ H' R = some (.lst (hs.reverse.map V.ref)) ∧
          ∃ u v, σ' = [some (.ref p.a.p), some (.ref p.n.q), some (.int (deep : Int)), some (.ref D), u, v])
        ⟨p, z1.keep0 k1, wi, rfl, rfl, Stp.of0 k1, fun z => nR (z1.al R z), upd_same, _, _, rfl⟩ (fun i σ' H' _ z => SqL.of z.choose_spec.2.2.2.2.2.2.1) (fun i x σ1 H' hx z => ?_) fun σ1 H' z => ?_
      · obtain ⟨p', y1, yw, y2, y3, y4, y5, y6, u', v', rfl⟩ := z
        rw [List.getElem?_map] at hx
        cases hi : hs.reverse[i]? with
        | none => rw [hi] at hx; cases hx
        | some h =>
          rw [hi] at hx
          cases hx
          have hil : i < hs.length := by
            have := (List.getElem?_eq_some_iff.mp hi).1
            rw [List.length_reverse] at this
            exact this
          have hi2 : hs[hs.length - 1 - i]? = some h := by rw [← List.getElem?_reverse hil]; exact hi
          obtain ⟨sl, s1, s2⟩ := pr_at1 z7 hi2
          have hsr : (S.free.take deep).reverse[i]? = some sl := by
            have hl : (S.free.take deep).length = hs.length := by rw [List.length_take]; omega
            rw [List.getElem?_reverse (by rw [hl]; exact hil), hl]
            exact s1
          have hin : sl ∈ S.free.take deep := List.mem_of_getElem? s1
          have hnt : sl ∉ (S.free.take deep).reverse.take i := by
            intro z
            obtain ⟨j, hj⟩ := List.getElem?_of_mem z
            rw [List.getElem?_take] at hj
            split at hj
            · exact absurd (nd_ix hndR hj hsr) (by omega)
            · cases hj
          have hcn : cn ((S.takes deep).gives G.r ((S.free.take deep).reverse.take i)).cnt sl = cn S.cnt sl + 1 := by rw [gives_cnt, tk.cnt, if_pos hin]
          obtain ⟨d, hd⟩ : ∃ d, (sl, d) ∈ ((S.takes deep).gives G.r ((S.free.take deep).reverse.take i)).live := by
            have : sl ∈ new.map (·.1) := by rw [e2]; exact hin
            obtain ⟨pr, hp1, hp2⟩ := List.mem_map.mp this
            refine ⟨pr.2, ?_⟩
            rw [gives_live, List.mem_filter]
            refine ⟨?_, decide_eq_true ?_⟩
            · rw [e1, ← hp2]
              exact List.mem_append_right _ hp1
            · exact hnt
          have hh : H' h = some (.tup (hdV G sl (cn ((S.takes deep).gives G.r ((S.free.take deep).reverse.take i)).cnt sl))) := by
            rw [hcn]
            exact y4.kp.t _ _ s2
          have tbn := (z2.then y4.kp).tab tb
          refine ⟨_, rfl, y1.s.mdE y2 rfl ⟨_, rfl, vp', G, _, p'.a, h, sl, d, by rw [y2]; rfl, y1.s, yw, hd, hh, fun v1 a' H2 ea k2 f2 hv1 s3 => ?_⟩⟩
          have nk := y1.n.keep k2 y1.dj y1.s.dj
          refine ⟨_, rfl, _, rfl, vp', G, _, p'.n, h, sl, d, by rw [y3]; rfl, nk, yw, k2.tab tbn, hd, k2.t _ _ hh, fun v2 n' H3 en _ k3 f3 hv2 n3 => ?_⟩
          have hv1' := hv1.keep k3 y1.n.dj
          refine ⟨d, d, hv1'.dp, hv2.dp, hv1.shaped, hv1.shaped, false, by rw [eqv_sh hv1.shaped]; rfl, iteF ?_⟩
          have P3 := y1.given2 k2 f2 s3 k3 f3 n3
          have st3 := PairAt.given3 (p := p') (vp := vp') k2 f2 k3 f3
          have eg : ((S.takes deep).gives G.r ((S.free.take deep).reverse.take i)).give G.r sl = (S.takes deep).gives G.r ((S.free.take deep).reverse.take (i + 1)) := by
            rw [List.take_succ, hsr, gives_app]
            rfl
          rw [eg] at P3
          have aR : Al H' R := Al.l y6
          refine ⟨⟨a', n'⟩, P3, by rw [← eg]; exact yw.give hd, ea.trans y2, en.trans y3, y4.trans st3, fun z => (st3.fr R z).elim y5 fun z => z aR, st3.kp.get y6 y5 rfl, _, _, rfl⟩
      · obtain ⟨p', y1, yw, y2, y3, y4, y5, y6, u', v', rfl⟩ := z
        have e : (S.free.take deep).reverse.take (hs.reverse.map V.ref).length = (S.free.take deep).reverse := by
          refine List.take_of_length_le ?_
          rw [List.length_reverse, List.length_map, List.length_reverse, List.length_take]
          omega
        rw [e] at y1 yw
        exact q vp' p' H' y2 y3 ((⟨z2, Fr.refl, z3, z4⟩ : Stp (TT K) H H1 p.fp p.fp vp vp').trans y4) y1 yw
end
end Sw
namespace Sw
open PySem PySem.Spec PyProof.Rows L2 LamX
theorem rnd_live {A : Ag} {S : SM} {k : Nat} (w : Wf A S) (h1 : k ≤ S.free.length) (h2 : S.live.length + k ≤ A.lim) : (S.rnd A.r k).live = S.live := by
  obtain ⟨t, w'⟩ := takes_ok w h1 h2
  obtain ⟨new, e1, e2⟩ := t.live
  unfold SM.rnd
  rw [gives_live, e1, List.filter_append]
  have a1 : S.live.filter (fun p => decide (p.1 ∉ (S.free.take k).reverse)) = S.live := by
    rw [List.filter_eq_self]
    intro p hp
    refine decide_eq_true fun z => ?_
    have z' := List.mem_of_mem_take (List.mem_reverse.mp z)
    exact w.apart z' (List.mem_map.mpr ⟨p, hp, rfl⟩)
  have a2 : new.filter (fun p => decide (p.1 ∉ (S.free.take k).reverse)) = [] := by
    rw [List.filter_eq_nil_iff]
    intro p hp
    have : p.1 ∈ S.free.take k := by rw [← e2]; exact List.mem_map.mpr ⟨p, hp, rfl⟩
    simp [this]
  rw [a1, a2, List.append_nil]
theorem gives_wf {A : Ag} : ∀ {l : List Nat} {S : SM}, Wf A S → l.Nodup → (∀ s ∈ l, s ∈ S.live.map (·.1)) → Wf A (S.gives A.r l)
  | [], _, w, _, _ => w
  | s :: l, S, w, nd, h => by
    obtain ⟨p, hp, e⟩ := List.mem_map.mp (h s List.mem_cons_self)
    obtain ⟨n1, n2⟩ := List.nodup_cons.mp nd
    refine gives_wf (l := l) (S := S.give A.r s) (w.give (d := p.2) (by rw [← e]; exact hp)) n2 fun s' hs' => ?_
    obtain ⟨p', hp', e'⟩ := List.mem_map.mp (h s' (List.mem_cons_of_mem _ hs'))
    refine List.mem_map.mpr ⟨p', ?_, e'⟩
    refine List.mem_filter.mpr ⟨hp', ?_⟩
    rw [e']
    have : s' ≠ s := fun z => n1 (by rw [← z]; exact hs')
    simpa using this
theorem rnd_wf {A : Ag} {S : SM} {k : Nat} (w : Wf A S) (h1 : k ≤ S.free.length) (h2 : S.live.length + k ≤ A.lim) : Wf A (S.rnd A.r k) := by
  obtain ⟨t, w'⟩ := takes_ok w h1 h2
  obtain ⟨new, e1, e2⟩ := t.live
  refine gives_wf w' ((List.reverse_perm _).nodup_iff.mpr (w.free_nd.sublist (List.take_sublist _ _))) fun s hs => ?_
  rw [e1, List.map_append, e2]
  exact List.mem_append_right _ (List.mem_reverse.mp hs)
theorem free_len {A : Ag} {S S' : SM} (w : Wf A S) (w' : Wf A S') (h : S'.live = S.live) : S'.free.length = S.free.length := by
  have a := w.count
  have b := w'.count
  rw [h] at b
  omega
def SM.rnds (r : Rl) (deep : Nat) : Nat → SM → SM
  | 0, S => S
  | k + 1, S => (SM.rnds r deep k S).rnd r deep
theorem rnds_add {r : Rl} {deep : Nat} {S : SM} {a : Nat} : ∀ {b : Nat}, S.rnds r deep (a + b) = (S.rnds r deep a).rnds r deep b
  | 0 => rfl
  | b + 1 => by
    show (S.rnds r deep (a + b)).rnd r deep = _
    rw [rnds_add]
    rfl
structure RdOk (A : Ag) (S : SM) (deep : Nat) : Prop where
  wf : Wf A S
  le : deep ≤ S.free.length
  lim : S.live.length + deep ≤ A.lim
theorem RdOk.next {A : Ag} {S : SM} {deep : Nat} (h : RdOk A S deep) : RdOk A (S.rnd A.r deep) deep ∧ (S.rnd A.r deep).live = S.live := by
  have e := rnd_live h.wf h.le h.lim
  have w := rnd_wf h.wf h.le h.lim
  exact ⟨⟨w, by rw [free_len h.wf w e]; exact h.le, by rw [e]; exact h.lim⟩, e⟩
theorem RdOk.rnds {A : Ag} {S : SM} {deep : Nat} (h : RdOk A S deep) : ∀ {k : Nat}, RdOk A (S.rnds A.r deep k) deep ∧ (S.rnds A.r deep k).live = S.live
  | 0 => ⟨h, rfl⟩
  | k + 1 => by
    obtain ⟨a, b⟩ := RdOk.rnds h (k := k)
    obtain ⟨c, d⟩ := a.next
    exact ⟨c, d.trans b⟩
section
variable {P : Program} {w : World} {K : PySem.W.Frag} {mg : Str → Option Value} {base : Heap}
/-! _law_by_turns -/
def spTrn (T : List (Addr × Str)) (C : Addr) : Sp := fun vs H Q _ => ∃ (vp : List Addr) (A : Ag) (S : SM) (p : PA) (deep many : Nat), vs = [.ref p.a.p, .ref p.n.q, .int deep, .int many] ∧ PairAt C H vp A S p ∧ RdOk A S deep ∧ Tabs T H ∧ many ≤ 1000000 ∧
  ∀ vp' p' H', p'.a.p = p.a.p → p'.n.q = p.n.q → Stp T H H' p.fp p'.fp vp vp' → PairAt C H' vp' A (S.rnds A.r deep many) p' → Q (.bl true) H'
abbrev NTr : List Str := ["_law_slots", "_law_notes_here", "_law_deep", "_law_many", "_law_turn"]
theorem sc_trn : FnScope NTr ["_law_slots", "_law_notes_here", "_law_deep", "_law_many"] d_L_by_turns.scope := ⟨rfl, rfl, rfl, by decide +kernel, rfl, by decide +kernel, by decide +kernel⟩
theorem ok_trn (t : Tx K mg base) : Cl P w K mg base 6 "_law_by_turns" (spTrn (TT K) (SC K)) := by
  obtain ⟨fd, F⟩ := t.e_L_by_turns
  refine mkCl (N := NTr) (ps := ["_law_slots", "_law_notes_here", "_law_deep", "_law_many"]) F t.g_L_by_turns (fun _ _ _ _ _ _ us hl => match us, hl with | [_, _, _, _], _ => rfl) sc_trn (fun vs H Q E h => ?_) (fun cdv A outer s H vs Q E hr h => ?_)
  · obtain ⟨_, _, _, _, _, _, rfl, _⟩ := h
    rfl
  · obtain ⟨vp, G, S, p, deep, many, rfl, Pr, ok, tb, hm, q⟩ := h
    have nd : NTr.Nodup := by decide +kernel
    refine ⟨_, pss_cons (ps_for PassesOwn.never rfl (pi_range1 rfl t.b_range (pa_cons (pv 3) pa_nil)) (pg_name (i := 4) nd rfl (Or.inl rfl))
        (pss_one (ps_if (pt_not (pt_val (pe_c (ok_rnd t) hr (Nat.le_refl _) rfl (pa_cons (pv 0) (pa_cons (pv 1) (pa_cons (pv 2) pa_nil)))))) (pss_one ps_never) pss_nil)))
      (pss_one (ps_ret pe_bl)), ?_⟩
    refine ⟨_, rfl, many, rfl, by omega, by omega, ?_⟩
    rw [Int.toNat_natCast]
    refine for_range (fun i σ' H' => ∃ vp' p', PairAt (SC K) H' vp' G (S.rnds G.r deep i) p' ∧ p'.a.p = p.a.p ∧ p'.n.q = p.n.q ∧ Stp (TT K) H H' p.fp p'.fp vp vp' ∧ ∃ u, σ' = [some (.ref p.a.p), some (.ref p.n.q), some (.int (deep : Int)), some (.int (many : Int)), u])
      ⟨vp, p, Pr, rfl, rfl, Stp.refl, _, rfl⟩ (fun i σ1 H' hi z => ?_) fun σ1 H1 z => ?_
    · obtain ⟨vp', p', z1, z2, z3, z4, u, rfl⟩ := z
      obtain ⟨o1, o2⟩ := ok.rnds (k := i)
      refine ⟨_, rfl, _, rfl, _, rfl, vp', G, _, p', deep, by rw [z2, z3]; rfl, z1, o1.wf, z4.kp.tab tb, o1.le, o1.lim, fun vp2 p2 H2 e1 e2 st P2 _ => ?_⟩
      exact ⟨true, rfl, iteF ⟨vp2, p2, P2, e1.trans z2, e2.trans z3, z4.trans st, _, rfl⟩⟩
    · obtain ⟨vp', p', z1, z2, z3, z4, u, rfl⟩ := z
      exact q vp' p' H1 z2 z3 z4 z1
end
end Sw
namespace Sw
open PySem PySem.Spec PyProof.Rows L2 LamX
structure RepOk (A : Ag) (S : SM) (ds : List De) (t : Nat) (S' : SM) : Prop where
  most : t ≤ mostT A.r
  c1 : A.r.lf = true → (t = 0 → S' = S) ∧ (0 < t → ∃ S1 mv cyc am R, S.run A ds = some S1 ∧ LeapOk A S S1 S' t mv cyc am R)
  c2 : A.r.lf = false → S.runN A ds t = some S' ∧ S'.live = S.live ∧ ∀ s ∈ S.live.map (·.1), cn S'.cnt s = cn S.cnt s
def dsOf (live deep : Nat) : List De := List.replicate deep .tk ++ (List.range deep).map fun k => .gv (live + deep - 1 - k)
def Rl.ll : Rl → Bool
  | .last => true
  | .lowest => true
  | _ => false
theorem Rl.ll_in {r : Rl} : inV (.str r.s) [.str "last", .str "lowest"] = r.ll := by cases r <;> decide +kernel
def mvd (r : Rl) (free : List Nat) (deep : Nat) : List Nat := if r.ll = true then free.take deep else free
theorem tk_str : isTk (.str "take") = true := by decide +kernel
theorem tkN_blk {deep : Nat} : ∀ {gs : List Addr}, tkN (List.replicate deep (.str "take") ++ gs.map V.ref) = deep := by
  intro gs
  unfold tkN
  rw [List.filter_append]
  have a : (List.replicate deep (V.str "take")).filter isTk = List.replicate deep (V.str "take") := by
    rw [List.filter_eq_self]
    intro x hx
    rw [List.eq_of_mem_replicate hx]
    exact tk_str
  have b : (gs.map V.ref).filter isTk = [] := by
    rw [List.filter_eq_nil_iff]
    intro x hx
    obtain ⟨g, _, e⟩ := List.mem_map.mp hx
    rw [← e]
    exact Bool.false_ne_true
  rw [a, b, List.append_nil, List.length_replicate]
theorem pr_rep {H : Hp} : ∀ {deep : Nat}, Paired (DeedIs H) (List.replicate deep (.str "take")) (List.replicate deep De.tk)
  | 0 => .nil
  | k + 1 => by
    rw [List.replicate_succ, List.replicate_succ]
    exact .cons (.inl ⟨rfl, rfl⟩) pr_rep
theorem cnt_ext {l l' : List Int} (h : l.length = l'.length) (e : ∀ s, s < l.length → cn l s = cn l' s) : l = l' := by
  refine List.ext_getElem? fun i => ?_
  by_cases hi : i < l.length
  · rw [at_cn hi, at_cn (by rw [← h]; exact hi), e i hi]
  · rw [List.getElem?_eq_none (by omega), List.getElem?_eq_none (by omega)]
theorem deeds_of {H3 H4 : Hp} {f : Nat → Nat} (kt : ∀ b xs, H3 b = some (.tup xs) → H4 b = some (.tup xs)) : ∀ {gs : List Addr} {ks : List Nat}, Paired (fun g (k : Nat) => H3 g = some (.tup [.str "give", .int ((f k : Nat) : Int)])) gs ks →
    Paired (DeedIs H4) (gs.map V.ref) (ks.map fun k => De.gv (f k))
  | _, _, .nil => .nil
  | _, _, .cons h t => .cons (.inr ⟨_, _, rfl, rfl, kt _ _ h⟩) (deeds_of kt t)
/-- a rule by what it asks -/
theorem pe_wrap {X : Cx} {e : Expr} {te te' : TE} (h : PE X e te) (w : ∀ σ H Q, te' σ H Q → te σ H Q) : PE X e te' := ⟨fun pins s σ H Q I q => h.run pins s σ H Q I (w σ H Q q)⟩
def tMv (T : List (Addr × Str)) : TE := fun σ H Q => ∃ (vp : List Addr) (A : Ag) (S : SM) (n : NA) (deep : Nat), σ[1]? = some (some (.ref n.q)) ∧ σ[2]? = some (some (.int (deep : Int))) ∧ NotesAt H vp A S n ∧ deep ≤ S.free.length ∧
  ∀ pm H', Kp T [] H H' → H' pm = some (.lst (fr (mvd A.r S.free deep))) → pm ≠ n.lc → Q (.ref pm) H'
section
variable {P : Program} {w : World} {K : PySem.W.Frag} {mg : Str → Option Value} {base : Heap}
/-! _law_by_repeat -/
def spBrp (T : List (Addr × Str)) (C : Addr) : Sp := fun vs H Q _ => ∃ (vp : List Addr) (A : Ag) (S S1 S' : SM) (p : PA) (deep many more : Nat), vs = [.ref p.a.p, .ref p.n.q, .int deep, .int many] ∧ PairAt C H vp A S p ∧ RdOk A S deep ∧ 0 < deep ∧ Tabs T H ∧ Wf A S1 ∧ S1.live = S.live ∧ Wf A S' ∧
  RepOk A S (dsOf S.live.length deep) (many / 3) S1 ∧ RepOk A S1 (dsOf S.live.length deep) (many - many / 3) S' ∧ S'.free = S.free ∧ S'.live = S.live ∧ many * deep / (mvd A.r S.free deep).length = more ∧
  (∀ s, cn S'.cnt s = cn S.cnt s + if s ∈ mvd A.r S.free deep then (more : Int) else 0) ∧
  ∀ p' H', p'.a.p = p.a.p → p'.n.q = p.n.q → Stp T H H' p.fp p'.fp vp vp → PairAt C H' vp A S' p' → Q (.bl true) H'
abbrev NBr : List Str := ["_law_slots", "_law_notes_here", "_law_deep", "_law_many", "_law_live", "_law_block", "_law_k", "_law_first", "_law_told", "_law_moved", "_law_slot", "_law_more"]
theorem sc_brp : FnScope NBr ["_law_slots", "_law_notes_here", "_law_deep", "_law_many"] d_L_by_repeat.scope := ⟨rfl, rfl, rfl, by decide +kernel, rfl, by decide +kernel, by decide +kernel⟩
theorem ok_brp (t : Tx K mg base) : Cl P w K mg base 9 "_law_by_repeat" (spBrp (TT K) (SC K)) := by
  obtain ⟨fd, F⟩ := t.e_L_by_repeat
  refine mkCl (N := NBr) (ps := ["_law_slots", "_law_notes_here", "_law_deep", "_law_many"]) F t.g_L_by_repeat (fun _ _ _ _ _ _ us hl => match us, hl with | [_, _, _, _], _ => rfl) sc_brp (fun vs H Q E h => ?_) (fun cdv A outer s H vs Q E hr h => ?_)
  · obtain ⟨_, _, _, _, _, _, _, _, _, rfl, _⟩ := h
    rfl
  · obtain ⟨vp, G, S, S1, S', p, deep, many, more, rfl, Pr, ok, h0, tb, wf1, lv1, wf', r1, r2, fr', lv', emore, ecnt, q⟩ := h
    have nd : NBr.Nodup := by decide +kernel
    refine ⟨_, pss_cons (ps_set (i := 4) nd rfl (Or.inr rfl) (pe_callB call_len_seq rfl t.b_len (by decide +kernel) (pa_cons (pe_dget (hu_of hr) (pv 1) pe_str (fun _ _ => rfl)) pa_nil)) rfl)
      (pss_cons (ps_set (i := 5) nd rfl (Or.inl rfl) (pe_op op_cat (pe_op op_rep (pe_lst (pa_cons pe_str pa_nil)) (pv 2))
        (pe_lc (own := [("_law_k", 6)]) (g := gName 6) (tt := tYes) rfl nd (pi_range1 rfl t.b_range (pa_cons (pv 2) pa_nil)) (blkOk_by (own := [("_law_k", 6)]) (N := NBr) (sc := d_L_by_repeat.scope) (by decide +kernel)) (fun _ _ _ _ _ => pg_name (i := 6) nd rfl (Or.inl rfl)) (fun _ _ _ _ _ => pts_nil)
          (fun _ _ _ _ _ => pe_tup (pa_cons pe_str (pa_cons (pe_op op_sub (pe_op op_sub (pe_op op_add (pv 4) (pv 2)) pe_int) (pv 6)) pa_nil))))) rfl)
      (pss_cons (ps_set (i := 7) nd rfl (Or.inl rfl) (pe_op op_fdiv (pv 3) pe_int) rfl)
      (pss_cons (ps_set (i := 8) nd rfl (Or.inl rfl) (pe_lst (pa_cons (pe_c (ok_rep t) hr (by decide) rfl (pa_cons (pv 0) (pa_cons (pv 5) (pa_cons (pv 7) pa_nil))))
          (pa_cons (pe_c (ok_rep t) hr (by decide) rfl (pa_cons (pv 0) (pa_cons (pe_callTy call_tuple_of rfl t.b_tuple (by decide +kernel) (pa_cons (pv 5) pa_nil)) (pa_cons (pe_op op_sub (pv 3) (pv 7)) pa_nil)))) pa_nil))) rfl)
      (pss_cons (ps_set (i := 9) nd rfl (Or.inl rfl) (pe_wrap (te' := tMv (TT K)) (pe_ifExp (pt_cmpR op_in_seq (pe_ix ix_seq (pe_dget (hu_of hr) (pv 1) pe_str (fun _ _ => rfl)) pe_int fun _ _ => rfl) (pe_tup (pa_cons pe_str (pa_cons pe_str pa_nil))) rfl)
          (pe_slice sl_list (pe_dget (hu_of hr) (pv 1) pe_str (fun _ _ => rfl)) po_none (po_some (pv 2))) (pe_dget (hu_of hr) (pv 1) pe_str (fun _ _ => rfl))) ?wmv) rfl)
      (pss_cons (ps_for PassesOwn.never rfl (pi_list (pv 9)) (pg_name (i := 10) nd rfl (Or.inl rfl))
        (pss_cons (ps_set (i := 11) nd rfl (Or.inl rfl) (pe_op op_fdiv (pe_op op_mul (pv 3) (pv 2)) (pe_callB call_len_seq rfl t.b_len (by decide +kernel) (pa_cons (pv 9) pa_nil))) rfl)
        (pss_one (ps_asg (pe_op op_add (pe_ix ix_seq (pe_dget (hu_of hr) (pv 1) pe_str (fun _ _ => rfl)) (pv 10) fun _ _ => rfl) (pv 11)) (pg_sub (pe_dget (hu_of hr) (pv 1) pe_str (fun _ _ => rfl)) (pv 10) set_list)))))
      (pss_one (ps_ret (pe_cmpR (op_eqD hr.units) (pv 8) (pe_lst (pa_cons (pe_op op_mul (pv 7) (pv 2)) (pa_cons (pe_op op_mul (pe_op op_sub (pv 3) (pv 7)) (pv 2)) pa_nil))) rfl)))))))), ?_⟩
    case wmv =>
      rintro σ H Q ⟨vp, A, S, n, deep, s1, s2, na, hd, qq⟩
      refine ⟨_, s1, dg (gn_n na.ob) (.inr (.inl ⟨n.tn, _, (3 : Nat), .str A.r.s, rfl, rfl, SqT.of na.nums, at_nat rfl, sz (show 2 ≤ 1000 by decide), fun pq hpq => ?_⟩))⟩
      have kq : Kp (TT K) [] H (upd H pq (.tup [.str "last", .str "lowest"])) := Kp.new hpq fun _ z => by cases z
      have na2 := na.keep kq (fun _ z => by cases z) (fun _ z => by cases z)
      refine ⟨pq, _, rfl, .inr (SqT.of upd_same), rfl, rfl, A.r.ll, by rw [← Rl.ll_in]; rfl, ?_⟩
      cases hll : A.r.ll with
      | true =>
        refine iteT ⟨_, s1, dg (gn_f na2.ob) ⟨_, s2, deep, rfl, n.lf, _, rfl, SqL.of na2.free, fun pm hpm => ?_⟩⟩
        rw [cut_to (by rw [fr_len]; exact hd)]
        refine qq pm _ (kq.then (Kp.new hpm fun _ z => by cases z)) ?_ fun z => by rw [z, na2.cnt] at hpm; cases hpm
        rw [upd_same]
        unfold mvd fr
        rw [if_pos hll, List.map_take]
      | false =>
        refine iteF ⟨_, s1, dg (gn_f na2.ob) (qq n.lf _ kq ?_ na2.n1.symm)⟩
        rw [na2.free]
        unfold mvd
        rw [if_neg (by rw [hll]; exact Bool.false_ne_true)]
    have wf := ok.wf
    have bnd : S.free.length + S.live.length ≤ 6 := by
      rw [wf.count]
      exact wf.ok.n6
    have dl := ok.le
    obtain ⟨ts, hv, hts⟩ := Pr.n.live
    have lts : ts.length = S.live.length := pr_len hts
    -- live
    refine ⟨_, rfl, dg (gn_l Pr.n.ob) ⟨p.n.lv, _, rfl, .inl (SqL.of hv), ?_⟩⟩
    rw [List.length_map, lts]
    -- block
    refine ⟨sz (show 1 ≤ 1000 by decide), fun l0 hl0 => ?_⟩
    have k1 : Kp (TT K) [] H (upd H l0 (.lst [.str "take"])) := Kp.new hl0 fun _ z => by cases z
    refine ⟨_, rfl, l0, deep, _, rfl, rfl, upd_same, by omega, by omega, sz (by show 1 * _ ≤ 1000; omega), fun l1 hl1 => ?_⟩
    have erep : (List.replicate (deep : Int).toNat [V.str "take"]).flatten = List.replicate deep (V.str "take") := by
      rw [Int.toNat_natCast]
      exact List.flatten_replicate_singleton
    rw [erep]
    have k2 := k1.then (Kp.new (T := TT K) (fp := []) (o := .lst (List.replicate deep (V.str "take"))) hl1 fun _ z => by cases z)
    refine ⟨_, rfl, deep, rfl, by omega, by omega, fun D hD => ?_⟩
    rw [Int.toNat_natCast]
    have hl1' : (upd (upd H l0 (.lst [.str "take"])) l1 (.lst (List.replicate deep (V.str "take")))) l1 = some (.lst (List.replicate deep (V.str "take"))) := upd_same
    refine lcR (T := TT K) (fun i acc H' => ∃ gs, acc = gs.map V.ref ∧ Paired (fun g (k : Nat) => H' g = some (.tup [.str "give", .int ((S.live.length + deep - 1 - k : Nat) : Int)])) gs (List.range i)) (by omega) hD (fun _ _ _ _ r k => r.imp fun gs z => ⟨z.1, Paired.imp z.2 fun _ _ e => k.t _ _ e⟩) ⟨[], rfl, .nil⟩ (fun i acc H' N M hi k hd r n m => ?_) fun H3 acc k3 hd3 hl3 r => ?_
    · obtain ⟨gs, g1, g2⟩ := r
      rw [Int.zero_add]
      refine ⟨rfl, it1 (B := M H') ?_⟩
      refine ⟨_, rfl, _, rfl, _, _, rfl, rfl, _, _, rfl, rfl, _, rfl, _, _, rfl, rfl, sz (show 2 ≤ 1000 by decide), fun g hg => n _ _ (Kp.new hg fun _ z => by cases z) ⟨gs ++ [g], by rw [g1, List.map_append]; rfl, ?_⟩⟩
      rw [List.range_succ]
      have kg : ∀ {z : Int}, Kp (TT K) [] H' (upd H' g (.tup [.str "give", .int z])) := Kp.new hg fun _ z => by cases z
      refine pr_app (Paired.imp g2 fun _ _ e => kg.t _ _ e) (.cons ?_ .nil)
      rw [upd_same]
      have : ((S.live.length : Nat) : Int) + (deep : Int) - 1 - (i : Int) = ((S.live.length + deep - 1 - i : Nat) : Int) := by omega
      show some (HO.tup [V.str "give", V.int (((S.live.length : Nat) : Int) + (deep : Int) - 1 - (i : Int))]) = _
      rw [this]
    obtain ⟨gs, g1, g2⟩ := r
    subst g1
    have gl : gs.length = deep := by rw [pr_len g2, List.length_range]
    have k03 := k2.then k3
    refine ⟨l1, D, _, _, rfl, rfl, k3.get hl1' (fun z => by cases z) rfl, hd3, ?_, fun bb hbb => ?_⟩
    · rw [List.length_replicate, List.length_map, gl]
      exact sz (by omega)
    have kb : Kp (TT K) [] H3 (upd H3 bb (.lst (List.replicate deep (.str "take") ++ gs.map V.ref))) := Kp.new hbb fun _ z => by cases z
    have k04 := k03.then kb
    have nb : ¬ Al H bb := k03.back (nAl hbb)
    have deeds : Paired (DeedIs (upd H3 bb (.lst (List.replicate deep (.str "take") ++ gs.map V.ref)))) (List.replicate deep (.str "take") ++ gs.map V.ref) (dsOf S.live.length deep) := by
      refine pr_app pr_rep ?_
      exact deeds_of (f := fun k => S.live.length + deep - 1 - k) kb.t g2
    have bd : BlkD (upd H3 bb (.lst (List.replicate deep (.str "take") ++ gs.map V.ref))) bb (List.replicate deep (.str "take") ++ gs.map V.ref) (dsOf S.live.length deep) := ⟨.inl upd_same, deeds, by rw [List.length_append, List.length_replicate, List.length_map, gl]; omega⟩
    have xl : (List.replicate deep (V.str "take") ++ gs.map V.ref).length = deep + deep := by rw [List.length_append, List.length_replicate, List.length_map, gl]
    have P4 := Pr.keep0 k04
    have e3 : (many : Int) / 3 = ((many / 3 : Nat) : Int) := by omega
    -- told
    refine ⟨_, rfl, _, _, rfl, rfl, ⟨by decide, by decide⟩, ?_⟩
    refine ⟨_, rfl, _, rfl, _, rfl, vp, G, S, S1, p.a, bb, _, dsOf S.live.length deep, many / 3, by rw [← e3]; rfl, P4.s, wf, k04.tab tb, bd, fun z => nb (Pr.s.al bb z), by rw [tkN_blk, xl]; omega, by rw [xl]; omega, r1.most, r1.c1, r1.c2, fun a1 H5 ea1 k5 f5 s5 => ?_⟩
    have n5 := P4.n.keep k5 P4.dj P4.s.dj
    have bd5 := bd.kp k5 (fun z => nb (Pr.s.al bb z))
    have d5 : Dj a1.fp p.n.fp := Dj.fresh P4.dj f5 P4.n.al
    refine ⟨_, rfl, _, rfl, bb, _, rfl, .inl ⟨SqL.of (bd5.sq.resolve_right fun z => ?_), fun tq htq => ?_⟩⟩
    · have := k5.get (upd_same (H := H3) (a := bb)) (fun z => nb (Pr.s.al bb z)) rfl
      rw [this] at z
      cases z
    have kq : Kp (TT K) [] H5 (upd H5 tq (.tup (List.replicate deep (.str "take") ++ gs.map V.ref))) := Kp.new htq fun _ z => by cases z
    have s6 := s5.keep kq (fun _ z => by cases z) (fun _ z => by cases z)
    have bd6 : BlkD (upd H5 tq (.tup (List.replicate deep (.str "take") ++ gs.map V.ref))) tq (List.replicate deep (.str "take") ++ gs.map V.ref) (dsOf S.live.length deep) := ⟨.inr upd_same, (bd5.kp kq (fun z => by cases z)).deeds, bd.len⟩
    have k06 := (k04.sub.then k5).then kq.sub (fp := p.a.fp)
    have e4 : (many : Int) - (many : Int) / 3 = ((many - many / 3 : Nat) : Int) := by omega
    refine ⟨_, rfl, _, rfl, _, _, rfl, rfl, ?_⟩
    refine ⟨vp, G, S1, S', a1, tq, _, dsOf S.live.length deep, many - many / 3, by rw [ea1, ← e4]; rfl, s6, wf1, k06.tab tb, bd6, fun z => nAl htq (s5.al tq z), by rw [tkN_blk, xl]; omega, by rw [xl]; omega, r2.most, r2.c1, r2.c2, fun a2 H7 ea2 k7 f7 s7 => ?_⟩
    have n6 := n5.keep kq (fun _ z => by cases z) (fun _ z => by cases z)
    have n7 := n6.keep k7 d5 s6.dj
    have d7 : Dj a2.fp p.n.fp := Dj.fresh d5 f7 n6.al
    rw [tkN_blk]
    refine ⟨sz (show 2 ≤ 1000 by decide), fun pt hpt => ?_⟩
    have kt : Kp (TT K) [] H7 (upd H7 pt (.lst [.int ((deep * (many / 3) : Nat) : Int), .int ((deep * (many - many / 3) : Nat) : Int)])) := Kp.new hpt fun _ z => by cases z
    have f05 : Fr H p.a.fp a1.fp := fun b hb => (f5 b hb).imp id k04.back
    have k07 : Kp (TT K) p.a.fp H H7 := k06.trans k7 f05
    have f07 : Fr H p.a.fp a2.fp := Fr.trans k06 f05 f7
    have ntN : pt ∉ p.n.fp := fun z => nAl hpt (n7.al pt z)
    have n8 := n7.keep kt (fun _ z => by cases z) (fun _ z => by cases z)
    have s8 := s7.keep kt (fun _ z => by cases z) (fun _ z => by cases z)
    -- moved
    refine ⟨vp, G, S, p.n, deep, rfl, rfl, n8, dl, fun pm H9 k9 e9 npm => ?_⟩
    have n9 := n8.keep k9 (fun _ z => by cases z) (fun _ z => by cases z)
    have s9 := s8.keep k9 (fun _ z => by cases z) (fun _ z => by cases z)
    have et9 := k9.get (upd_same (H := H7) (a := pt)) (fun z => by cases z) rfl
    have nlt : pt ≠ p.n.lc := fun z => ntN (by rw [z]; simp [NA.fp])
    have mnd : (mvd G.r S.free deep).Nodup := by
      unfold mvd
      split
      · exact wf.free_nd.sublist (List.take_sublist _ _)
      · exact wf.free_nd
    have min : ∀ s ∈ mvd G.r S.free deep, s ∈ S.free := by
      intro s hs
      unfold mvd at hs
      split at hs
      · exact List.mem_of_mem_take hs
      · exact hs
    have mle : (mvd G.r S.free deep).length ≤ 6 := by
      unfold mvd
      split
      · rw [List.length_take]; omega
      · omega
    have emI : (many : Int) * (deep : Int) / (((mvd G.r S.free deep).length : Nat) : Int) = (more : Int) := by
      rw [← emore]
      rw [← Int.natCast_mul, ← Int.natCast_ediv]
    refine ⟨_, rfl, pm, rfl, ⟨_, SqL.of e9⟩, ?_⟩
    refine for_list (xs := fr (mvd G.r S.free deep)) (fun i σ' H' => ∃ c : List Int, c.length = S.cnt.length ∧ (∀ s, cn c s = cn S.cnt s + if s ∈ (mvd G.r S.free deep).take i then (more : Int) else 0) ∧ H' p.n.lc = some (.lst (c.map V.int)) ∧ Kp (TT K) [p.n.lc] H9 H' ∧
        ∃ u v, σ' = [some (.ref p.a.p), some (.ref p.n.q), some (.int (deep : Int)), some (.int (many : Int)), some (.int ((S.live.length : Nat) : Int)), some (.ref bb), none, some (.int ((many : Int) / 3)), some (.ref pt), some (.ref pm), u, v])
      ⟨S.cnt, rfl, fun s => by simp, n9.cnt, Kp.refl, _, _, rfl⟩ (fun i σ' H' _ z => ?_) (fun i x σ1 H' hx z => ?_) fun σ1 H' z => ?_
    · obtain ⟨c, _, _, _, k, _⟩ := z
      exact SqL.of (k.get e9 (by simpa using npm) rfl)
    · obtain ⟨c, z1, z2, z3, z4, u, v, rfl⟩ := z
      unfold fr at hx
      rw [List.getElem?_map] at hx
      cases hi : (mvd G.r S.free deep)[i]? with
      | none => rw [hi] at hx; cases hx
      | some sl =>
        rw [hi] at hx
        cases hx
        have hsl : sl < S.cnt.length := wf.lt (min sl (List.mem_of_getElem? hi))
        have hslc : sl < c.length := by rw [z1]; exact hsl
        have e9' := z4.get e9 (by simpa using npm) rfl
        have ob := z4.get n9.ob (by simpa using (ne_k n9.ob n9.cnt fun z => by cases z)) rfl
        have hpos : 0 < (mvd G.r S.free deep).length := by
          have := (List.getElem?_eq_some_iff.mp hi).1
          omega
        refine ⟨_, rfl, _, rfl, _, _, rfl, rfl, .inr ⟨by omega, by omega⟩, _, rfl, pm, _, rfl, .inl (SqL.of e9'), _, _, rfl, rfl, ⟨by rw [fr_len]; omega, by rw [fr_len]; omega⟩, ?_⟩
        refine ⟨_, rfl, dg (gn_c ob) ⟨_, rfl, .inl ⟨p.n.lc, _, sl, .int (cn c sl), rfl, rfl, SqL.of z3, at_nat (by rw [List.getElem?_map, at_cn hslc]; rfl), _, rfl, _, _, rfl, rfl, ?_⟩⟩⟩
        refine ⟨_, rfl, dg (gn_c ob) ⟨_, rfl, p.n.lc, _, sl, sl, rfl, rfl, z3, ix_nat (by rw [List.length_map]; exact hslc), ?_⟩⟩
        rw [map_set]
        refine ⟨c.set sl (cn c sl + (many : Int) * (deep : Int) / (((fr (mvd G.r S.free deep)).length : Nat) : Int)), by rw [List.length_set]; exact z1, fun s => ?_, upd_same, z4.then (Kp.write z3 rfl rfl List.mem_cons_self), _, _, rfl⟩
        rw [cn_set hslc, fr_len, emI, List.take_succ, hi, Option.toList_some]
        have hni : sl ∉ (mvd G.r S.free deep).take i := by
          intro z
          obtain ⟨j, hj⟩ := List.getElem?_of_mem z
          rw [List.getElem?_take] at hj
          split at hj
          · exact absurd (nd_ix mnd hj hi) (by omega)
          · cases hj
        by_cases hs : s = sl
        · rw [if_pos hs, hs, z2, if_neg hni, if_pos (List.mem_append_right _ (List.mem_singleton.mpr rfl))]
          omega
        · rw [if_neg hs, z2]
          by_cases hm : s ∈ (mvd G.r S.free deep).take i
          · rw [if_pos hm, if_pos (List.mem_append_left _ hm)]
          · rw [if_neg hm, if_neg]
            intro z
            rcases List.mem_append.mp z with z | z
            · exact hm z
            · exact hs (List.mem_singleton.mp z)
    · obtain ⟨c, z1, z2, z3, z4, u, v, rfl⟩ := z
      rw [fr_len, List.take_length] at z2
      have ec : c = S'.cnt := cnt_ext (by rw [z1, wf.len, wf'.len]) fun s _ => by rw [z2, ecnt]
      subst ec
      have npt : pt ∉ [p.n.lc] := by simpa using nlt
      have etF := z4.get et9 npt rfl
      refine ⟨_, rfl, _, rfl, _, rfl, _, _, rfl, rfl, .inr ⟨by omega, by omega⟩, _, rfl, _, rfl, _, _, rfl, rfl, _, rfl, _, _, rfl, rfl, .inr ⟨by omega, by omega⟩, sz (show 2 ≤ 1000 by decide), fun pz hpz => ?_⟩
      have kz : Kp (TT K) [] H' (upd H' pz (.lst [.int ((many : Int) / 3 * (deep : Int)), .int (((many : Int) - (many : Int) / 3) * (deep : Int))])) := Kp.new hpz fun _ z => by cases z
      have m1 : ((deep * (many / 3) : Nat) : Int) = (many : Int) / 3 * (deep : Int) := by rw [e3, ← Int.natCast_mul, Nat.mul_comm]
      have m2 : ((deep * (many - many / 3) : Nat) : Int) = ((many : Int) - (many : Int) / 3) * (deep : Int) := by rw [e4, ← Int.natCast_mul, Nat.mul_comm]
      refine ⟨Lp [((deep * (many / 3) : Nat) : Int), ((deep * (many - many / 3) : Nat) : Int)], Lp [(many : Int) / 3 * (deep : Int), ((many : Int) - (many : Int) / 3) * (deep : Int)], dp_Lp (kz.get etF (fun z => by cases z) rfl), dp_Lp upd_same, sh_Lp, sh_Lp, ?_⟩
      rw [eqv_Lp, m1, m2, decide_eq_true rfl]
      -- the end
      have nV : Dj [p.n.lc] vp := Dj.one fun z => Pr.n.dj p.n.lc (by simp [NA.fp]) z
      have nA : Dj [p.n.lc] a2.fp := Dj.one fun z => d7 _ z (by simp [NA.fp])
      have sF := (s9.keep z4 nA nV).keep kz (fun _ z => by cases z) (fun _ z => by cases z)
      have kF : Kp (TT K) p.fp H _ := ((k07.mono PA.a_in).then (kt.sub.then (k9.sub.then ((z4.mono (by intro b hb; rw [List.mem_singleton.mp hb]; exact PA.n_in _ (by simp [NA.fp]))).then kz.sub))))
      have z5 := z4.then kz.sub
      obtain ⟨ts9, hv9, hts9⟩ := n9.live
      have n1 := n9.n1
      have n2 := n9.n2
      have n3 := n9.n3
      have g : ∀ {b : Addr} {o : HO}, H9 b = some o → isW o = true → b ≠ p.n.lc → upd H' pz (.lst [.int ((many : Int) / 3 * (deep : Int)), .int (((many : Int) - (many : Int) / 3) * (deep : Int))]) b = some o := fun e w n => z5.get e (by simpa using n) w
      have nF : NotesAt (upd H' pz (.lst [.int ((many : Int) / 3 * (deep : Int)), .int (((many : Int) - (many : Int) / 3) * (deep : Int))])) vp G S' p.n := by
        refine ⟨g n9.ob rfl (ne_k n9.ob n9.cnt fun z => by cases z), z5.t _ _ n9.nums, kz.get z3 (fun z => by cases z) rfl, ?_, ⟨ts9, g hv9 rfl n2.symm, ?_⟩, n1, n2, n3, n9.dj, fun b hb => z5.al b (n9.va b hb)⟩
        · rw [fr']
          exact g n9.free rfl n1.symm
        · rw [lv']
          refine pr_mem (fun t pr hpr r => ?_) hts9
          obtain ⟨h', v', q1, q2, q3⟩ := r
          have hne : pr.1 ∉ mvd G.r S.free deep := fun z => wf.apart (min _ z) (List.mem_map.mpr ⟨pr, hpr, rfl⟩)
          refine ⟨h', v', z5.t _ _ q1, ?_, q3.keep z5 nV⟩
          rw [z2, if_neg hne, Int.add_zero]
          exact z5.t _ _ q2
      refine q ⟨a2, p.n⟩ _ (ea2.trans ea1) rfl ⟨kF, Fr.app f07 Fr.refl, Fr.refl, fun _ h => h⟩ ⟨sF, nF, d7⟩
end
end Sw
namespace Sw
open PySem PySem.Spec PyProof.Rows L2 LamX
/-! two maps with their notes, and the state of the draws -/
structure Wd (C : Addr) (H : Hp) (vp : List Addr) (A : Ag) (S1 S2 : SM) (p1 p2 : PA) (st : Addr) : Prop where
  a : PairAt C H vp A S1 p1
  b : PairAt C H vp A S2 p2
  dj : Dj p1.fp p2.fp
  sd : StAt H st
  s1 : st ∉ p1.fp
  s2 : st ∉ p2.fp
  sv : st ∉ vp
def wfp (st : Addr) (p1 p2 : PA) : List Addr := st :: (p1.fp ++ p2.fp)
section
variable {T : List (Addr × Str)} {C : Addr} {H H' : Hp} {vp vp' : List Addr} {A : Ag} {S1 S2 S' : SM} {p1 p2 p' : PA} {st b : Addr}
theorem StAt.al (s : StAt H st) : Al H st := by
  obtain ⟨x, m, k, h⟩ := s
  exact Al.l h
theorem StAt.keep {fp : List Addr} (s : StAt H st) (k : Kp T fp H H') (n : st ∉ fp) : StAt H' st := by
  obtain ⟨x, m, j, h⟩ := s
  exact ⟨x, m, j, k.get h n rfl⟩
theorem Wd.swap (w : Wd C H vp A S1 S2 p1 p2 st) : Wd C H vp A S2 S1 p2 p1 st := ⟨w.b, w.a, w.dj.symm, w.sd, w.s2, w.s1, w.sv⟩
theorem wfp_swap (b : Addr) (h : b ∈ wfp st p1 p2) : b ∈ wfp st p2 p1 := by
  unfold wfp at *
  simp only [List.mem_cons, List.mem_append] at *
  rcases h with h | h | h
  · exact .inl h
  · exact .inr (.inr h)
  · exact .inr (.inl h)
theorem Stp.swap {q1 q2 : PA} (s : Stp T H H' (wfp st p1 p2) (wfp st q1 q2) vp vp') : Stp T H H' (wfp st p2 p1) (wfp st q2 q1) vp vp' :=
  ⟨s.kp.mono wfp_swap, fun b hb => (s.fr b (wfp_swap b hb)).imp (wfp_swap b) id, s.vr, s.vs⟩
theorem Wd.keep0 (w : Wd C H vp A S1 S2 p1 p2 st) (k : Kp T [] H H') : Wd C H' vp A S1 S2 p1 p2 st :=
  ⟨w.a.keep0 k, w.b.keep0 k, w.dj, w.sd.keep k (fun z => by cases z), w.s1, w.s2, w.sv⟩
theorem Wd.draw (w : Wd C H vp A S1 S2 p1 p2 st) (k : Kp T [st] H H') (s : StAt H' st) : Wd C H' vp A S1 S2 p1 p2 st :=
  ⟨w.a.keep k (Dj.one w.s1) (Dj.one w.sv), w.b.keep k (Dj.one w.s2) (Dj.one w.sv), w.dj, s, w.s1, w.s2, w.sv⟩
theorem draw_stp (k : Kp T [st] H H') : Stp T H H' (wfp st p1 p2) (wfp st p1 p2) vp vp := Stp.ofK (k.mono fun b hb => by rw [List.mem_singleton.mp hb]; exact List.mem_cons_self)
theorem Wd.va (w : Wd C H vp A S1 S2 p1 p2 st) : ∀ b ∈ vp, Al H b := w.a.va
/-- a new list joins the pool -/
theorem Wd.pool (w : Wd C H vp A S1 S2 p1 p2 st) (n : ¬ Al H b) (k : Kp T [] H H') (al : Al H' b) : Wd C H' (b :: vp) A S1 S2 p1 p2 st := by
  have w' := w.keep0 k
  have va : ∀ c ∈ b :: vp, Al H' c := fun c hc => by
    rcases List.mem_cons.mp hc with e | e
    · rw [e]; exact al
    · exact w'.va c e
  have sub : ∀ c ∈ vp, c ∈ b :: vp := fun c hc => List.mem_cons_of_mem _ hc
  have dv : ∀ {p : PA} {S : SM}, PairAt C H vp A S p → Dj p.fp (b :: vp) := fun P c hc hv => by
    rcases List.mem_cons.mp hv with e | e
    · exact n (by rw [← e]; exact P.al c hc)
    · exact P.dv c hc e
  exact ⟨w'.a.pool sub (dv w.a) va, w'.b.pool sub (dv w.b) va, w.dj, w'.sd, w.s1, w.s2, fun z => by
    rcases List.mem_cons.mp z with e | e
    · exact n (by rw [← e]; exact w.sd.al)
    · exact w.sv e⟩
theorem pool_stp {fp : List Addr} (n : ¬ Al H b) (k : Kp T [] H H') : Stp T H H' fp fp vp (b :: vp) := ⟨k.sub, Fr.refl, fun c hc => by
  rcases List.mem_cons.mp hc with e | e
  · exact .inr (by rw [e]; exact n)
  · exact .inl e, fun c hc => List.mem_cons_of_mem _ hc⟩
/-- the first pair steps -/
theorem Wd.step (w : Wd C H vp A S1 S2 p1 p2 st) (s : Stp T H H' p1.fp p'.fp vp vp') (P : PairAt C H' vp' A S' p') : Wd C H' vp' A S' S2 p' p2 st := by
  have d2 : Dj p1.fp p2.fp := w.dj
  have b' := w.b.stp (A' := A) (S' := S2) s d2 w.a.dv P.va
  refine ⟨P, b', Dj.fresh d2 s.fr w.b.al, w.sd.keep s.kp w.s1, fun z => (s.fr st z).elim w.s1 fun y => y w.sd.al, w.s2, fun z => (s.vr st z).elim w.sv fun y => y w.sd.al⟩
theorem step_stp (s : Stp T H H' p1.fp p'.fp vp vp') : Stp T H H' (wfp st p1 p2) (wfp st p' p2) vp vp' := by
  refine ⟨s.kp.mono fun b hb => List.mem_cons_of_mem _ (List.mem_append_left _ hb), fun b hb => ?_, s.vr, s.vs⟩
  unfold wfp at hb
  simp only [List.mem_cons, List.mem_append] at hb
  rcases hb with h | h | h
  · exact .inl (by rw [h]; exact List.mem_cons_self)
  · exact (s.fr b h).imp (fun z => List.mem_cons_of_mem _ (List.mem_append_left _ z)) id
  · exact .inl (List.mem_cons_of_mem _ (List.mem_append_right _ h))
end
/-- the list of the two pairs -/
structure PrsAt (H : Hp) (lp t1 t2 : Addr) (p1 p2 : PA) : Prop where
  l : H lp = some (.lst [.ref t1, .ref t2])
  t1 : H t1 = some (.tup [.ref p1.a.p, .ref p1.n.q])
  t2 : H t2 = some (.tup [.ref p2.a.p, .ref p2.n.q])
theorem PrsAt.keep {T : List (Addr × Str)} {H H' : Hp} {fp : List Addr} {lp t1 t2 : Addr} {p1 p2 q1 q2 : PA} (r : PrsAt H lp t1 t2 p1 p2) (k : Kp T fp H H') (n : lp ∉ fp) (e1 : q1.a.p = p1.a.p) (e2 : q1.n.q = p1.n.q) (e3 : q2.a.p = p2.a.p) (e4 : q2.n.q = p2.n.q) : PrsAt H' lp t1 t2 q1 q2 :=
  ⟨k.get r.l n rfl, by rw [e1, e2]; exact k.t _ _ r.t1, by rw [e3, e4]; exact k.t _ _ r.t2⟩
/-! the rows of notes as data -/
theorem Vd.lay {vp : List Addr} {H : Hp} {v : V} {d : PyData} (h : Vd vp H v d) : d.canLay0 = true ∧ d.depth ≤ 1 := by
  cases h with
  | non => exact ⟨rfl, by simp [PyData.depth]⟩
  | int i => exact ⟨rfl, by simp [PyData.depth]⟩
  | str x h => exact ⟨SeqAt.canLay_of_shaped h, by simp [PyData.depth]⟩
  | lst a ns m h => exact ⟨cl_Lp, by have := de_Lp (ns := ns); unfold Lp at this; omega⟩
  | tup a ns h => exact ⟨cl_Tp, by have := de_Tp (ns := ns); unfold Tp at this; omega⟩
def rowD (A : Ag) (cnt : List Int) (p : Nat × PyData) : PyData := .tuple [Tp [(p.1 : Int), gen A (cn cnt p.1)], p.2]
theorem rows_dp {K : PySem.W.Frag} {H : Hp} {vp : List Addr} {A : Ag} {cnt : List Int} : ∀ {ts : List Addr} {l : List (Nat × PyData)}, Paired (Row H vp A cnt) ts l →
    DpAll K H (ts.map V.ref) (l.map (rowD A cnt)) ∧ PyData.canLayAll0 (l.map (rowD A cnt)) = true ∧ PyData.depthAll (l.map (rowD A cnt)) ≤ 2
  | _, _, .nil => ⟨.nil, by simp [PyData.canLayAll0], by simp [PyData.depthAll]⟩
  | _, _, .cons ⟨h, v, e1, e2, e3⟩ t => by
    obtain ⟨i1, i2, i3⟩ := rows_dp (K := K) t
    obtain ⟨l1, l2⟩ := e3.lay
    refine ⟨.cons (.tup (SqT.of e1) (.cons (dp_Hd e2) (.cons e3.dp .nil))) i1, ?_, ?_⟩
    · simp only [List.map_cons, PyData.canLayAll0, Bool.and_eq_true, rowD, PyData.canLay0]
      exact ⟨⟨cl_Tp, l1, trivial⟩, i2⟩
    · simp only [List.map_cons, PyData.depthAll, rowD, PyData.depth, de_Tp]
      omega
theorem rows_sh {A : Ag} {cnt : List Int} {l : List (Nat × PyData)} (h1 : PyData.canLayAll0 (l.map (rowD A cnt)) = true) (h2 : PyData.depthAll (l.map (rowD A cnt)) ≤ 2) : SeqAt.shaped (.list (l.map (rowD A cnt))) = true := by
  unfold SeqAt.shaped
  rw [Bool.and_eq_true]
  refine ⟨by simp only [PyData.canLay0]; exact h1, decide_eq_true ?_⟩
  simp only [PyData.depth]
  omega
theorem eqv_rows {A : Ag} {cnt : List Int} {l : List (Nat × PyData)} : PyData.eqv (.list (l.map (rowD A cnt))) (.list []) = decide (l = []) := by
  rw [PyData.eqv]
  cases l with
  | nil => simp [PyData.eqvAll]
  | cons p l => simp [PyData.eqvAll]
end Sw
namespace Sw
open PySem PySem.Spec PyProof.Rows L2 LamX
/-- both pairs, one behind the other: i of them have made the step -/
def InP (T : List (Addr × Str)) (C : Addr) (H0 : Hp) (vp0 : List Addr) (A : Ag) (st : Addr) (q1 q2 : PA) (S S' : SM) (i : Nat) (H' : Hp) : Prop :=
  ∃ vp' p1 p2, Wd C H' vp' A (if 1 ≤ i then S' else S) (if 2 ≤ i then S' else S) p1 p2 st ∧ (p1.a.p = q1.a.p ∧ p1.n.q = q1.n.q ∧ p2.a.p = q2.a.p ∧ p2.n.q = q2.n.q) ∧ Stp T H0 H' (wfp st q1 q2) (wfp st p1 p2) vp0 vp'
section
variable {T : List (Addr × Str)} {C : Addr} {H0 H H' : Hp} {vp0 vp vp' : List Addr} {A : Ag} {S S' : SM} {q1 q2 p : PA} {st b lp t1 t2 : Addr} {i : Nat} {x : V}
theorem Wd.dv (w : Wd C H vp A S S' q1 q2 st) : Dj (wfp st q1 q2) vp := fun b hb hv => by
  unfold wfp at hb
  simp only [List.mem_cons, List.mem_append] at hb
  rcases hb with h | h | h
  · exact w.sv (by rw [← h]; exact hv)
  · exact w.a.dv b h hv
  · exact w.b.dv b h hv
theorem Wd.al (w : Wd C H vp A S S' q1 q2 st) : ∀ b ∈ wfp st q1 q2, Al H b := fun b hb => by
  unfold wfp at hb
  simp only [List.mem_cons, List.mem_append] at hb
  rcases hb with h | h | h
  · rw [h]; exact w.sd.al
  · exact w.a.al b h
  · exact w.b.al b h
theorem InP.start (w : Wd C H vp A S S q1 q2 st) : InP T C H vp A st q1 q2 S S' 0 H := ⟨vp, q1, q2, w, ⟨rfl, rfl, rfl, rfl⟩, Stp.refl⟩
theorem InP.done (h : InP T C H0 vp0 A st q1 q2 S S' 2 H') : ∃ vp' p1 p2, Wd C H' vp' A S' S' p1 p2 st ∧ (p1.a.p = q1.a.p ∧ p1.n.q = q1.n.q ∧ p2.a.p = q2.a.p ∧ p2.n.q = q2.n.q) ∧ Stp T H0 H' (wfp st q1 q2) (wfp st p1 p2) vp0 vp' := h
theorem InP.kp (h : InP T C H0 vp0 A st q1 q2 S S' i H') : Kp T (wfp st q1 q2) H0 H' := by
  obtain ⟨_, _, _, _, _, s⟩ := h
  exact s.kp
theorem InP.turn (h : InP T C H0 vp0 A st q1 q2 S S' i H') (r : PrsAt H0 lp t1 t2 q1 q2) (hx : ([V.ref t1, V.ref t2] : List V)[i]? = some x) :
    ∃ t vp' p, x = .ref t ∧ H' t = some (.tup [.ref p.a.p, .ref p.n.q]) ∧ PairAt C H' vp' A S p ∧ Kp T (wfp st q1 q2) H0 H' ∧ (∀ b ∈ vp0, b ∈ vp') ∧
      ∀ vp'' p' H'', p'.a.p = p.a.p → p'.n.q = p.n.q → Stp T H' H'' p.fp p'.fp vp' vp'' → PairAt C H'' vp'' A S' p' → InP T C H0 vp0 A st q1 q2 S S' (i + 1) H'' := by
  obtain ⟨vp', p1, p2, w, ⟨e1, e2, e3, e4⟩, s⟩ := h
  match i, hx with
  | 0, hx =>
    cases hx
    refine ⟨t1, vp', p1, rfl, by rw [e1, e2]; exact s.kp.t _ _ r.t1, w.a, s.kp, s.vs, fun vp'' p' H'' f1 f2 st' P' => ⟨vp'', p', p2, w.step st' P', ⟨f1.trans e1, f2.trans e2, e3, e4⟩, s.trans (step_stp st')⟩⟩
  | 1, hx =>
    cases hx
    refine ⟨t2, vp', p2, rfl, by rw [e3, e4]; exact s.kp.t _ _ r.t2, w.b, s.kp, s.vs, fun vp'' p' H'' f1 f2 st' P' => ⟨vp'', p1, p', (w.swap.step st' P').swap, ⟨e1, e2, f1.trans e3, f2.trans e4⟩, s.trans (Stp.swap (step_stp st'))⟩⟩
end
/-- pairs[0][1] -/
theorem r01 {K : PySem.W.Frag} {H : Hp} {lp t1 t2 : Addr} {p1 p2 : PA} {F : V → Hp → Prop} (R : PrsAt H lp t1 t2 p1 p2) (q : F (.ref p1.n.q) H) : rIx K (.ref lp) (.int 0) H fun x H1 => rIx K x (.int 1) H1 F :=
  .inl ⟨lp, _, (0 : Nat), .ref t1, rfl, rfl, SqL.of R.l, at_nat rfl, .inr (.inl ⟨t1, _, (1 : Nat), .ref p1.n.q, rfl, rfl, SqT.of R.t1, at_nat rfl, q⟩)⟩
/-- live == [] or (len(live) < limit and digit(state, 3) > 0) -/
def tIsT (T : List (Addr × Str)) (C : Addr) : TE := fun σ H Q => ∃ (vp : List Addr) (A : Ag) (S S2 : SM) (p1 p2 : PA) (st : Addr), σ[0]? = some (some (.ref st)) ∧ σ[2]? = some (some (.int (A.lim : Int))) ∧ σ[4]? = some (some (.ref p1.n.lv)) ∧ Wd C H vp A S S2 p1 p2 st ∧ Wf A S ∧
  ∀ (b : Bool) H', Stp T H H' (wfp st p1 p2) (wfp st p1 p2) vp vp → Wd C H' vp A S S2 p1 p2 st → (b = true → S.live.length < A.lim) → (b = false → S.live ≠ []) → Q (.bl b) H'
theorem gives_lt {r : Rl} {S : SM} {l : List Nat} {s : Nat} (h : s ∈ l) (h' : s ∈ S.live.map (·.1)) : (S.gives r l).live.length < S.live.length := by
  obtain ⟨p, hp, e⟩ := List.mem_map.mp h'
  rw [gives_live]
  refine List.length_filter_lt_length_iff_exists.mpr ⟨p, hp, ?_⟩
  rw [e]
  simp [h]
theorem gives_le {r : Rl} {S : SM} {l : List Nat} : (S.gives r l).live.length ≤ S.live.length := by
  rw [gives_live]
  exact List.length_filter_le _ _
section
variable {P : Program} {w : World} {K : PySem.W.Frag} {mg : Str → Option Value} {base : Heap}
/-! _law_begun -/
def spBeg (T : List (Addr × Str)) (C : Addr) : Sp := fun vs H Q _ => ∃ (vp : List Addr) (A : Ag) (S : SM) (p1 p2 : PA) (st lp t1 t2 : Addr), vs = [.ref st, .ref lp] ∧ Wd C H vp A S S p1 p2 st ∧ PrsAt H lp t1 t2 p1 p2 ∧ lp ∉ wfp st p1 p2 ∧ Wf A S ∧ Tabs T H ∧
  ∀ vp' S' q1 q2 H', (q1.a.p = p1.a.p ∧ q1.n.q = p1.n.q ∧ q2.a.p = p2.a.p ∧ q2.n.q = p2.n.q) → Stp T H H' (wfp st p1 p2) (wfp st q1 q2) vp vp' → Wd C H' vp' A S' S' q1 q2 st → Wf A S' → S'.live.length < A.lim → (∀ s, cn S.cnt s ≤ cn S'.cnt s ∧ cn S'.cnt s ≤ cn S.cnt s + 12) → Q (.bl true) H'
abbrev NBe : List Str := ["_law_state_here", "_law_pairs", "_law_limit", "_law_turn", "_law_live", "_law_value", "_law_is_take", "_law_handle", "_law_slots", "_law_notes_here", "_law_many", "_law_gone"]
theorem sc_beg : FnScope NBe ["_law_state_here", "_law_pairs"] d_L_begun.scope := ⟨rfl, rfl, rfl, by decide +kernel, rfl, by decide +kernel, by decide +kernel⟩
theorem ok_beg (t : Tx K mg base) : Cl P w K mg base 5 "_law_begun" (spBeg (TT K) (SC K)) := by
  obtain ⟨fd, F⟩ := t.e_L_begun
  refine mkCl (N := NBe) (ps := ["_law_state_here", "_law_pairs"]) F t.g_L_begun (fun _ _ _ _ _ _ us hl => match us, hl with | [_, _], _ => rfl) sc_beg (fun vs H Q E h => ?_) (fun cdv A outer s H vs Q E hr h => ?_)
  · obtain ⟨_, _, _, _, _, _, _, _, _, rfl, _⟩ := h
    rfl
  · obtain ⟨vp, G, S, p1, p2, st, lp, t1, t2, rfl, W, R, nlp, wf, tb, q⟩ := h
    have nd : NBe.Nodup := by decide +kernel
    refine ⟨_, pss_cons (ps_set (i := 2) nd rfl (Or.inl rfl) (pe_ix ix_seq (pe_dget (hu_of hr) (pe_ix ix_seq (pe_ix ix_seq (pv 1) pe_int fun _ _ => rfl) pe_int fun _ _ => rfl) pe_str (fun _ _ => rfl)) pe_int fun _ _ => rfl) rfl)
      (pss_cons (ps_for PassesOwn.never rfl (pi_range1 rfl t.b_range (pa_cons (pe_c (ok_digit t) hr (by decide) rfl (pa_cons (pv 0) (pa_cons pe_int pa_nil))) pa_nil)) (pg_name (i := 3) nd rfl (Or.inl rfl))
        (pss_cons (ps_par (i := 4) (j := 5) (by rfl) nd rfl rfl (by decide) rfl rfl (pa_cons (pe_dget (hu_of hr) (pe_ix ix_seq (pe_ix ix_seq (pv 1) pe_int fun _ _ => rfl) pe_int fun _ _ => rfl) pe_str (fun _ _ => rfl))
            (pa_cons (pe_c (ok_one t) hr (by decide) rfl (pa_cons (pv 0) (pa_cons (pe_lst (pa_cons pe_int (pa_cons pe_non (pa_cons pe_str (pa_cons (pe_lst pa_nil) (pa_cons (pe_tup (pa_cons pe_int pa_nil)) (pa_cons (pv 3) pa_nil))))))) pa_nil))) pa_nil)) (by rfl))
        (pss_cons (ps_set (i := 6) nd rfl (Or.inl rfl) (pe_wrap (te' := tIsT (TT K) (SC K)) (pe_or (pe_cmpR (op_eqD hr.units) (pv 4) (pe_lst pa_nil) rfl) (pe_one (pe_and (pe_cmpR op_lt (pe_callB call_len_seq rfl t.b_len (by decide +kernel) (pa_cons (pv 4) pa_nil)) (pv 2) rfl)
            (pe_one (pe_cmpR op_gt (pe_c (ok_digit t) hr (by decide) rfl (pa_cons (pv 0) (pa_cons pe_int pa_nil))) pe_int rfl))))) ?wis) rfl)
        (pss_cons (ps_set (i := 7) nd rfl (Or.inl rfl) (pe_ifExp (pt_val (pv 6)) pe_non (pe_ix ix_seq (pe_c (ok_one t) hr (by decide) rfl (pa_cons (pv 0) (pa_cons (pv 4) pa_nil))) pe_int fun _ _ => rfl)) rfl)
        (pss_one (ps_for PassesOwn.never rfl (pi_list (pv 1)) (pg_tup rfl (pgs_cons (pg_name (i := 8) nd rfl (Or.inl rfl)) (pgs_cons (pg_name (i := 9) nd rfl (Or.inl rfl)) pgs_nil)))
          (pss_cons (ps_if (PW.pt (pw_and (pt_val (pv 6)) (pw_and1 (pt_cmpR (op_neD hr.units) (pe_mt (ok_take t) hr (by decide) (pv 8) (pa_cons (pv 5) pa_nil)) (pe_c (ok_tkn t) hr (by decide) rfl (pa_cons (pv 9) (pa_cons (pv 5) pa_nil))) rfl)))) (pss_one ps_never) pss_nil)
          (pss_one (ps_if (PW.pt (pw_and (pt_not (pt_val (pv 6))) (pw_and1 (pt_cmpR (op_neD hr.units) (pe_mt (ok_give t) hr (by decide) (pv 8) (pa_cons (pv 7) pa_nil)) (pe_c (ok_gvn t) hr (by decide) rfl (pa_cons (pv 9) (pa_cons (pv 7) pa_nil))) rfl)))) (pss_one ps_never) pss_nil)))))))))
      (pss_cons (ps_set (i := 10) nd rfl (Or.inl rfl) (pe_c (ok_one t) hr (by decide) rfl (pa_cons (pv 0) (pa_cons (pe_lst (pa_cons pe_int (pa_cons pe_int (pa_cons (pe_callB call_len_seq rfl t.b_len (by decide +kernel) (pa_cons (pe_dget (hu_of hr) (pe_ix ix_seq (pe_ix ix_seq (pv 1) pe_int fun _ _ => rfl) pe_int fun _ _ => rfl) pe_str (fun _ _ => rfl)) pa_nil)) pa_nil)))) pa_nil))) rfl)
      (pss_cons (ps_setLc (i := 11) (own := [("_law_handle", 7), ("_law_value", 5)]) (g := gTup K 2 (gCons (gName 7) (gCons (gName 5) gNil))) (tt := tYes) (by rfl) nd rfl rfl (sw_true rfl rfl rfl (by decide +kernel)) (pi_list (pe_dget (hu_of hr) (pe_ix ix_seq (pe_ix ix_seq (pv 1) pe_int fun _ _ => rfl) pe_int fun _ _ => rfl) pe_str (fun _ _ => rfl))) (blkOk_by (own := [("_law_handle", 7), ("_law_value", 5)]) (N := NBe) (sc := d_L_begun.scope) (by decide +kernel))
          (fun _ _ _ _ _ => pg_tupK (K := K) rfl rfl (pgs_cons (pg_name (i := 7) nd rfl (Or.inl rfl)) (pgs_cons (pg_name (i := 5) nd rfl (Or.inl rfl)) pgs_nil))) (fun _ _ _ _ _ => pts_nil) (fun _ _ _ _ _ => pv 7))
      (pss_cons (ps_for PassesOwn.never rfl (pi_list (pe_slice sl_list (pv 11) po_none (po_some (pe_callB (call_max2 rfl) rfl t.b_max (by decide +kernel) (pa_cons (pv 10) (pa_cons (pe_callTy call_int1 rfl t.b_int (by decide +kernel) (pa_cons (pe_cmpR op_eq (pe_callB call_len_seq rfl t.b_len (by decide +kernel) (pa_cons (pv 11) pa_nil)) (pv 2) rfl) pa_nil)) pa_nil)))))) (pg_name (i := 7) nd rfl (Or.inl rfl))
          (pss_one (ps_for PassesOwn.never rfl (pi_list (pv 1)) (pg_tup rfl (pgs_cons (pg_name (i := 8) nd rfl (Or.inl rfl)) (pgs_cons (pg_name (i := 9) nd rfl (Or.inl rfl)) pgs_nil)))
            (pss_one (ps_if (pt_cmpR (op_neD hr.units) (pe_mt (ok_give t) hr (by decide) (pv 8) (pa_cons (pv 7) pa_nil)) (pe_c (ok_gvn t) hr (by decide) rfl (pa_cons (pv 9) (pa_cons (pv 7) pa_nil))) rfl) (pss_one ps_never) pss_nil)))))
      (pss_one (ps_ret pe_bl)))))), ?_⟩
    case wis =>
      rintro σ H Q ⟨vp, A, S, S2, p1, p2, st, g0, g2, g4, W, wf, qq⟩
      refine ⟨_, g4, sz (Nat.zero_le _), fun pe hpe => ?_⟩
      have ke : Kp (TT K) [] H (upd H pe (.lst [])) := Kp.new hpe fun _ z => by cases z
      have W1 := W.keep0 ke
      obtain ⟨ts, hv, hts⟩ := W1.a.n.live
      obtain ⟨d1, d2, d3⟩ := rows_dp (K := K) hts
      have lts : ts.length = S.live.length := pr_len hts
      refine ⟨_, .list [], .lst (SqL.of hv) d1, .lst (SqL.of upd_same) .nil, rows_sh d2 d3, sh_Lp (ns := []), _, rfl, ?_⟩
      rw [eqv_rows]
      by_cases hl : S.live = []
      · rw [decide_eq_true hl]
        exact iteT (qq true _ (Stp.of0 ke) W1 (fun _ => by rw [hl]; have := wf.ok.l1; exact this) fun z => by cases z)
      · rw [decide_eq_false hl]
        refine iteF ⟨_, g4, p1.n.lv, _, rfl, .inl (SqL.of hv), _, g2, _, _, rfl, rfl, _, rfl, ?_⟩
        rw [List.length_map, lts]
        by_cases hlim : S.live.length < A.lim
        · rw [decide_eq_true (show ((S.live.length : Nat) : Int) < (A.lim : Int) by omega)]
          refine iteT ⟨_, g0, st, 3, rfl, W1.sd, by decide, by decide, fun d H4 _ k4 s4 => ⟨_, _, rfl, rfl, ?_⟩⟩
          exact qq _ _ ((Stp.of0 ke).trans (draw_stp k4)) (W1.draw k4 s4) (fun _ => hlim) fun _ => hl
        · rw [decide_eq_false (show ¬ ((S.live.length : Nat) : Int) < (A.lim : Int) by omega)]
          exact iteF (qq false _ (Stp.of0 ke) W1 (fun z => by cases z) fun _ => hl)
    -- limit
    refine ⟨_, rfl, r01 R (dg (gn_n W.a.n.ob) (.inr (.inl ⟨p1.n.tn, _, (1 : Nat), .int G.lim, rfl, rfl, SqT.of W.a.n.nums, at_nat rfl, ?_⟩)))⟩
    refine ⟨_, rfl, st, 12, rfl, W.sd, by decide, by decide, fun dg0 H1 hd1 k1 s1 => ⟨dg0, rfl, by omega, by omega, ?_⟩⟩
    rw [Int.toNat_natCast]
    have PvF : True := trivial
    refine for_range (fun i σ' H' => ∃ vp' Si q1 q2, Wd (SC K) H' vp' G Si Si q1 q2 st ∧ Wf G Si ∧ (q1.a.p = p1.a.p ∧ q1.n.q = p1.n.q ∧ q2.a.p = p2.a.p ∧ q2.n.q = p2.n.q) ∧ Stp (TT K) H H' (wfp st p1 p2) (wfp st q1 q2) vp vp' ∧ (∀ s, cn S.cnt s ≤ cn Si.cnt s ∧ cn Si.cnt s ≤ cn S.cnt s + (i : Int)) ∧
        ∃ u3 u4 u5 u6 u7 u8 u9, σ' = [some (.ref st), some (.ref lp), some (.int (G.lim : Int)), u3, u4, u5, u6, u7, u8, u9, none, none])
      ⟨vp, S, p1, p2, W.draw k1 s1, wf, ⟨rfl, rfl, rfl, rfl⟩, draw_stp k1, fun s => ⟨by omega, by omega⟩, _, _, _, _, _, _, _, rfl⟩ (fun i σ1 H' hi z => ?_) fun σ1 H' z => ?_
    · obtain ⟨vp', Si, q1, q2, W', wf', ⟨n1, n2, n3, n4⟩, st', cb, u3, u4, u5, u6, u7, u8, u9, rfl⟩ := z
      have R' := R.keep st'.kp nlp n1 n2 n3 n4
      rw [Int.zero_add]
      refine ⟨_, rfl, r01 R' (dg (gn_l W'.a.n.ob) ?_)⟩
      refine ⟨_, rfl, sz (Nat.zero_le _), fun le hle => ⟨sz (show 1 ≤ 1000 by decide), fun te hte => ⟨_, rfl, sz (show 6 ≤ 1000 by decide), fun lw hlw => ?_⟩⟩⟩
      have kA : Kp (TT K) [] H' (upd H' le (.lst [])) := Kp.new hle fun _ z => by cases z
      have kB : Kp (TT K) [] (upd H' le (.lst [])) (upd (upd H' le (.lst [])) te (.tup [.int 1])) := Kp.new hte fun _ z => by cases z
      have kC : Kp (TT K) [] (upd (upd H' le (.lst [])) te (.tup [.int 1])) (upd (upd (upd H' le (.lst [])) te (.tup [.int 1])) lw (.lst [.int 0, .non, .str "a", .ref le, .ref te, .int (i : Int)])) := Kp.new hlw fun _ z => by cases z
      have WA := W'.pool (nAl hle) kA (Al.l upd_same)
      have WC := WA.keep0 (kB.then kC)
      have stC : Stp (TT K) H' (upd (upd (upd H' le (.lst [])) te (.tup [.int 1])) lw (.lst [.int 0, .non, .str "a", .ref le, .ref te, .int (i : Int)])) (wfp st q1 q2) (wfp st q1 q2) vp' (le :: vp') := (pool_stp (nAl hle) kA).trans (Stp.of0 (kB.then kC))
      have nls : lw ≠ st := fun z => nAl hlw (by rw [z]; exact (WA.keep0 kB).sd.al)
      refine ⟨st, lw, _, rfl, WC.sd, upd_same, nls, (by intro z; cases z), (show 6 ≤ 1000 by decide), fun j x H2 hj k2 s2 => ?_⟩
      have hvd : ∃ dv, Vd (le :: vp') (upd (upd (upd H' le (.lst [])) te (.tup [.int 1])) lw (.lst [.int 0, .non, .str "a", .ref le, .ref te, .int (i : Int)])) x dv := by
        match j, hj with
        | 0, hj => cases hj; exact ⟨_, .int 0⟩
        | 1, hj => cases hj; exact ⟨_, .non⟩
        | 2, hj => cases hj; exact ⟨_, .str "a" (by decide +kernel)⟩
        | 3, hj => cases hj; exact ⟨_, .lst le [] List.mem_cons_self ((kB.then kC).get (upd_same (H := H') (a := le)) (fun z => by cases z) rfl)⟩
        | 4, hj => cases hj; exact ⟨_, .tup te [1] (kC.t _ _ upd_same)⟩
        | 5, hj => cases hj; exact ⟨_, .int i⟩
      obtain ⟨dv, hvC⟩ := hvd
      have W2 := WC.draw k2 s2
      have hv2 := hvC.keep k2 (Dj.one WC.sv)
      have st2 := stC.trans (draw_stp k2)
      refine ⟨_, _, rfl, ?_⟩
      -- is_take
      refine ⟨le :: vp', G, Si, Si, q1, q2, st, rfl, rfl, rfl, W2, wf', fun bt H3 st3 W3 hb1 hb2 => ?_⟩
      have hv3 := hv2.keep st3.kp W2.dv
      have st03 := st2.trans st3
      have st0 := st'.trans st03
      have R3 := R.keep st0.kp nlp n1 n2 n3 n4
      refine ⟨_, rfl, bt, rfl, ?_⟩
      cases bt with
      | true =>
        refine iteT ?_
        have hlim := hb1 rfl
        obtain ⟨sl, f, hf⟩ : ∃ sl f, Si.free = sl :: f := by
          cases hfr : Si.free with
          | nil =>
            have := wf'.count
            rw [hfr, List.length_nil] at this
            have := wf'.ok.ln
            omega
          | cons a l => exact ⟨a, l, rfl⟩
        refine ⟨_, rfl, lp, rfl, ⟨_, SqL.of R3.l⟩, ?_⟩
        refine for_list (xs := [.ref t1, .ref t2]) (fun i' σ' Hc => InP (TT K) (SC K) H3 (le :: vp') G st q1 q2 Si (Si.take dv) i' Hc ∧ ∃ u8 u9, σ' = [some (.ref st), some (.ref lp), some (.int (G.lim : Int)), some (.int (i : Int)), some (.ref q1.n.lv), some x, some (.bl true), some .non, u8, u9, none, none])
          ⟨InP.start W3, _, _, rfl⟩ (fun i' σ' Hc _ z => SqL.of (z.1.kp.get R3.l (fun zz => (st0.fr lp zz).elim nlp fun y => y (Al.l R.l)) rfl)) (fun i' y σ2 Hc hy z => ?_) fun σ2 Hc z => ?_
        · obtain ⟨inp, u8, u9, rfl⟩ := z
          obtain ⟨tt, vpx, p, rfl, ht, PP, kk, sub, next⟩ := inp.turn R3 hy
          have hvx := (hv3.keep kk W3.dv).mono sub
          refine ⟨tt, _, rfl, SqT.of ht, rfl, _, _, rfl, _, _, rfl, rfl, ?_⟩
          refine ⟨_, rfl, true, rfl, iteT ?_⟩
          refine ⟨_, rfl, PP.s.md rfl ⟨_, rfl, vpx, G, Si, p.a, x, dv, sl, f, rfl, PP.s, wf', (st0.kp.tab tb |> kk.tab), hf, hlim, hvx, fun h H4 k4 e4 s4 => ?_⟩⟩
          refine ⟨_, rfl, _, rfl, vpx, G, Si, p.n, x, dv, sl, f, rfl, PP.taken1 k4, wf', hf, hvx.keep k4 PP.s.dj, fun h2 H5 k5 e5 n5 => ?_⟩
          refine ⟨_, _, dp_Hd (k5.t _ _ e4), dp_Hd e5, sh_Tp, sh_Tp, false, by rw [eqv_Tp, decide_eq_true rfl]; rfl, iteF ?_⟩
          refine ⟨_, rfl, true, rfl, iteF (iteF ⟨next vpx p H5 rfl rfl (Stp.ofK (PairAt.taken3 k4 k5)) (PP.taken2 s4 k5 n5), _, _, rfl⟩)⟩
        · obtain ⟨inp, u8, u9, rfl⟩ := z
          obtain ⟨vpf, r1, r2, Wf', ⟨m1, m2, m3, m4⟩, stf⟩ := inp.done
          have cbt : ∀ s, cn S.cnt s ≤ cn (Si.take dv).cnt s ∧ cn (Si.take dv).cnt s ≤ cn S.cnt s + ((i + 1 : Nat) : Int) := fun s => by
            rw [take_eq hf]
            show _ ≤ cn (bump Si.cnt sl) s ∧ cn (bump Si.cnt sl) s ≤ _
            rw [cn_bump (wf'.lt (by rw [hf]; exact List.mem_cons_self))]
            have h1 := cb s
            by_cases e : s = sl
            · rw [if_pos e, ← e]; omega
            · rw [if_neg e]; omega
          exact ⟨vpf, Si.take dv, r1, r2, Wf', wf'.take hf hlim, ⟨m1.trans n1, m2.trans n2, m3.trans n3, m4.trans n4⟩, st0.trans stf, cbt, _, _, _, _, _, _, _, rfl⟩
      | false =>
        refine iteF ?_
        have hne := hb2 rfl
        obtain ⟨ts, hv, hts⟩ := W3.a.n.live
        have lts : ts.length = Si.live.length := pr_len hts
        have llim : Si.live.length ≤ 6 := by
          have := wf'.lim
          have := wf'.ok.ln
          have := wf'.ok.n6
          omega
        have nlv : q1.n.lv ≠ st := fun z => W3.s1 (by rw [← z]; exact PA.n_in _ (by simp [NA.fp]))
        refine ⟨_, rfl, _, rfl, st, q1.n.lv, ts.map V.ref, rfl, W3.sd, hv, nlv, ?_, by rw [List.length_map, lts]; omega, fun j y H4 hj k4 s4 => ?_⟩
        · intro z
          have := congrArg List.length z
          rw [List.length_map, lts, List.length_nil] at this
          exact hne (List.length_eq_zero_iff.mp this)
        · rw [List.getElem?_map] at hj
          cases htj : ts[j]? with
          | none => rw [htj] at hj; cases hj
          | some tj =>
            rw [htj] at hj
            cases hj
            obtain ⟨pr, hpr, hh, vv, e1, e2, e3⟩ := pr_at1 hts htj
            have hm : (pr.1, pr.2) ∈ Si.live := List.mem_of_getElem? hpr
            refine .inr (.inl ⟨tj, _, (0 : Nat), .ref hh, rfl, rfl, SqT.of (k4.t _ _ e1), at_nat rfl, ?_⟩)
            have W4 := W3.draw k4 s4
            have st04 := st0.trans (draw_stp k4)
            have R4 := R.keep st04.kp nlp n1 n2 n3 n4
            refine ⟨_, rfl, lp, rfl, ⟨_, SqL.of R4.l⟩, ?_⟩
            refine for_list (xs := [.ref t1, .ref t2]) (fun i' σ' Hc => InP (TT K) (SC K) H4 (le :: vp') G st q1 q2 Si (Si.give G.r pr.1) i' Hc ∧ ∃ u8 u9, σ' = [some (.ref st), some (.ref lp), some (.int (G.lim : Int)), some (.int (i : Int)), some (.ref q1.n.lv), some x, some (.bl false), some (.ref hh), u8, u9, none, none])
              ⟨InP.start W4, _, _, rfl⟩ (fun i' σ' Hc _ z => SqL.of (z.1.kp.get R4.l (fun zz => (st04.fr lp zz).elim nlp fun y => y (Al.l R.l)) rfl)) (fun i' y σ2 Hc hy z => ?_) fun σ2 Hc z => ?_
            · obtain ⟨inp, u8, u9, rfl⟩ := z
              obtain ⟨tt, vpx, p, rfl, ht, PP, kk, sub, next⟩ := inp.turn R4 hy
              refine ⟨tt, _, rfl, SqT.of ht, rfl, _, _, rfl, _, _, rfl, rfl, ?_⟩
              have ehh := kk.t _ _ (k4.t _ _ e2)
              refine ⟨_, rfl, false, rfl, iteF (iteF ?_)⟩
              refine ⟨_, rfl, false, rfl, iteT ?_⟩
              refine ⟨_, rfl, PP.s.md rfl ⟨_, rfl, vpx, G, Si, p.a, hh, pr.1, pr.2, rfl, PP.s, wf', hm, ehh, fun v1 a' H5 ea k5 f5 hv5 s5 => ?_⟩⟩
              refine ⟨_, rfl, _, rfl, vpx, G, Si, p.n, hh, pr.1, pr.2, rfl, PP.taken1 k5, wf', k5.tab (kk.tab (st04.kp.tab tb)), hm, k5.t _ _ ehh, fun v2 n' H6 en _ k6 f6 hv6 n6 => ?_⟩
              have hv5' := hv5.keep k6 PP.n.dj
              refine ⟨pr.2, pr.2, hv5'.dp, hv6.dp, hv5.shaped, hv5.shaped, false, by rw [eqv_sh hv5.shaped]; rfl, iteF ?_⟩
              exact ⟨next vpx ⟨a', n'⟩ H6 ea en (PairAt.given3 k5 f5 k6 f6) (PP.given2 k5 f5 s5 k6 f6 n6), _, _, rfl⟩
            · obtain ⟨inp, u8, u9, rfl⟩ := z
              obtain ⟨vpf, r1, r2, Wf', ⟨m1, m2, m3, m4⟩, stf⟩ := inp.done
              exact ⟨vpf, Si.give G.r pr.1, r1, r2, Wf', wf'.give hm, ⟨m1.trans n1, m2.trans n2, m3.trans n3, m4.trans n4⟩, st04.trans stf, (fun s => by have h1 := cb s; show _ ≤ cn Si.cnt s ∧ cn Si.cnt s ≤ _; omega), _, _, _, _, _, _, _, rfl⟩
    · obtain ⟨vp', Si, q1, q2, W', wf', ⟨n1, n2, n3, n4⟩, st', cb, u3, u4, u5, u6, u7, u8, u9, rfl⟩ := z
      have R' := R.keep st'.kp nlp n1 n2 n3 n4
      obtain ⟨ts, hv, hts⟩ := W'.a.n.live
      have lts : ts.length = Si.live.length := pr_len hts
      have llim : Si.live.length ≤ 6 := by
        have := wf'.lim
        have := wf'.ok.ln
        have := wf'.ok.n6
        omega
      -- many
      refine ⟨_, rfl, _, rfl, r01 R' (dg (gn_l W'.a.n.ob) ⟨q1.n.lv, _, rfl, .inl (SqL.of hv), sz (show 3 ≤ 1000 by decide), fun lw hlw => ?_⟩)⟩
      have kA : Kp (TT K) [] H' (upd H' lw (.lst [.int 0, .int 0, .int (((ts.map V.ref).length : Nat) : Int)])) := Kp.new hlw fun _ z => by cases z
      have WA := W'.keep0 kA
      have nls : lw ≠ st := fun z => nAl hlw (by rw [z]; exact W'.sd.al)
      refine ⟨st, lw, _, rfl, WA.sd, upd_same, nls, (by intro z; cases z), (show 3 ≤ 1000 by decide), fun j x H2 hj k2 s2 => ?_⟩
      have hmx : ∃ m : Nat, x = .int (m : Int) ∧ m ≤ Si.live.length := by
        match j, hj with
        | 0, hj => cases hj; exact ⟨0, rfl, Nat.zero_le _⟩
        | 1, hj => cases hj; exact ⟨0, rfl, Nat.zero_le _⟩
        | 2, hj => cases hj; exact ⟨_, rfl, by rw [List.length_map, lts]; exact Nat.le_refl _⟩
      obtain ⟨m, rfl, hm⟩ := hmx
      have W2 := WA.draw k2 s2
      have st2 := (Stp.of0 (fp := wfp st q1 q2) (vp := vp') kA).trans (draw_stp k2)
      have st02 := st'.trans st2
      have R2 := R.keep st02.kp nlp n1 n2 n3 n4
      obtain ⟨ts2, hv2, hts2⟩ := W2.a.n.live
      have lts2 : ts2.length = Si.live.length := pr_len hts2
      -- gone
      refine ⟨_, rfl, r01 R2 (dg (gn_l W2.a.n.ob) ⟨q1.n.lv, rfl, ⟨_, SqL.of hv2⟩, fun D hD => ?_⟩)⟩
      refine lcL (T := TT K) (fun i acc H' => ∃ hs, acc = hs.map V.ref ∧ Hds H' G Si.cnt hs ((Si.live.map (·.1)).take i)) (fun H' k => SqL.kp hv2 k) (by rw [List.length_map]; omega) hD (fun _ _ _ _ r k => r.imp fun hs z => ⟨z.1, z.2.kp k⟩) ⟨[], rfl, .nil⟩ (fun i x acc H' N M hx k hd r n' m => ?_) fun H4 acc k4 hd4 hl4 r => ?_
      · rw [List.getElem?_map] at hx
        cases hi : ts2[i]? with
        | none => rw [hi] at hx; cases hx
        | some ti =>
          rw [hi] at hx
          cases hx
          obtain ⟨p, hp, hi', vi, e1, e2, e3⟩ := pr_at1 hts2 hi
          obtain ⟨hs, r1, r2⟩ := r
          refine ⟨ti, _, rfl, SqT.kp e1 k, rfl, _, _, rfl, _, _, rfl, rfl, rfl, it1 (B := M H') ⟨_, rfl, n' _ _ Kp.refl ⟨hs ++ [hi'], by rw [r1, List.map_append]; rfl, ?_⟩⟩⟩
          rw [List.take_succ, List.getElem?_map, hp]
          exact pr_app r2 (.cons (k.t _ _ e2) .nil)
      obtain ⟨hs, r1, r2⟩ := r
      subst r1
      rw [List.length_map, lts2, List.take_of_length_le (by rw [List.length_map]; exact Nat.le_refl _)] at r2
      have lhs : hs.length = Si.live.length := by rw [pr_len r2, List.length_map]
      have W4 := W2.keep0 k4
      have st04 := st02.trans (Stp.of0 k4)
      -- how many
      have hg : ∃ g : Nat, (if (if decide (V.int (((hs.map V.ref).length : Nat) : Int) = V.int (G.lim : Int)) = true then (1 : Int) else 0) > (m : Int) then (if decide (V.int (((hs.map V.ref).length : Nat) : Int) = V.int (G.lim : Int)) = true then (1 : Int) else 0) else (m : Int)) = (g : Int) ∧
          g ≤ Si.live.length ∧ (Si.live.length = G.lim → 0 < g) := by
        rw [List.length_map, lhs]
        have l1 := wf'.ok.l1
        by_cases hl : Si.live.length = G.lim
        · rw [if_pos (decide_eq_true (by rw [hl]))]
          by_cases hm0 : (1 : Int) > (m : Int)
          · rw [if_pos hm0]
            exact ⟨1, rfl, by omega, fun _ => by omega⟩
          · rw [if_neg hm0]
            exact ⟨m, rfl, hm, fun _ => by omega⟩
        · have hd : decide (V.int ((Si.live.length : Nat) : Int) = V.int (G.lim : Int)) = false := decide_eq_false fun z => by
            injection z with z
            exact hl (Int.ofNat.inj z)
          rw [hd]
          simp only [Bool.false_eq_true, if_false]
          rw [if_neg (by omega)]
          exact ⟨m, rfl, hm, fun z => absurd z hl⟩
      obtain ⟨g, eg, hgl, hg0⟩ := hg
      refine ⟨_, rfl, _, rfl, _, rfl, D, _, rfl, .inl (SqL.of hd4), _, rfl, rfl, .inr ⟨_, rfl, _, _, rfl, _, rfl, ?_⟩⟩
      refine ⟨D, _, rfl, SqL.of hd4, fun pg hpg => ?_⟩
      rw [eg, cut_to (by rw [List.length_map, lhs]; exact hgl)]
      have kg : Kp (TT K) [] H4 (upd H4 pg (.lst ((hs.map V.ref).take g))) := Kp.new hpg fun _ z => by cases z
      have W5 := W4.keep0 kg
      have st05 := st04.trans (Stp.of0 kg)
      have npg : pg ∉ wfp st q1 q2 := fun z => nAl hpg (W4.al pg z)
      have apg : Al (upd H4 pg (.lst ((hs.map V.ref).take g))) pg := Al.l upd_same
      have epg : (hs.map V.ref).take g = (hs.take g).map V.ref := List.map_take.symm
      have lsd := wf'.live_nd
      refine ⟨pg, rfl, ⟨_, SqL.of upd_same⟩, ?_⟩
      refine for_list (xs := (hs.map V.ref).take g) (fun i σ' H' => ∃ vpz r1 r2, Wd (SC K) H' vpz G (Si.gives G.r ((Si.live.map (·.1)).take i)) (Si.gives G.r ((Si.live.map (·.1)).take i)) r1 r2 st ∧ Wf G (Si.gives G.r ((Si.live.map (·.1)).take i)) ∧ (r1.a.p = p1.a.p ∧ r1.n.q = p1.n.q ∧ r2.a.p = p2.a.p ∧ r2.n.q = p2.n.q) ∧
          Stp (TT K) (upd H4 pg (.lst ((hs.map V.ref).take g))) H' (wfp st q1 q2) (wfp st r1 r2) vp' vpz ∧ ∃ u3 u4 u5 u6 u7 u8 u9, σ' = [some (.ref st), some (.ref lp), some (.int (G.lim : Int)), u3, u4, u5, u6, u7, u8, u9, some (.int (m : Int)), some (.ref D)])
        ⟨vp', q1, q2, W5, wf', ⟨n1, n2, n3, n4⟩, Stp.refl, _, _, _, _, _, _, _, rfl⟩ (fun i σ' H' _ z => ?_) (fun i x σ1 H' hx z => ?_) fun σ1 H' z => ?_
      · obtain ⟨vpz, r1, r2, _, _, _, stz, _⟩ := z
        exact SqL.of (stz.kp.get upd_same npg rfl)
      · obtain ⟨vpz, r1, r2', Wz, wfz, ⟨m1, m2, m3, m4⟩, stz, v3, v4, v5, v6, v7, v8, v9, rfl⟩ := z
        rw [epg, List.getElem?_map] at hx
        cases hi : (hs.take g)[i]? with
        | none => rw [hi] at hx; cases hx
        | some hh =>
          rw [hi] at hx
          cases hx
          have hi2 : hs[i]? = some hh := by
            rw [List.getElem?_take] at hi
            split at hi
            · exact hi
            · cases hi
          obtain ⟨sl, s1, s2⟩ := pr_at1 r2 hi2
          have hcn : cn (Si.gives G.r ((Si.live.map (·.1)).take i)).cnt sl = cn Si.cnt sl := by rw [gives_cnt]
          have hnt : sl ∉ (Si.live.map (·.1)).take i := by
            intro z
            obtain ⟨j, hj⟩ := List.getElem?_of_mem z
            rw [List.getElem?_take] at hj
            split at hj
            · exact absurd (nd_ix lsd hj s1) (by omega)
            · cases hj
          obtain ⟨pr, hpr, epr⟩ := List.mem_map.mp (List.mem_of_getElem? s1)
          have hmem : (sl, pr.2) ∈ (Si.gives G.r ((Si.live.map (·.1)).take i)).live := by
            rw [gives_live, List.mem_filter]
            refine ⟨by rw [← epr]; exact hpr, decide_eq_true hnt⟩
          have eh5 := kg.t _ _ s2
          have ehz := stz.kp.t _ _ eh5
          have stall := st05.trans stz
          have Rz := R.keep stall.kp nlp m1 m2 m3 m4
          have eg2 : (Si.gives G.r ((Si.live.map (·.1)).take i)).give G.r sl = Si.gives G.r ((Si.live.map (·.1)).take (i + 1)) := by
            rw [List.take_succ, s1, gives_app]
            rfl
          refine ⟨_, rfl, lp, rfl, ⟨_, SqL.of Rz.l⟩, ?_⟩
          refine for_list (xs := [.ref t1, .ref t2]) (fun i' σ' Hc => InP (TT K) (SC K) H' vpz G st r1 r2' (Si.gives G.r ((Si.live.map (·.1)).take i)) ((Si.gives G.r ((Si.live.map (·.1)).take i)).give G.r sl) i' Hc ∧ ∃ u8 u9, σ' = [some (.ref st), some (.ref lp), some (.int (G.lim : Int)), v3, v4, v5, v6, some (.ref hh), u8, u9, some (.int (m : Int)), some (.ref D)])
            ⟨InP.start Wz, _, _, rfl⟩ (fun i' σ' Hc _ z => SqL.of (z.1.kp.get Rz.l (fun zz => (stall.fr lp zz).elim nlp fun y => y (Al.l R.l)) rfl)) (fun i' y σ2 Hc hy z => ?_) fun σ2 Hc z => ?_
          · obtain ⟨inp, u8, u9, rfl⟩ := z
            obtain ⟨tt, vpx, p, rfl, ht, PP, kk, sub, next⟩ := inp.turn Rz hy
            refine ⟨tt, _, rfl, SqT.of ht, rfl, _, _, rfl, _, _, rfl, rfl, ?_⟩
            have ehh : Hc hh = some (.tup (hdV G sl (cn (Si.gives G.r ((Si.live.map (·.1)).take i)).cnt sl))) := by rw [hcn]; exact kk.t _ _ ehz
            refine ⟨_, rfl, PP.s.md rfl ⟨_, rfl, vpx, G, _, p.a, hh, sl, pr.2, rfl, PP.s, wfz, hmem, ehh, fun v1 a' H5 ea k5 f5 hv5 s5 => ?_⟩⟩
            refine ⟨_, rfl, _, rfl, vpx, G, _, p.n, hh, sl, pr.2, rfl, PP.taken1 k5, wfz, k5.tab (kk.tab (stall.kp.tab tb)), hmem, k5.t _ _ ehh, fun v2 n' H6 en _ k6 f6 hv6 n6 => ?_⟩
            have hv5' := hv5.keep k6 PP.n.dj
            refine ⟨pr.2, pr.2, hv5'.dp, hv6.dp, hv5.shaped, hv5.shaped, false, by rw [eqv_sh hv5.shaped]; rfl, iteF ?_⟩
            exact ⟨next vpx ⟨a', n'⟩ H6 ea en (PairAt.given3 k5 f5 k6 f6) (PP.given2 k5 f5 s5 k6 f6 n6), _, _, rfl⟩
          · obtain ⟨inp, u8, u9, rfl⟩ := z
            obtain ⟨vpf, x1, x2, Wf', ⟨a1, a2, a3, a4⟩, stf⟩ := inp.done
            rw [eg2] at Wf'
            exact ⟨vpf, x1, x2, Wf', by rw [← eg2]; exact wfz.give hmem, ⟨a1.trans m1, a2.trans m2, a3.trans m3, a4.trans m4⟩, stz.trans stf, _, _, _, _, _, _, _, rfl⟩
      · obtain ⟨vpz, r1, r2', Wz, wfz, ⟨m1, m2, m3, m4⟩, stz, v3, v4, v5, v6, v7, v8, v9, rfl⟩ := z
        refine q vpz _ r1 r2' H' ⟨m1, m2, m3, m4⟩ (st05.trans stz) Wz wfz ?_ fun s => by rw [gives_cnt]; have h1 := cb s; omega
        have lg : ((hs.map V.ref).take g).length = g := by rw [List.length_take, List.length_map, lhs]; omega
        rw [lg]
        have hle : (Si.gives G.r ((Si.live.map (·.1)).take g)).live.length ≤ Si.live.length := gives_le
        have hwl := wf'.lim
        by_cases hl : Si.live.length = G.lim
        · have h0 := hg0 hl
          have hl1 := wf'.ok.l1
          cases hlv : Si.live with
          | nil => rw [hlv, List.length_nil] at hl; omega
          | cons pr l =>
            have : (Si.gives G.r ((Si.live.map (·.1)).take g)).live.length < Si.live.length := by
              refine gives_lt (s := pr.1) ?_ ?_
              · rw [hlv, List.map_cons]
                obtain ⟨g', rfl⟩ : ∃ g', g = g' + 1 := ⟨g - 1, by omega⟩
                rw [List.take_succ_cons]
                exact List.mem_cons_self
              · rw [hlv, List.map_cons]
                exact List.mem_cons_self
            rw [hlv] at this hl
            omega
        · omega
end
end Sw
namespace Sw
open PySem PySem.Spec PyProof.Rows L2 LamX
/-! levelling -/
def dsum (M : Int) (cnt : List Int) : List Nat → Int
  | [] => 0
  | s :: l => (M - cn cnt s) + dsum M cnt l
theorem dsum_perm {M : Int} {cnt : List Int} {l l' : List Nat} (p : l.Perm l') : dsum M cnt l = dsum M cnt l' := by
  induction p with
  | nil => rfl
  | cons x _ ih => unfold dsum; rw [ih]
  | swap x y l => unfold dsum; unfold dsum; omega
  | trans _ _ h1 h2 => exact h1.trans h2
theorem dsum_congr {M : Int} {cnt cnt' : List Int} : ∀ {l : List Nat}, (∀ s ∈ l, cn cnt s = cn cnt' s) → dsum M cnt l = dsum M cnt' l
  | [], _ => rfl
  | s :: l, h => by
    unfold dsum
    rw [h s List.mem_cons_self, dsum_congr fun a ha => h a (List.mem_cons_of_mem _ ha)]
theorem dsum_nn {M : Int} {cnt : List Int} : ∀ {l : List Nat}, (∀ s ∈ l, cn cnt s ≤ M) → 0 ≤ dsum M cnt l
  | [], _ => by unfold dsum; omega
  | s :: l, h => by
    have a := h s List.mem_cons_self
    have b := dsum_nn (M := M) (cnt := cnt) (l := l) fun a ha => h a (List.mem_cons_of_mem _ ha)
    unfold dsum
    omega
theorem dsum_zero {M : Int} {cnt : List Int} : ∀ {l : List Nat}, (∀ s ∈ l, cn cnt s ≤ M) → dsum M cnt l = 0 → ∀ s ∈ l, cn cnt s = M
  | [], _, _ => fun s hs => by cases hs
  | a :: l, h, e => by
    have h1 := h a List.mem_cons_self
    have h2 := dsum_nn (M := M) (cnt := cnt) (l := l) fun a ha => h a (List.mem_cons_of_mem _ ha)
    unfold dsum at e
    intro s hs
    rcases List.mem_cons.mp hs with z | z
    · rw [z]; omega
    · exact dsum_zero (fun a ha => h a (List.mem_cons_of_mem _ ha)) (by omega) s z
theorem dsum_le {M B : Int} {cnt : List Int} : ∀ {l : List Nat}, (∀ s ∈ l, M - cn cnt s ≤ B) → dsum M cnt l ≤ B * (l.length : Int)
  | [], _ => by unfold dsum; simp
  | s :: l, h => by
    have a := h s List.mem_cons_self
    have b := dsum_le (M := M) (B := B) (cnt := cnt) (l := l) fun a ha => h a (List.mem_cons_of_mem _ ha)
    unfold dsum
    rw [List.length_cons]
    have : B * ((l.length + 1 : Nat) : Int) = B * (l.length : Int) + B := by
      rw [Int.natCast_succ, Int.mul_add, Int.mul_one]
    omega
theorem dsum_sum {M : Int} {cnt : List Int} : ∀ {l : List Nat}, (l.map fun s => M - cn cnt s).sum = dsum M cnt l
  | [] => rfl
  | s :: l => by
    rw [List.map_cons, List.sum_cons, dsum_sum]
    rfl
theorem rnd_one {S : SM} {r : Rl} {s : Nat} {f : List Nat} (h : S.free = s :: f) : S.rnd r 1 = (S.take (Lp [(0 : Int)])).give r s := by
  unfold SM.rnd
  rw [h]
  rfl
theorem rnd_one_cnt {S : SM} {r : Rl} {s : Nat} {f : List Nat} (h : S.free = s :: f) : (S.rnd r 1).cnt = bump S.cnt s := by
  rw [rnd_one h, take_eq h]
  rfl
theorem rnd_one_free {S : SM} {r : Rl} {s : Nat} {f : List Nat} (h : S.free = s :: f) : (S.rnd r 1).free = insF r (bump S.cnt s) s f := by
  rw [rnd_one h, take_eq h]
  rfl
/-- one round of the rule "least", seen from a bound -/
theorem level_step {A : Ag} {S : SM} {M : Int} (o : RdOk A S 1) (hr : A.r = .least) (hM : ∀ s ∈ S.free, cn S.cnt s ≤ M) (hp : 0 < dsum M S.cnt S.free) :
    (∀ s ∈ (S.rnd A.r 1).free, cn (S.rnd A.r 1).cnt s ≤ M) ∧ dsum M (S.rnd A.r 1).cnt (S.rnd A.r 1).free = dsum M S.cnt S.free - 1 := by
  cases hf : S.free with
  | nil =>
    have := o.le
    rw [hf, List.length_nil] at this
    omega
  | cons s f =>
    have nd := o.wf.free_nd
    have od := o.wf.ord
    have slt := o.wf.lt (s := s) (by rw [hf]; exact List.mem_cons_self)
    rw [hf] at hM hp nd od
    obtain ⟨n1, n2⟩ := List.nodup_cons.mp nd
    have od' := od (by rw [hr]; exact .inr rfl)
    rw [hr] at od'
    obtain ⟨o1, o2⟩ := List.pairwise_cons.mp od'
    have hlt : cn S.cnt s < M := by
      have h0 := hM s List.mem_cons_self
      rcases Int.lt_or_eq_of_le h0 with z | z
      · exact z
      · exfalso
        have : ∀ b ∈ s :: f, cn S.cnt b = M := by
          intro b hb
          rcases List.mem_cons.mp hb with e | e
          · rw [e]; exact z
          · have := o1 b e
            unfold ltB at this
            simp at this
            have := hM b (List.mem_cons_of_mem _ e)
            omega
        have zero : dsum M S.cnt (s :: f) = 0 := by
          have : ∀ {l : List Nat}, (∀ b ∈ l, cn S.cnt b = M) → dsum M S.cnt l = 0 := by
            intro l
            induction l with
            | nil => intro _; rfl
            | cons a l ih =>
              intro h
              unfold dsum
              rw [ih fun b hb => h b (List.mem_cons_of_mem _ hb), h a List.mem_cons_self]
              omega
          exact this (by assumption)
        omega
    have pm : (S.rnd A.r 1).free.Perm (s :: f) := by rw [rnd_one_free hf]; exact insF_perm
    have ec : (S.rnd A.r 1).cnt = bump S.cnt s := rnd_one_cnt hf
    refine ⟨fun b hb => ?_, ?_⟩
    · rw [ec, cn_bump slt]
      by_cases e : b = s
      · rw [if_pos e]; omega
      · rw [if_neg e]
        exact hM b (pm.mem_iff.mp hb)
    · rw [dsum_perm pm, ec]
      have e1 : dsum M (bump S.cnt s) f = dsum M S.cnt f := dsum_congr fun b hb => by
        rw [cn_bump slt, if_neg]
        intro z
        rw [z] at hb
        exact n1 hb
      unfold dsum
      rw [e1, cn_bump slt, if_pos rfl]
      omega
theorem level_all {A : Ag} {S : SM} {M : Int} (o : RdOk A S 1) (hr : A.r = .least) (hM : ∀ s ∈ S.free, cn S.cnt s ≤ M) : ∀ {k : Nat}, (k : Int) ≤ dsum M S.cnt S.free →
    (∀ s ∈ (S.rnds A.r 1 k).free, cn (S.rnds A.r 1 k).cnt s ≤ M) ∧ dsum M (S.rnds A.r 1 k).cnt (S.rnds A.r 1 k).free = dsum M S.cnt S.free - (k : Int)
  | 0, _ => ⟨hM, by show dsum M S.cnt S.free = _; omega⟩
  | k + 1, h => by
    obtain ⟨i1, i2⟩ := level_all o hr hM (k := k) (by omega)
    obtain ⟨s1, s2⟩ := level_step (o.rnds (k := k)).1 hr i1 (by omega)
    exact ⟨s1, by rw [show S.rnds A.r 1 (k + 1) = (S.rnds A.r 1 k).rnd A.r 1 from rfl, s2, i2]; omega⟩
def Lev (S : SM) : Prop := ∃ M : Int, ∀ s ∈ S.free, cn S.cnt s = M
section
variable {P : Program} {w : World} {K : PySem.W.Frag} {mg : Str → Option Value} {base : Heap}
/-! _law_levelled -/
def spLvl (T : List (Addr × Str)) (C : Addr) : Sp := fun vs H Q _ => ∃ (vp : List Addr) (A : Ag) (S : SM) (p1 p2 : PA) (st lp t1 t2 : Addr), vs = [.ref lp] ∧ Wd C H vp A S S p1 p2 st ∧ PrsAt H lp t1 t2 p1 p2 ∧ lp ∉ wfp st p1 p2 ∧ RdOk A S 1 ∧ A.r = .least ∧ Tabs T H ∧
  (∀ s, 0 ≤ cn S.cnt s ∧ cn S.cnt s ≤ 1000) ∧
  ∀ vp' S' q1 q2 H', (q1.a.p = p1.a.p ∧ q1.n.q = p1.n.q ∧ q2.a.p = p2.a.p ∧ q2.n.q = p2.n.q) → Stp T H H' (wfp st p1 p2) (wfp st q1 q2) vp vp' → Wd C H' vp' A S' S' q1 q2 st → RdOk A S' 1 → Lev S' → Q (.bl true) H'
abbrev NLv : List Str := ["_law_pairs", "_law_counts", "_law_free", "_law_most", "_law_slot", "_law_turn", "_law_slots", "_law_notes_here"]
theorem sc_lvl : FnScope NLv ["_law_pairs"] d_L_levelled.scope := ⟨rfl, rfl, rfl, by decide +kernel, rfl, by decide +kernel, by decide +kernel⟩
theorem ok_lvl (t : Tx K mg base) : Cl P w K mg base 6 "_law_levelled" (spLvl (TT K) (SC K)) := by
  obtain ⟨fd, F⟩ := t.e_L_levelled
  refine mkCl (N := NLv) (ps := ["_law_pairs"]) F t.g_L_levelled (fun _ _ _ _ _ _ us hl => match us, hl with | [_], _ => rfl) sc_lvl (fun vs H Q E h => ?_) (fun cdv A outer s H vs Q E hr h => ?_)
  · obtain ⟨_, _, _, _, _, _, _, _, _, rfl, _⟩ := h
    rfl
  · obtain ⟨vp, G, S, p1, p2, st, lp, t1, t2, rfl, W, R, nlp, ok, hr1, tb, hb, q⟩ := h
    have nd : NLv.Nodup := by decide +kernel
    refine ⟨_, pss_cons (ps_asg (pe_tup (pa_cons (pe_dget (hu_of hr) (pe_ix ix_seq (pe_ix ix_seq (pv 0) pe_int fun _ _ => rfl) pe_int fun _ _ => rfl) pe_str (fun _ _ => rfl)) (pa_cons (pe_dget (hu_of hr) (pe_ix ix_seq (pe_ix ix_seq (pv 0) pe_int fun _ _ => rfl) pe_int fun _ _ => rfl) pe_str (fun _ _ => rfl)) pa_nil)))
          (pg_tup rfl (pgs_cons (pg_name (i := 1) nd rfl (Or.inr rfl)) (pgs_cons (pg_name (i := 2) nd rfl (Or.inl rfl)) pgs_nil))))
      (pss_cons (ps_set (i := 3) nd rfl (Or.inr rfl) (pe_callB (cr_max rfl) rfl t.b_max (by decide +kernel) (pa_cons
          (pe_lc (own := [("_law_slot", 4)]) (g := gName 4) (tt := tYes) rfl nd (pi_list (pv 2)) (blkOk_by (own := [("_law_slot", 4)]) (N := NLv) (sc := d_L_levelled.scope) (by decide +kernel)) (fun _ _ _ _ _ => pg_name (i := 4) nd rfl (Or.inl rfl)) (fun _ _ _ _ _ => pts_nil)
            (fun _ _ _ _ _ => pe_ix (ix_seqK (K := K) rfl) (pv 1) (pv 4) fun _ _ => rfl)) pa_nil)) rfl)
      (pss_cons (ps_for PassesOwn.never rfl (pi_range1 rfl t.b_range (pa_cons (pe_callB (cr_sum rfl) rfl t.b_sum (by decide +kernel) (pa_cons
          (pe_lc (own := [("_law_slot", 4)]) (g := gName 4) (tt := tYes) rfl nd (pi_list (pv 2)) (blkOk_by (own := [("_law_slot", 4)]) (N := NLv) (sc := d_L_levelled.scope) (by decide +kernel)) (fun _ _ _ _ _ => pg_name (i := 4) nd rfl (Or.inl rfl)) (fun _ _ _ _ _ => pts_nil)
            (fun _ _ _ _ _ => pe_op op_sub (pv 3) (pe_ix (ix_seqK (K := K) rfl) (pv 1) (pv 4) fun _ _ => rfl))) pa_nil)) pa_nil)) (pg_name (i := 5) nd rfl (Or.inl rfl))
        (pss_one (ps_for PassesOwn.never rfl (pi_list (pv 0)) (pg_tup rfl (pgs_cons (pg_name (i := 6) nd rfl (Or.inl rfl)) (pgs_cons (pg_name (i := 7) nd rfl (Or.inl rfl)) pgs_nil)))
          (pss_one (ps_if (pt_not (pt_val (pe_c (ok_rnd t) hr (Nat.le_refl _) rfl (pa_cons (pv 6) (pa_cons (pv 7) (pa_cons pe_int pa_nil)))))) (pss_one ps_never) pss_nil)))))
      (pss_one (ps_ret pe_bl)))), ?_⟩
    have wf := ok.wf
    have bf : S.free.length ≤ 6 := by
      have := wf.count
      have := wf.ok.n6
      omega
    have hlt : ∀ s ∈ S.free, s < S.cnt.length := fun s hs => wf.lt hs
    refine ⟨_, rfl, r01 R (dg (gn_c W.a.n.ob) ⟨_, rfl, r01 R (dg (gn_f W.a.n.ob) ⟨sz (show 2 ≤ 1000 by decide), fun tp htp => ?_⟩)⟩)⟩
    have k1 : Kp (TT K) [] H (upd H tp (.tup [.ref p1.n.lc, .ref p1.n.lf])) := Kp.new htp fun _ z => by cases z
    refine ⟨tp, _, rfl, SqT.of upd_same, rfl, _, _, rfl, _, _, rfl, rfl, ?_⟩
    have W1 := W.keep0 k1
    -- most
    refine ⟨_, rfl, p1.n.lf, rfl, ⟨_, SqL.of W1.a.n.free⟩, fun D hD => ?_⟩
    refine lcL (T := TT K) (fun i acc H' => acc = ((S.free.take i).map fun s => cn S.cnt s).map V.int) (fun H' k => SqL.kp W1.a.n.free k) (by rw [fr_len]; omega) hD (fun _ _ _ _ r _ => r) rfl (fun i x acc H' N M hx k hd r n m => ?_) fun H2 acc k2 hd2 hl2 r => ?_
    · unfold fr at hx
      rw [List.getElem?_map] at hx
      cases hi : S.free[i]? with
      | none => rw [hi] at hx; cases hx
      | some s =>
        rw [hi] at hx
        cases hx
        have hs := hlt s (List.mem_of_getElem? hi)
        refine ⟨rfl, it1 (B := M H') ⟨_, rfl, _, rfl, .inl ⟨p1.n.lc, _, s, .int (cn S.cnt s), rfl, rfl, SqL.kp W1.a.n.cnt k, at_nat (by rw [List.getElem?_map, at_cn hs]; rfl), n _ _ Kp.refl ?_⟩⟩⟩
        rw [r, List.take_succ, hi, List.map_append, List.map_append]
        rfl
    have r' : acc = (S.free.map fun s => cn S.cnt s).map V.int := by rw [r, fr_len, List.take_length]
    subst r'
    have W2 := W1.keep0 k2
    have hpos : 0 < S.free.length := ok.le
    refine ⟨D, _, rfl, SqL.of hd2, by rw [List.length_map]; exact hpos, fun M hM1 hM2 => ?_⟩
    have hM : ∀ s ∈ S.free, cn S.cnt s ≤ M := fun s hs => hM2 _ (List.mem_map.mpr ⟨s, hs, rfl⟩)
    have hMb : M ≤ 1000 := by
      obtain ⟨s, _, e⟩ := List.mem_map.mp hM1
      rw [← e]
      exact (hb s).2
    -- how many turns
    refine ⟨_, rfl, p1.n.lf, rfl, ⟨_, SqL.of W2.a.n.free⟩, fun D2 hD2 => ?_⟩
    refine lcL (T := TT K) (fun i acc H' => acc = ((S.free.take i).map fun s => M - cn S.cnt s).map V.int) (fun H' k => SqL.kp W2.a.n.free k) (by rw [fr_len]; omega) hD2 (fun _ _ _ _ r _ => r) rfl (fun i x acc H' N M' hx k hd r n m => ?_) fun H3 acc k3 hd3 hl3 r => ?_
    · unfold fr at hx
      rw [List.getElem?_map] at hx
      cases hi : S.free[i]? with
      | none => rw [hi] at hx; cases hx
      | some s =>
        rw [hi] at hx
        cases hx
        have hs := hlt s (List.mem_of_getElem? hi)
        refine ⟨rfl, it1 (B := M' H') ⟨_, rfl, _, rfl, _, rfl, .inl ⟨p1.n.lc, _, s, .int (cn S.cnt s), rfl, rfl, SqL.kp W2.a.n.cnt k, at_nat (by rw [List.getElem?_map, at_cn hs]; rfl), _, _, rfl, rfl, n _ _ Kp.refl ?_⟩⟩⟩
        rw [r, List.take_succ, hi, List.map_append, List.map_append]
        rfl
    have r' : acc = (S.free.map fun s => M - cn S.cnt s).map V.int := by rw [r, fr_len, List.take_length]
    subst r'
    have W3 := W2.keep0 k3
    have es : (S.free.map fun s => M - cn S.cnt s).sum = dsum M S.cnt S.free := dsum_sum
    have nn0 := dsum_nn hM
    have up0 : dsum M S.cnt S.free ≤ 1000 * (S.free.length : Int) := dsum_le fun s _ => by have := (hb s).1; omega
    refine ⟨D2, _, rfl, SqL.of hd3, ?_⟩
    rw [es]
    refine ⟨_, rfl, by omega, by omega, ?_⟩
    have st3 : Stp (TT K) H H3 (wfp st p1 p2) (wfp st p1 p2) vp vp := Stp.of0 (k1.then (k2.then k3))
    refine for_range (fun i σ' H' => ∃ vp' q1 q2, Wd (SC K) H' vp' G (S.rnds G.r 1 i) (S.rnds G.r 1 i) q1 q2 st ∧ (q1.a.p = p1.a.p ∧ q1.n.q = p1.n.q ∧ q2.a.p = p2.a.p ∧ q2.n.q = p2.n.q) ∧ Stp (TT K) H H' (wfp st p1 p2) (wfp st q1 q2) vp vp' ∧
        ∃ u5 u6 u7, σ' = [some (.ref lp), some (.ref p1.n.lc), some (.ref p1.n.lf), some (.int M), none, u5, u6, u7])
      ⟨vp, p1, p2, W3, ⟨rfl, rfl, rfl, rfl⟩, st3, _, _, _, rfl⟩ (fun i σ1 H' hi z => ?_) fun σ1 H' z => ?_
    · obtain ⟨vp', q1, q2, W', ⟨n1, n2, n3, n4⟩, st', u5, u6, u7, rfl⟩ := z
      have R' := R.keep st'.kp nlp n1 n2 n3 n4
      obtain ⟨oi, _⟩ := ok.rnds (k := i)
      refine ⟨_, rfl, lp, rfl, ⟨_, SqL.of R'.l⟩, ?_⟩
      refine for_list (xs := [.ref t1, .ref t2]) (fun i' σ' Hc => InP (TT K) (SC K) H' vp' G st q1 q2 (S.rnds G.r 1 i) ((S.rnds G.r 1 i).rnd G.r 1) i' Hc ∧ ∃ u6 u7, σ' = [some (.ref lp), some (.ref p1.n.lc), some (.ref p1.n.lf), some (.int M), none, some (.int (0 + (i : Int))), u6, u7])
        ⟨InP.start W', _, _, rfl⟩ (fun i' σ' Hc _ z => SqL.of (z.1.kp.get R'.l (fun zz => (st'.fr lp zz).elim nlp fun y => y (Al.l R.l)) rfl)) (fun i' y σ2 Hc hy z => ?_) fun σ2 Hc z => ?_
      · obtain ⟨inp, u6, u7, rfl⟩ := z
        obtain ⟨tt, vpx, p, rfl, ht, PP, kk, sub, next⟩ := inp.turn R' hy
        refine ⟨tt, _, rfl, SqT.of ht, rfl, _, _, rfl, _, _, rfl, rfl, ?_⟩
        refine ⟨_, rfl, _, rfl, vpx, G, _, p, 1, rfl, PP, oi.wf, kk.tab (st'.kp.tab tb), oi.le, oi.lim, fun vp2 p' H5 e1 e2 st5 P5 _ => ?_⟩
        exact ⟨true, rfl, iteF ⟨next vp2 p' H5 e1 e2 st5 P5, _, _, rfl⟩⟩
      · obtain ⟨inp, u6, u7, rfl⟩ := z
        obtain ⟨vpf, x1, x2, Wf', ⟨a1, a2, a3, a4⟩, stf⟩ := inp.done
        exact ⟨vpf, x1, x2, Wf', ⟨a1.trans n1, a2.trans n2, a3.trans n3, a4.trans n4⟩, st'.trans stf, _, _, _, rfl⟩
    · obtain ⟨vp', q1, q2, W', nms, st', u5, u6, u7, rfl⟩ := z
      refine q vp' _ q1 q2 H' nms st' W' (ok.rnds).1 ⟨M, ?_⟩
      obtain ⟨l1, l2⟩ := level_all ok hr1 hM (k := (dsum M S.cnt S.free).toNat) (by omega)
      exact dsum_zero l1 (by omega)
end
end Sw
namespace Sw
open PySem PySem.Spec PyProof.Rows L2 LamX
theorem eqi {a b : Addr} {i j : Int} (h : i = j) : [V.ref a, V.int i] = [V.ref a, V.int j] := by rw [h]
/-- what the drawn amounts keep -/
structure AmtOk (A : Ag) (S : SM) (deep many : Nat) : Prop where
  d0 : 0 < deep
  rd : RdOk A S deep
  one : A.r.ll = false → deep = 1
  mul : ∃ rounds, 0 < rounds ∧ many = rounds * (if A.r.ll = true then 1 else S.free.length)
  most : many ≤ mostT A.r
section
variable {P : Program} {w : World} {K : PySem.W.Frag} {mg : Str → Option Value} {base : Heap}
def spAmt (T : List (Addr × Str)) : Sp := fun vs H Q _ => ∃ (vp : List Addr) (A : Ag) (S : SM) (n : NA) (st : Addr), vs = [.ref st, .ref n.q] ∧ NotesAt H vp A S n ∧ StAt H st ∧ st ∉ n.fp ∧ st ∉ vp ∧ RdOk A S 1 ∧
  ∀ (deep many : Nat) (b : Bool) p H', Kp T [st] H H' → StAt H' st → AmtOk A S deep many → (b = false → many ≤ 1000) → H' p = some (.tup [.int deep, .int many, .bl b]) → Q (.ref p) H'
abbrev NAm : List Str := ["_law_state_here", "_law_notes_here", "_law_limit", "_law_generations", "_law_rule", "_law_free", "_law_deep", "_law_rounds", "_law_is_repeat", "_law_most", "_law_great"]
theorem sc_amt : FnScope NAm ["_law_state_here", "_law_notes_here"] d_L_amounts.scope := ⟨rfl, rfl, rfl, by decide +kernel, rfl, by decide +kernel, by decide +kernel⟩
theorem ok_amt (t : Tx K mg base) : Cl P w K mg base 3 "_law_amounts" (spAmt (TT K)) := by
  obtain ⟨fd, F⟩ := t.e_L_amounts
  refine mkCl (N := NAm) (ps := ["_law_state_here", "_law_notes_here"]) F t.g_L_amounts (fun _ _ _ _ _ _ us hl => match us, hl with | [_, _], _ => rfl) sc_amt (fun vs H Q E h => ?_) (fun cdv A outer s H vs Q E hr h => ?_)
  · obtain ⟨_, _, _, _, _, rfl, _⟩ := h
    rfl
  · obtain ⟨vp, G, S, n, st, rfl, na, sd, nf, nv, ok, q⟩ := h
    have nd : NAm.Nodup := by decide +kernel
    refine ⟨_, pss_cons (ps_asg (pe_slice sl_tup (pe_dget (hu_of hr) (pv 1) pe_str (fun _ _ => rfl)) (po_some pe_int) po_none) (pg_tup rfl (pgs_cons (pg_name (i := 2) nd rfl (Or.inl rfl)) (pgs_cons (pg_name (i := 3) nd rfl (Or.inl rfl)) (pgs_cons (pg_name (i := 4) nd rfl (Or.inl rfl)) pgs_nil)))))
      (pss_cons (ps_par (i := 5) (j := 6) (by rfl) nd rfl rfl (by decide) rfl rfl (pa_cons (pe_callB call_len_seq rfl t.b_len (by decide +kernel) (pa_cons (pe_dget (hu_of hr) (pv 1) pe_str (fun _ _ => rfl)) pa_nil)) (pa_cons pe_int pa_nil)) (by rfl))
      (pss_cons (ps_set (i := 7) nd rfl (Or.inl rfl) (pe_c (ok_one t) hr (by decide) rfl (pa_cons (pv 0) (pa_cons (pe_lst (pa_cons pe_int (pa_cons (pv 3) (pa_cons (pe_op op_mul pe_int (pv 3)) (pa_cons (pe_op op_add pe_int (pe_c (ok_digit t) hr (by decide) rfl (pa_cons (pv 0) (pa_cons pe_int pa_nil)))) pa_nil))))) pa_nil))) rfl)
      (pss_cons (ps_set (i := 8) nd rfl (Or.inl rfl) (pe_cmpR op_eq (pe_c (ok_digit t) hr (by decide) rfl (pa_cons (pv 0) (pa_cons pe_int pa_nil))) pe_int rfl) rfl)
      (C8.pss_cut (ps_if (pt_cmpR op_in_seq (pv 4) (pe_tup (pa_cons pe_str (pa_cons pe_str pa_nil))) rfl)
        (pss_cons (ps_set (i := 6) nd rfl (Or.inl rfl) (pe_op op_add pe_int (pe_c (ok_digit t) hr (by decide) rfl (pa_cons (pv 0) (pa_cons (pe_callB (call_min2 rfl) rfl t.b_min (by decide +kernel) (pa_cons (pv 5) (pa_cons (pe_op op_sub (pv 2) (pe_callB call_len_seq rfl t.b_len (by decide +kernel) (pa_cons (pe_dget (hu_of hr) (pv 1) pe_str (fun _ _ => rfl)) pa_nil))) pa_nil))) pa_nil)))) rfl)
        (pss_one (ps_set (i := 5) nd rfl (Or.inl rfl) pe_int rfl))) pss_nil)
      (C8.pss_cut (ps_if (pt_val (pv 8))
        (C8.pss_cut (ps_set (i := 9) nd rfl (Or.inl rfl) (pe_ifExp (pt_cmpR op_in_seq (pv 4) (pe_tup (pa_cons pe_str (pa_cons pe_str pa_nil))) rfl) (pe_op op_pow pe_int pe_int) pe_int) rfl)
        (pss_cons (ps_set (i := 10) nd rfl (Or.inl rfl) (pe_op op_mul (pe_op op_fdiv (pe_op op_fdiv (pv 9) (pv 5)) (pv 3)) (pv 3)) rfl)
        (pss_one (ps_set (i := 7) nd rfl (Or.inl rfl) (pe_c (ok_one t) hr (by decide) rfl (pa_cons (pv 0) (pa_cons (pe_lst (pa_cons (pv 7) (pa_cons (pv 10) (pa_cons (pe_op op_add pe_int (pe_c (ok_digit t) hr (by decide) rfl (pa_cons (pv 0) (pa_cons (pe_op op_fdiv (pv 9) (pv 5)) pa_nil)))) pa_nil)))) pa_nil))) rfl)))) pss_nil)
      (pss_one (ps_ret (pe_tup (pa_cons (pv 6) (pa_cons (pe_op op_mul (pv 7) (pv 5)) (pa_cons (pv 8) pa_nil))))))))))), ?_⟩
    have wf := ok.wf
    have g1 := wf.ok.g1
    have g5 := wf.ok.g5
    have bnd : S.free.length + S.live.length ≤ 6 := by
      rw [wf.count]
      exact wf.ok.n6
    have f1 := ok.le
    have l1 := ok.lim
    have n6 := wf.ok.n6
    have ln := wf.ok.ln
    have keep : ∀ {H' : Hp}, Kp (TT K) [st] H H' → NotesAt H' vp G S n := fun k => na.keep k (Dj.one nf) (Dj.one nv)
    obtain ⟨ts, hv, hts⟩ := na.live
    have lts : ts.length = S.live.length := pr_len hts
    have nlv : n.lv ∉ [st] := fun z => nf (by rw [← List.mem_singleton.mp z]; simp [NA.fp])
    -- numbers[1:]
    refine ⟨_, rfl, dg (gn_n na.ob) ⟨1, rfl, n.tn, _, rfl, SqT.of na.nums, (fun z => absurd z.1 (show ¬ HT.sIx 4 0 (some 1) = 0 by decide)), fun pt hpt => ?_⟩⟩
    have k1 : Kp (TT K) [st] H (upd H pt (.tup (cutV (agV G) (some 1) none))) := Kp.new hpt fun _ z => by cases z
    have e1 : cutV (agV G) (some 1) none = [.int G.lim, .int G.g, .str G.r.s] := rfl
    rw [e1] at k1 ⊢
    refine ⟨pt, _, rfl, SqT.of upd_same, rfl, _, _, rfl, _, _, rfl, _, _, rfl, rfl, ?_⟩
    -- free, deep
    refine ⟨_, rfl, dg (gn_f (keep k1).ob) ⟨n.lf, _, rfl, .inl (SqL.of (keep k1).free), _, _, rfl, ?_⟩⟩
    rw [fr_len]
    -- rounds
    have s1 := sd.keep (Kp.new (T := TT K) (fp := []) (o := .tup [.int G.lim, .int G.g, .str G.r.s]) hpt fun _ z => by cases z) (fun z => by cases z)
    refine ⟨_, rfl, _, rfl, _, rfl, _, _, rfl, rfl, .inl ⟨by decide, by decide⟩, _, rfl, st, 9, rfl, s1, by decide, by decide, fun d2 H2 hd2 k2 s2 => ⟨_, _, rfl, rfl, sz (show 4 ≤ 1000 by decide), fun lw hlw => ?_⟩⟩
    have k3 : Kp (TT K) [] H2 (upd H2 lw (.lst [.int 1, .int (G.g : Int), .int (2 * (G.g : Int)), .int (1 + (d2 : Int))])) := Kp.new hlw fun _ z => by cases z
    have s3 := s2.keep k3 (fun z => by cases z)
    refine ⟨st, lw, _, rfl, s3, upd_same, fun z => nAl hlw (by rw [z]; exact s2.al), (by intro z; cases z), (show 4 ≤ 1000 by decide), fun j x H4 hj k4 s4 => ?_⟩
    have hx : ∃ r0 : Nat, x = .int (r0 : Int) ∧ 0 < r0 ∧ r0 ≤ 10 := by
      match j, hj with
      | 0, hj => cases hj; exact ⟨1, rfl, by decide, by decide⟩
      | 1, hj => cases hj; exact ⟨G.g, rfl, by omega, by omega⟩
      | 2, hj => cases hj; exact ⟨2 * G.g, congrArg V.int (by omega), by omega, by omega⟩
      | 3, hj => cases hj; exact ⟨1 + d2, congrArg V.int (by omega), by omega, by omega⟩
    obtain ⟨r0, rfl, r01, r02⟩ := hx
    have k04 : Kp (TT K) [st] H H4 := k1.then (k2.then (k3.sub.then k4))
    -- is_repeat
    refine ⟨_, rfl, st, 2, rfl, s4, by decide, by decide, fun d5 H5 _ k5 s5 => ⟨rfl, ?_⟩⟩
    have k05 := k04.then k5
    generalize decide (V.int (d5 : Int) = V.int 0) = b
    -- deep
    refine ⟨fun σ' H' => ∃ (deep fr : Nat) (u9 u10 : Option V), Kp (TT K) [st] H H' ∧ StAt H' st ∧ 0 < deep ∧ deep ≤ S.free.length ∧ S.live.length + deep ≤ G.lim ∧ (G.r.ll = false → deep = 1) ∧ fr = (if G.r.ll = true then 1 else S.free.length) ∧
        σ' = [some (.ref st), some (.ref n.q), some (.int (G.lim : Int)), some (.int (G.g : Int)), some (.str G.r.s), some (.int (fr : Int)), some (.int (deep : Int)), some (.int (r0 : Int)), some (.bl b), u9, u10], ?_, fun σ6 H6 z => ?_⟩
    · refine ⟨_, rfl, sz (show 2 ≤ 1000 by decide), fun pq hpq => ?_⟩
      have k6 : Kp (TT K) [] H5 (upd H5 pq (.tup [.str "last", .str "lowest"])) := Kp.new hpq fun _ z => by cases z
      have k06 := k05.then k6.sub
      have s6 := s5.keep k6 (fun z => by cases z)
      refine ⟨pq, _, rfl, .inr (SqT.of upd_same), rfl, rfl, G.r.ll, by rw [← Rl.ll_in]; rfl, ?_⟩
      cases hll : G.r.ll with
      | true =>
        refine iteT ?_
        refine ⟨_, rfl, _, rfl, _, rfl, _, rfl, dg (gn_l (keep k06).ob) ⟨n.lv, _, rfl, .inl (SqL.of (k06.get hv nlv rfl)), _, _, rfl, rfl, _, _, rfl, ?_⟩⟩
        rw [List.length_map, lts]
        refine ⟨st, min S.free.length (G.lim - S.live.length), eqi (b := st) ?_, s6, by omega, by omega, fun d7 H7 hd7 k7 s7 => ⟨_, _, rfl, rfl, ?_⟩⟩
        · by_cases z : ((G.lim : Int) - (S.live.length : Int)) < (S.free.length : Int)
          · rw [if_pos z]; omega
          · rw [if_neg z]; omega
        · refine ⟨1 + d7, 1, none, none, k06.then k7, s7, by omega, by omega, by omega, fun z => (by cases z), (by rw [if_pos rfl]), ?_⟩
          have : (1 : Int) + (d7 : Int) = ((1 + d7 : Nat) : Int) := by omega
          rw [← this]
          rfl
      | false =>
        refine iteF ⟨1, S.free.length, _, _, k06, s6, by decide, f1, l1, fun _ => rfl, by rw [if_neg Bool.false_ne_true], rfl⟩
    · obtain ⟨deep, fr, u9, u10, k06, s6, c1, c2, c3, c4, c5, rfl⟩ := z
      have fr0 : 0 < fr := by rw [c5]; split <;> omega
      have fr6 : fr ≤ 6 := by rw [c5]; split <;> omega
      have ml : 300 ≤ mostT G.r := by unfold mostT; split <;> decide
      have ml2 : mostT G.r ≤ 1000000000000000000 := by unfold mostT; split <;> decide
      refine ⟨fun σ' H' => ∃ (r1 : Nat) (u9 u10 : Option V), Kp (TT K) [st] H H' ∧ StAt H' st ∧ 0 < r1 ∧ r1 * fr ≤ mostT G.r ∧ (b = false → r1 ≤ 10) ∧
          σ' = [some (.ref st), some (.ref n.q), some (.int (G.lim : Int)), some (.int (G.g : Int)), some (.str G.r.s), some (.int (fr : Int)), some (.int (deep : Int)), some (.int (r1 : Int)), some (.bl b), u9, u10], ?_, fun σ7 H7 z => ?_⟩
      · refine ⟨_, rfl, b, rfl, ?_⟩
        cases b with
        | false =>
          refine iteF ⟨r0, _, _, k06, s6, r01, ?_, fun _ => r02, rfl⟩
          have := Nat.mul_le_mul r02 fr6
          omega
        | true =>
          refine iteT ⟨fun σ' H' => ∃ (m : Nat) (u10 : Option V), Kp (TT K) [st] H H' ∧ StAt H' st ∧ 300 ≤ m ∧ m ≤ mostT G.r ∧
              σ' = [some (.ref st), some (.ref n.q), some (.int (G.lim : Int)), some (.int (G.g : Int)), some (.str G.r.s), some (.int (fr : Int)), some (.int (deep : Int)), some (.int (r0 : Int)), some (.bl true), some (.int (m : Int)), u10], ?_, fun σ8 H8 z => ?_⟩
          · refine ⟨_, rfl, sz (show 2 ≤ 1000 by decide), fun pq hpq => ?_⟩
            have k7 : Kp (TT K) [] H6 (upd H6 pq (.tup [.str "last", .str "first"])) := Kp.new hpq fun _ z => by cases z
            refine ⟨pq, _, rfl, .inr (SqT.of upd_same), rfl, rfl, G.r.lf, by rw [← Rl.lf_in]; rfl, ?_⟩
            cases hlf : G.r.lf with
            | true =>
              refine iteT ⟨_, _, rfl, rfl, ⟨by decide, by decide, by decide⟩, 1000000000000000000, _, k06.then k7.sub, s6.keep k7 (fun z => by cases z), by decide, by unfold mostT; rw [if_pos hlf]; exact Nat.le_refl _, rfl⟩
            | false =>
              refine iteF ⟨300, _, k06.then k7.sub, s6.keep k7 (fun z => by cases z), by decide, ml, rfl⟩
          · obtain ⟨m, u10, k08, s8, m1, m2, rfl⟩ := z
            have em : (m : Int) / (fr : Int) = ((m / fr : Nat) : Int) := (Int.natCast_ediv _ _).symm
            have mf50 : 50 ≤ m / fr := by
              rw [Nat.le_div_iff_mul_le fr0]
              have := Nat.mul_le_mul (Nat.le_refl 50) fr6
              omega
            have mfle : m / fr * fr ≤ m := Nat.div_mul_le_self m fr
            refine ⟨_, rfl, _, rfl, _, _, rfl, rfl, ⟨by omega, by omega⟩, _, rfl, _, _, rfl, rfl, ⟨by omega, by omega⟩, _, rfl, _, _, rfl, rfl, .inr ⟨by omega, by omega⟩, ?_⟩
            have eg : (m : Int) / (fr : Int) / (G.g : Int) * (G.g : Int) = ((m / fr / G.g * G.g : Nat) : Int) := by rw [em, ← Int.natCast_ediv, ← Int.natCast_mul]
            refine ⟨_, rfl, _, rfl, _, rfl, _, rfl, _, rfl, _, rfl, _, _, rfl, rfl, ⟨by omega, by omega⟩, ?_⟩
            refine ⟨st, m / fr, eqi (b := st) em, s8, by omega, by have := Nat.div_le_self m fr; omega, fun d9 H9 hd9 k9 s9 => ⟨_, _, rfl, rfl, sz (show 3 ≤ 1000 by decide), fun lw hlw => ?_⟩⟩
            have k10 : Kp (TT K) [] H9 (upd H9 lw (.lst [.int (r0 : Int), .int ((m : Int) / (fr : Int) / (G.g : Int) * (G.g : Int)), .int (1 + (d9 : Int))])) := Kp.new hlw fun _ z => by cases z
            have s10 := s9.keep k10 (fun z => by cases z)
            refine ⟨st, lw, _, rfl, s10, upd_same, fun z => nAl hlw (by rw [z]; exact s9.al), (by intro z; cases z), (show 3 ≤ 1000 by decide), fun j x H11 hj k11 s11 => ?_⟩
            have hx : ∃ r1 : Nat, x = .int (r1 : Int) ∧ 0 < r1 ∧ r1 * fr ≤ mostT G.r := by
              match j, hj with
              | 0, hj =>
                cases hj
                refine ⟨r0, rfl, r01, ?_⟩
                have := Nat.mul_le_mul r02 fr6
                omega
              | 1, hj =>
                cases hj
                refine ⟨m / fr / G.g * G.g, congrArg V.int eg, ?_, ?_⟩
                · refine Nat.mul_pos ?_ (by omega)
                  refine Nat.div_pos (by omega) (by omega)
                · have h1 : m / fr / G.g * G.g ≤ m / fr := Nat.div_mul_le_self _ _
                  have h2 := Nat.mul_le_mul h1 (Nat.le_refl fr)
                  omega
              | 2, hj =>
                cases hj
                refine ⟨1 + d9, congrArg V.int (by omega), by omega, ?_⟩
                have h1 : 1 + d9 ≤ m / fr := by omega
                have h2 := Nat.mul_le_mul h1 (Nat.le_refl fr)
                omega
            obtain ⟨r1, rfl, h1, h2⟩ := hx
            exact ⟨r1, _, _, k08.then (k9.then (k10.sub.then k11)), s11, h1, h2, fun z => (by cases z), rfl⟩
      · obtain ⟨r1, v9, v10, k07, s7, h1, h2, h3, rfl⟩ := z
        refine ⟨_, rfl, _, rfl, _, rfl, _, _, rfl, rfl, .inr ⟨by omega, by omega⟩, _, rfl, sz (show 3 ≤ 1000 by decide), fun p hp => ?_⟩
        have k8 : Kp (TT K) [] H7 (upd H7 p (.tup [.int (deep : Int), .int ((r1 : Int) * (fr : Int)), .bl b])) := Kp.new hp fun _ z => by cases z
        refine q deep (r1 * fr) b p _ (k07.then k8.sub) (s7.keep k8 (fun z => by cases z)) ⟨c1, ⟨wf, c2, c3⟩, c4, ⟨r1, h1, by rw [c5]⟩, h2⟩ (fun z => ?_) ?_
        · have := Nat.mul_le_mul (h3 z) fr6
          omega
        · rw [upd_same, Int.natCast_mul]
end
end Sw
namespace Sw
open PySem L2
theorem SM.ext' {X Y : SM} (h1 : X.cnt = Y.cnt) (h2 : X.free = Y.free) (h3 : X.live = Y.live) : X = Y := by
  cases X
  cases Y
  cases h1
  cases h2
  cases h3
  rfl
theorem gives_free {r : Rl} : ∀ {l : List Nat} {S : SM}, (S.gives r l).free = l.foldl (fun f s => insF r S.cnt s f) S.free
  | [], _ => rfl
  | s :: l, S => gives_free (l := l) (S := S.give r s)
theorem take_cf {X Y : SM} {d e : PyData} (h1 : X.cnt = Y.cnt) (h2 : X.free = Y.free) : (X.take d).cnt = (Y.take e).cnt ∧ (X.take d).free = (Y.take e).free := by
  cases hf : X.free with
  | nil =>
    have hy : Y.free = [] := by rw [← h2, hf]
    unfold SM.take
    rw [hf, hy]
    exact ⟨h1, h2⟩
  | cons s f =>
    have hy : Y.free = s :: f := by rw [← h2, hf]
    rw [take_eq hf, take_eq hy, h1]
    exact ⟨rfl, rfl⟩
/-- k takes of nothing -/
def SM.tn (S : SM) : Nat → SM
  | 0 => S
  | k + 1 => (SM.tn S k).take .none
theorem tn_cf {S : SM} : ∀ {k : Nat}, (S.tn k).cnt = (S.takes k).cnt ∧ (S.tn k).free = (S.takes k).free
  | 0 => ⟨rfl, rfl⟩
  | k + 1 => take_cf tn_cf.1 tn_cf.2
theorem tn_live {A : Ag} {S : SM} (w : Wf A S) : ∀ {k : Nat}, k ≤ S.free.length → S.live.length + k ≤ A.lim → Wf A (S.tn k) ∧ ∃ new, (S.tn k).live = S.live ++ new ∧ new.map (·.1) = S.free.take k
  | 0, _, _ => ⟨w, [], by simp [SM.tn], rfl⟩
  | k + 1, h1, h2 => by
    obtain ⟨w', new, n1, n2⟩ := tn_live w (k := k) (by omega) (by omega)
    have hk : k < S.free.length := by omega
    have e : (S.tn k).free = S.free[k] :: S.free.drop (k + 1) := by
      rw [tn_cf.2, (takes_ok w (k := k) (by omega) (by omega)).1.free, List.drop_eq_getElem_cons hk]
    have nl : new.length = k := by
      have := congrArg List.length n2
      rw [List.length_map, List.length_take] at this
      omega
    have hl : (S.tn k).live.length < A.lim := by rw [n1, List.length_append, nl]; omega
    refine ⟨w'.take e hl, new ++ [(S.free[k], .none)], ?_, ?_⟩
    · show ((S.tn k).take .none).live = _
      rw [take_eq e, n1, List.append_assoc]
    · rw [List.map_append, n2, List.take_succ, List.getElem?_eq_getElem hk]
      rfl
theorem run_tn {A : Ag} {S : SM} (w : Wf A S) : ∀ {k : Nat}, k ≤ S.free.length → S.live.length + k ≤ A.lim → S.run A (List.replicate k .tk) = some (S.tn k)
  | 0, _, _ => rfl
  | k + 1, h1, h2 => by
    have ih := run_tn w (k := k) (by omega) (by omega)
    obtain ⟨w', new, n1, n2⟩ := tn_live w (k := k) (by omega) (by omega)
    have hk : k < S.free.length := by omega
    have e : (S.tn k).free = S.free[k] :: S.free.drop (k + 1) := by
      rw [tn_cf.2, (takes_ok w (k := k) (by omega) (by omega)).1.free, List.drop_eq_getElem_cons hk]
    have nl : new.length = k := by
      have := congrArg List.length n2
      rw [List.length_map, List.length_take] at this
      omega
    have hl : (S.tn k).live.length < A.lim := by rw [n1, List.length_append, nl]; omega
    rw [List.replicate_succ', run_app ih]
    show SM.run A (S.tn k) [De.tk] = _
    rw [SM.run]
    have : (S.tn k).deed A De.tk = some ((S.tn k).take .none) := by
      simp only [SM.deed, e]
      rw [if_pos hl]
    rw [this]
    rfl
/-- the last live slot goes -/
theorem give_last {S : SM} {r : Rl} {P : List (Nat × PyData)} {s : Nat} {d : PyData} (h : S.live = P ++ [(s, d)]) (n : s ∉ P.map (·.1)) : (S.give r s).live = P := by
  have := give_eq (S := S) (r := r) (l1 := P) (l2 := []) (s := s) (d := d) h n (by simp)
  rw [this]
  simp
theorem run_gv {A : Ag} {S : SM} {deep : Nat} (ok : RdOk A S deep) : ∀ {j : Nat}, j ≤ deep → ∃ new : List (Nat × PyData), new.map (·.1) = S.free.take deep ∧
    (S.tn deep).run A ((List.range j).map fun k => .gv (S.live.length + deep - 1 - k)) = some ((S.tn deep).gives A.r ((S.free.take deep).reverse.take j)) ∧ ((S.tn deep).gives A.r ((S.free.take deep).reverse.take j)).live = S.live ++ new.take (deep - j)
  | 0, _ => by
    obtain ⟨w', new, n1, n2⟩ := tn_live ok.wf ok.le ok.lim
    have nl : new.length = deep := by
      have := congrArg List.length n2
      rw [List.length_map, List.length_take] at this
      have := ok.le
      omega
    refine ⟨new, n2, rfl, ?_⟩
    show (S.tn deep).live = _
    rw [Nat.sub_zero, List.take_of_length_le (by omega), n1]
  | j + 1, hj => by
    obtain ⟨new, n2, h1, h2⟩ := run_gv ok (j := j) (by omega)
    have nl : new.length = deep := by
      have := congrArg List.length n2
      rw [List.length_map, List.length_take] at this
      have := ok.le
      omega
    have hi : deep - j - 1 < new.length := by omega
    obtain ⟨pr, hpr⟩ : ∃ pr, new[deep - j - 1]? = some pr := ⟨new[deep - j - 1], by simp [hi]⟩
    have et : new.take (deep - j) = new.take (deep - j - 1) ++ [pr] := by
      have : deep - j = (deep - j - 1) + 1 := by omega
      rw [this, List.take_succ, hpr]
      rfl
    have hfs : (S.free.take deep)[deep - j - 1]? = some pr.1 := by rw [← n2, List.getElem?_map, hpr]; rfl
    have hlen : (S.free.take deep).length = deep := by rw [← n2, List.length_map, nl]
    have hrev : (S.free.take deep).reverse[j]? = some pr.1 := by
      rw [List.getElem?_reverse (by rw [hlen]; omega), hlen]
      have : deep - 1 - j = deep - j - 1 := by omega
      rw [this]
      exact hfs
    have hliv : ((S.tn deep).gives A.r ((S.free.take deep).reverse.take j)).live[S.live.length + deep - 1 - j]? = some pr := by
      rw [h2, et, List.getElem?_append_right (by omega), List.getElem?_append_right (by rw [List.length_take]; omega)]
      have : S.live.length + deep - 1 - j - S.live.length - (new.take (deep - j - 1)).length = 0 := by rw [List.length_take]; omega
      rw [this]
      rfl
    have hne : pr.1 ∉ (S.live ++ new.take (deep - j - 1)).map (·.1) := by
      rw [List.map_append]
      intro z
      rcases List.mem_append.mp z with z | z
      · exact ok.wf.apart (List.mem_of_mem_take (List.mem_of_getElem? hfs)) z
      · rw [List.map_take, n2] at z
        obtain ⟨i, hi'⟩ := List.getElem?_of_mem z
        rw [List.getElem?_take] at hi'
        split at hi'
        · exact absurd (nd_ix (ok.wf.free_nd.sublist (List.take_sublist _ _)) hi' hfs) (by omega)
        · cases hi'
    have eg : ((S.tn deep).gives A.r ((S.free.take deep).reverse.take j)).give A.r pr.1 = (S.tn deep).gives A.r ((S.free.take deep).reverse.take (j + 1)) := by
      rw [List.take_succ, hrev, gives_app]
      rfl
    refine ⟨new, n2, ?_, ?_⟩
    · rw [List.range_succ, List.map_append, run_app h1]
      show SM.run A _ [De.gv (S.live.length + deep - 1 - j)] = _
      rw [SM.run]
      have : ((S.tn deep).gives A.r ((S.free.take deep).reverse.take j)).deed A (De.gv (S.live.length + deep - 1 - j)) = some (((S.tn deep).gives A.r ((S.free.take deep).reverse.take j)).give A.r pr.1) := by
        simp only [SM.deed, hliv]
      rw [this, eg]
      rfl
    · rw [← eg, give_last (P := S.live ++ new.take (deep - j - 1)) (d := pr.2) (by rw [h2, et, List.append_assoc]) hne]
      have : deep - j - 1 = deep - (j + 1) := by omega
      rw [this]
theorem run_rnd {A : Ag} {S : SM} {deep : Nat} (ok : RdOk A S deep) : S.run A (dsOf S.live.length deep) = some (S.rnd A.r deep) := by
  obtain ⟨new, n2, h1, h2⟩ := run_gv ok (j := deep) (Nat.le_refl _)
  unfold dsOf
  rw [run_app (run_tn ok.wf ok.le ok.lim), h1]
  have hlen : (S.free.take deep).reverse.take deep = (S.free.take deep).reverse := List.take_of_length_le (by rw [List.length_reverse, List.length_take]; omega)
  rw [hlen] at h2 ⊢
  congr 1
  unfold SM.rnd
  refine SM.ext' ?_ ?_ ?_
  · rw [gives_cnt, gives_cnt, tn_cf.1]
  · rw [gives_free, gives_free, tn_cf.1, tn_cf.2]
  · rw [h2, Nat.sub_self, List.take_zero, List.append_nil]
    exact (rnd_live ok.wf ok.le ok.lim).symm
theorem runN_rnds {A : Ag} {S : SM} {deep : Nat} (ok : RdOk A S deep) : ∀ {t : Nat}, S.runN A (dsOf S.live.length deep) t = some (S.rnds A.r deep t)
  | 0 => rfl
  | t + 1 => by
    obtain ⟨o, l⟩ := ok.rnds (k := t)
    rw [SM.runN, runN_rnds ok (t := t)]
    show SM.run A (S.rnds A.r deep t) _ = _
    rw [← l, run_rnd o]
    rfl
/-- the counts after a round -/
theorem rnd_cn {A : Ag} {S : SM} {deep : Nat} (ok : RdOk A S deep) (s : Nat) : cn (S.rnd A.r deep).cnt s = cn S.cnt s + if s ∈ S.free.take deep then 1 else 0 := by
  unfold SM.rnd
  rw [gives_cnt]
  exact (takes_ok ok.wf ok.le ok.lim).1.cnt s
theorem free_perm {A : Ag} {S S' : SM} (w : Wf A S) (w' : Wf A S') (h : S'.live = S.live) : S'.free.Perm S.free := by
  have p := w'.perm.trans w.perm.symm
  rw [h] at p
  exact (List.perm_append_right_iff _).mp p
theorem rnds_free {A : Ag} {S : SM} {deep : Nat} (ok : RdOk A S deep) {k : Nat} : (S.rnds A.r deep k).free.Perm S.free := free_perm ok.wf (ok.rnds).1.wf (ok.rnds).2
theorem rnds_live_cn {A : Ag} {S : SM} {deep : Nat} (ok : RdOk A S deep) {s : Nat} (hs : s ∈ S.live.map (·.1)) : ∀ {k : Nat}, cn (S.rnds A.r deep k).cnt s = cn S.cnt s
  | 0 => rfl
  | k + 1 => by
    obtain ⟨o, l⟩ := ok.rnds (k := k)
    show cn ((S.rnds A.r deep k).rnd A.r deep).cnt s = _
    rw [rnd_cn o, if_neg, rnds_live_cn ok hs]
    · omega
    · intro z
      exact ok.wf.apart ((rnds_free ok).mem_iff.mp (List.mem_of_mem_take z)) hs
end Sw
namespace Sw
open PySem L2
theorem fold_cons : ∀ {l init : List Nat}, l.reverse.foldl (fun f s => s :: f) init = l ++ init
  | [], _ => rfl
  | a :: l, init => by
    rw [List.reverse_cons, List.foldl_append, fold_cons]
    rfl
theorem rnd_ll_free {A : Ag} {S : SM} {deep : Nat} (ok : RdOk A S deep) (h : A.r.ll = true) : (S.rnd A.r deep).free = S.free := by
  cases hr : A.r with
  | last =>
    unfold SM.rnd
    rw [gives_free, (takes_ok ok.wf ok.le ok.lim).1.free]
    show ((S.free.take deep).reverse.foldl (fun f s => s :: f) _) = _
    rw [fold_cons, List.take_append_drop]
  | first => rw [hr] at h; cases h
  | least => rw [hr] at h; cases h
  | lowest =>
    obtain ⟨o, l⟩ := ok.next
    rw [← hr]
    have p := free_perm ok.wf o.wf l
    have o1 := ok.wf.ord
    have o2 := o.wf.ord
    rw [hr] at o1 o2
    refine ord_uniq (r := .lowest) (cnt := S.cnt) (.inl rfl) ?_ o1 (by rw [hr] at p ⊢; exact p)
    intro z
    have := o2 z
    refine List.Pairwise.imp (fun {a b} h => ?_) (by rw [hr]; exact this)
    unfold ltB at h ⊢
    exact h
theorem rnds_ll {A : Ag} {S : SM} {deep : Nat} (ok : RdOk A S deep) (h : A.r.ll = true) : ∀ {t : Nat}, (S.rnds A.r deep t).free = S.free ∧ ∀ s, cn (S.rnds A.r deep t).cnt s = cn S.cnt s + if s ∈ S.free.take deep then (t : Int) else 0
  | 0 => ⟨rfl, fun s => by show cn S.cnt s = _; split <;> omega⟩
  | t + 1 => by
    obtain ⟨h1, h2⟩ := rnds_ll ok h (t := t)
    obtain ⟨o, l⟩ := ok.rnds (k := t)
    refine ⟨(rnd_ll_free o h).trans h1, fun s => ?_⟩
    show cn ((S.rnds A.r deep t).rnd A.r deep).cnt s = _
    rw [rnd_cn o, h1, h2]
    split <;> omega
/-! the rules "first" and "least": a rotation -/
structure Rot (S X : SM) (q j : Nat) : Prop where
  free : X.free = S.free.drop j ++ S.free.take j
  cnt : ∀ s, cn X.cnt s = cn S.cnt s + (if s ∈ S.free then (q : Int) else 0) + (if s ∈ S.free.take j then 1 else 0)
theorem rot_step {A : Ag} {S : SM} (ok : RdOk A S 1) (h : A.r = .first ∨ (A.r = .least ∧ Lev S)) {X : SM} {q j : Nat} (o : RdOk A X 1) (r : Rot S X q j) (hj : j < S.free.length) : Rot S (X.rnd A.r 1) q (j + 1) := by
  have ef : X.free = S.free[j] :: (S.free.drop (j + 1) ++ S.free.take j) := by rw [r.free, List.drop_eq_getElem_cons hj, List.cons_append]
  have tk : S.free.take (j + 1) = S.free.take j ++ [S.free[j]] := by rw [List.take_succ, List.getElem?_eq_getElem hj]; rfl
  have hni : S.free[j] ∉ S.free.take j := by
    intro z
    obtain ⟨i, hi⟩ := List.getElem?_of_mem z
    rw [List.getElem?_take] at hi
    split at hi
    · exact absurd (nd_ix ok.wf.free_nd hi (show S.free[j]? = some S.free[j] by simp)) (by omega)
    · cases hi
  have hcn : ∀ s, cn (X.rnd A.r 1).cnt s = cn S.cnt s + (if s ∈ S.free then (q : Int) else 0) + (if s ∈ S.free.take (j + 1) then 1 else 0) := by
    intro s
    rw [rnd_cn o, r.cnt, ef, tk]
    by_cases e : s = S.free[j]
    · rw [if_pos (show s ∈ List.take 1 _ by rw [e]; exact List.mem_cons_self), if_neg (show s ∉ S.free.take j by rw [e]; exact hni), if_pos (show s ∈ S.free.take j ++ [S.free[j]] by rw [e]; exact List.mem_append_right _ (List.mem_singleton.mpr rfl))]
      omega
    · rw [if_neg (show s ∉ List.take 1 (S.free[j] :: (S.free.drop (j + 1) ++ S.free.take j)) by rw [List.take_succ_cons, List.take_zero]; simpa using e)]
      by_cases m : s ∈ S.free.take j
      · rw [if_pos m, if_pos (List.mem_append_left _ m)]
        omega
      · rw [if_neg m, if_neg (fun z => (List.mem_append.mp z).elim m fun y => e (List.mem_singleton.mp y))]
        omega
  refine ⟨?_, hcn⟩
  rcases h with h | ⟨h, M, hM⟩
  · rw [rnd_one_free ef, h]
    show (S.free.drop (j + 1) ++ S.free.take j) ++ [S.free[j]] = _
    rw [List.append_assoc, tk]
  · have o' := o.next.1
    have pm : (X.rnd A.r 1).free.Perm (S.free.drop (j + 1) ++ S.free.take (j + 1)) := by
      rw [rnd_one_free ef]
      refine insF_perm.trans ?_
      rw [tk, ← List.append_assoc]
      exact (List.perm_append_comm (l₁ := S.free.drop (j + 1) ++ S.free.take j) (l₂ := [S.free[j]])).symm
    have od := o'.wf.ord
    rw [h] at od
    refine ord_uniq (r := .least) (cnt := (X.rnd A.r 1).cnt) (.inr rfl) (by rw [h]; exact od) ?_ pm
    intro _
    have od0 := ok.wf.ord (by rw [h]; exact .inr rfl)
    rw [h] at od0
    have lt0 : S.free.Pairwise fun a b => a < b := by
      refine List.Pairwise.imp_of_mem (fun {a b} ha hb z => ?_) od0
      unfold ltB at z
      simp [hM a ha, hM b hb] at z
      exact z
    have hc : ∀ s ∈ S.free, cn (X.rnd A.r 1).cnt s = M + (q : Int) + (if s ∈ S.free.take (j + 1) then 1 else 0) := fun s hs => by rw [hcn, hM s hs, if_pos hs]
    have ndp : ∀ s ∈ S.free.drop (j + 1), s ∉ S.free.take (j + 1) := by
      intro s hs z
      have nd := ok.wf.free_nd
      rw [← List.take_append_drop (j + 1) S.free] at nd
      exact (List.nodup_append.mp nd).2.2 s z s hs rfl
    refine List.pairwise_append.mpr ⟨?_, ?_, ?_⟩
    · refine List.Pairwise.imp_of_mem (fun {a b} ha hb z => ?_) (lt0.sublist (List.drop_sublist _ _))
      unfold ltB
      simp [hc a (List.mem_of_mem_drop ha), hc b (List.mem_of_mem_drop hb), ndp a ha, ndp b hb]
      exact z
    · refine List.Pairwise.imp_of_mem (fun {a b} ha hb z => ?_) (lt0.sublist (List.take_sublist _ _))
      unfold ltB
      simp [hc a (List.mem_of_mem_take ha), hc b (List.mem_of_mem_take hb), ha, hb]
      exact z
    · intro a ha b hb
      unfold ltB
      simp [hc a (List.mem_of_mem_drop ha), hc b (List.mem_of_mem_take hb), ndp a ha, hb]
      omega
theorem rot_all {A : Ag} {S : SM} (ok : RdOk A S 1) (h : A.r = .first ∨ (A.r = .least ∧ Lev S)) : ∀ {q j : Nat}, j ≤ S.free.length → Rot S (S.rnds A.r 1 (q * S.free.length + j)) q j
  | 0, 0, _ => by
    rw [Nat.zero_mul, Nat.zero_add]
    exact ⟨by show S.free = _; simp, fun s => by show cn S.cnt s = _; simp⟩
  | q + 1, 0, _ => by
    have r := rot_all ok h (q := q) (j := S.free.length) (Nat.le_refl _)
    have e : (q + 1) * S.free.length + 0 = q * S.free.length + S.free.length := by rw [Nat.succ_mul, Nat.add_zero]
    rw [e]
    refine ⟨?_, fun s => ?_⟩
    · rw [r.free]
      simp
    · rw [r.cnt, List.take_length, List.take_zero]
      by_cases m : s ∈ S.free
      · rw [if_pos m, if_pos m, if_pos m, if_neg (by simp)]
        omega
      · rw [if_neg m, if_neg m, if_neg m, if_neg (by simp)]
  | q, j + 1, hj => by
    have r := rot_all ok h (q := q) (j := j) (by omega)
    have o := (ok.rnds (k := q * S.free.length + j)).1
    exact rot_step ok h o r (by omega)
end Sw
namespace Sw
open PySem L2
theorem arr_split {A : Ag} {S : SM} {i s : Nat} (h : (S.free ++ S.live.map (·.1))[i]? = some s) : (i < S.free.length ∧ S.free[i]? = some s) ∨ (S.free.length ≤ i ∧ s ∈ S.live.map (·.1)) := by
  by_cases hi : i < S.free.length
  · rw [List.getElem?_append_left hi] at h
    exact .inl ⟨hi, h⟩
  · rw [List.getElem?_append_right (by omega)] at h
    exact .inr ⟨by omega, List.mem_of_getElem? h⟩
def amOf (S S1 : SM) : List Int := (S.free ++ S.live.map (·.1)).map fun s => cn S1.cnt s - cn S.cnt s
theorem am_at {S S1 : SM} {i s : Nat} (h : (S.free ++ S.live.map (·.1))[i]? = some s) : (amOf S S1).getD i 0 = cn S1.cnt s - cn S.cnt s := by
  unfold amOf
  rw [List.getD_eq_getElem?_getD, List.getElem?_map, h]
  rfl
theorem back_of {A : Ag} {S S' : SM} (w : Wf A S) (w' : Wf A S') (h : S'.live = S.live) : S'.free = (S'.free ++ S.live.map (·.1)).take S.free.length ∧ (S'.free ++ S.live.map (·.1)).drop S.free.length = S.live.map (·.1) := by
  have e := free_len w w' h
  rw [← e]
  exact ⟨(List.take_left' rfl).symm, List.drop_left' rfl⟩
/-- "last": every slot stays -/
theorem leap_last {A : Ag} {S : SM} {deep t : Nat} (ok : RdOk A S deep) (hr : A.r = .last) : LeapOk A S (S.rnd A.r deep) (S.rnds A.r deep t) t (List.range (S.free ++ S.live.map (·.1)).length) (fun i => [i]) (amOf S (S.rnd A.r deep)) (S.free ++ S.live.map (·.1)) := by
  have hl : A.r.ll = true := by rw [hr]; rfl
  obtain ⟨o1, l1⟩ := ok.next
  obtain ⟨ot, lt⟩ := ok.rnds (k := t)
  obtain ⟨f1, c1⟩ := rnds_ll ok hl (t := t)
  have bk := back_of ok.wf ot.wf lt
  rw [f1] at bk
  have rc := rnd_cn ok
  have am : ∀ {i s : Nat}, (S.free ++ S.live.map (·.1))[i]? = some s → evP (amOf S (S.rnd A.r deep)) [i] = [if s ∈ S.free.take deep then 1 else 0] := by
    intro i s h
    unfold evP
    rw [List.map_cons, List.map_nil, am_at h, rc]
    congr 1
    split <;> omega
  have ex : ∀ {i : Nat}, i < (S.free ++ S.live.map (·.1)).length → ∃ s, (S.free ++ S.live.map (·.1))[i]? = some s := fun h => ⟨_, List.getElem?_eq_getElem h⟩
  refine ⟨l1, List.length_range, rfl, by unfold amOf; rw [List.length_map], fun i s h => ⟨i, ?_, ?_⟩, fun i s h => ?_, fun i hi => ⟨rfl, fun k c hc => ?_, fun k c h0 hc => ?_⟩, fun i hi => (show 1 ≤ 100 by decide), fun i hi c hc => ?_, fun i hi => ?_, fun i s h => ?_, fun i j _ _ h => ?_, fun p hp => ⟨p, hp, ?_⟩, fun i s h => ?_, ?_, bk.2, lt, ot.wf, fun s hs => rnds_live_cn ok hs⟩
  · exact List.getElem?_range (List.getElem?_eq_some_iff.mp h).1
  · rw [rnd_ll_free ok hl]
    exact h
  · unfold amOf
    rw [List.getElem?_map, h]
    rfl
  · match k, hc with
    | 0, hc =>
      cases hc
      exact List.getElem?_range hi
  · match k, hc with
    | 0, _ => omega
  · rw [List.mem_singleton.mp hc]
    exact hi
  · obtain ⟨s, hs⟩ := ex hi
    rw [am hs]
    split <;> simp
  · show (S.free ++ S.live.map (·.1))[([i] : List Nat).getD (t % 1) 0]? = _
    rw [Nat.mod_one]
    exact h
  · have h' : ([i] : List Nat).getD (t % 1) 0 = ([j] : List Nat).getD (t % 1) 0 := h
    rw [Nat.mod_one] at h'
    exact h'
  · show ([p] : List Nat).getD (t % 1) 0 = p
    rw [Nat.mod_one]
    rfl
  · rw [c1]
    unfold passP
    rw [am h]
    show _ = _ + (((t / 1 : Nat) : Int) * _ + (([if s ∈ S.free.take deep then 1 else 0] : List Int).take (t % 1)).sum)
    rw [Nat.mod_one, Nat.div_one]
    simp only [List.sum_cons, List.sum_nil, List.take_zero]
    split <;> omega
  · rw [f1]
    exact bk.1
/-! "first": a rotation -/
def mvF (m n : Nat) : List Nat := (List.range n).map fun j => if j < m then (j + m - 1) % m else j
def cyF (m : Nat) (i : Nat) : List Nat := if i < m then (List.range m).map fun k => (i + m - k) % m else [i]
theorem fin1 : ∀ m, m < 7 → ∀ i, i < m → (i + m - 0) % m = i := by decide
theorem fin2 : ∀ m, m < 7 → ∀ i, i < m → ∀ k, k < m → ((i + m - k) % m + m - 1) % m = (if k + 1 < m then (i + m - (k + 1)) % m else i) := by decide
theorem fin3 : ∀ m, m < 7 → ∀ i, i < m → ∀ k, k < m → 0 < k → (i + m - k) % m ≠ i := by decide
theorem fin4 : ∀ m, m < 7 → ∀ i, i < m → ∀ j, j < m → ∀ k, k < m → (i + m - k) % m = (j + m - k) % m → i = j := by decide
theorem fin5 : ∀ m, m < 7 → ∀ p, p < m → ∀ k, k < m → ∃ i, i < m ∧ (i + m - k) % m = p := by decide
theorem fin6 : ∀ m, m < 7 → ∀ i, i < m → ((List.range m).map fun k => if (i + m - k) % m = 0 then (1 : Int) else 0).sum = 1 := by decide
theorem fin7 : ∀ m, m < 7 → ∀ i, i < m → ∀ j, j < m → (((List.range m).map fun k => if (i + m - k) % m = 0 then (1 : Int) else 0).take j).sum = (if i < j then 1 else 0) := by decide
theorem fin8 : ∀ m, m < 7 → ∀ i, i < m → ∀ j, j < m → (i + m - j) % m = (if j ≤ i then i - j else i + m - j) := by decide
theorem cy_len {m i : Nat} (hi : i < m) : (cyF m i).length = m := by
  unfold cyF
  rw [if_pos hi, List.length_map, List.length_range]
theorem cy_at {m i k : Nat} (hi : i < m) (hk : k < m) : (cyF m i)[k]? = some ((i + m - k) % m) := by
  unfold cyF
  rw [if_pos hi, List.getElem?_map, List.getElem?_range hk]
  rfl
theorem cy_out {m i : Nat} (hi : ¬ i < m) : cyF m i = [i] := by
  unfold cyF
  rw [if_neg hi]
theorem cy_t {m i t : Nat} (hi : i < m) : (cyF m i).getD (t % (cyF m i).length) 0 = (i + m - t % m) % m := by
  rw [cy_len hi, List.getD_eq_getElem?_getD, cy_at hi (Nat.mod_lt _ (by omega))]
  rfl
theorem cy_to {m i t : Nat} (hi : ¬ i < m) : (cyF m i).getD (t % (cyF m i).length) 0 = i := by
  rw [cy_out hi]
  show ([i] : List Nat).getD (t % 1) 0 = i
  rw [Nat.mod_one]
  rfl
theorem mv_at {m n j : Nat} (h : j < n) : (mvF m n)[j]? = some (if j < m then (j + m - 1) % m else j) := by
  unfold mvF
  rw [List.getElem?_map, List.getElem?_range h]
  rfl
theorem leap_first {A : Ag} {S : SM} {t : Nat} (ok : RdOk A S 1) (hr : A.r = .first) : LeapOk A S (S.rnd A.r 1) (S.rnds A.r 1 t) t (mvF S.free.length (S.free ++ S.live.map (·.1)).length) (cyF S.free.length) (amOf S (S.rnd A.r 1)) ((S.rnds A.r 1 t).free ++ S.live.map (·.1)) := by
  have m0 : 0 < S.free.length := ok.le
  have wf := ok.wf
  have m7 : S.free.length < 7 := by
    have := wf.count
    have := wf.ok.n6
    omega
  have nlen : (S.free ++ S.live.map (·.1)).length = S.free.length + S.live.length := by rw [List.length_append, List.length_map]
  have n100 : S.free.length + S.live.length ≤ 6 := by
    have := wf.count
    have := wf.ok.n6
    omega
  obtain ⟨o1, l1⟩ := ok.next
  obtain ⟨ot, lt⟩ := ok.rnds (k := t)
  have jt : t % S.free.length < S.free.length := Nat.mod_lt _ m0
  have rt : Rot S (S.rnds A.r 1 t) (t / S.free.length) (t % S.free.length) := by
    have := rot_all ok (.inl hr) (q := t / S.free.length) (j := t % S.free.length) (Nat.le_of_lt jt)
    rw [Nat.mul_comm, Nat.div_add_mod] at this
    exact this
  have r1 : (S.rnd A.r 1).free = S.free.drop 1 ++ S.free.take 1 := by
    have := (rot_all ok (.inl hr) (q := 0) (j := 1) ok.le).free
    rw [Nat.zero_mul] at this
    exact this
  have bk := back_of wf ot.wf lt
  have rc := rnd_cn ok
  have nd := wf.free_nd
  have bnd : (S.free ++ S.live.map (·.1)).Nodup := wf.nodup
  -- the amounts
  have amF : ∀ {i s : Nat}, S.free[i]? = some s → cn (S.rnd A.r 1).cnt s - cn S.cnt s = if i = 0 then 1 else 0 := by
    intro i s h
    rw [rc]
    by_cases e : i = 0
    · subst e
      have : s ∈ S.free.take 1 := by
        refine List.mem_of_getElem? (i := 0) ?_
        rw [List.getElem?_take, if_pos (by decide)]
        exact h
      rw [if_pos this, if_pos rfl]
      omega
    · have : s ∉ S.free.take 1 := by
        intro z
        obtain ⟨k, hk⟩ := List.getElem?_of_mem z
        rw [List.getElem?_take] at hk
        split at hk
        · exact absurd (nd_ix nd hk h) (by omega)
        · cases hk
      rw [if_neg this, if_neg e]
      omega
  have am0 : ∀ {i : Nat}, i < S.free.length → (amOf S (S.rnd A.r 1)).getD i 0 = if i = 0 then 1 else 0 := by
    intro i hi
    have h : S.free[i]? = some S.free[i] := by simp
    have hb : (S.free ++ S.live.map (·.1))[i]? = some S.free[i] := by rw [List.getElem?_append_left hi]; exact h
    rw [am_at hb, amF h]
  have evF : ∀ {i : Nat}, i < S.free.length → evP (amOf S (S.rnd A.r 1)) (cyF S.free.length i) = (List.range S.free.length).map fun k => if (i + S.free.length - k) % S.free.length = 0 then (1 : Int) else 0 := by
    intro i hi
    unfold evP cyF
    rw [if_pos hi, List.map_map]
    refine List.map_congr_left fun k _ => ?_
    exact am0 (Nat.mod_lt _ m0)
  have evL : ∀ {i s : Nat}, ¬ i < S.free.length → (S.free ++ S.live.map (·.1))[i]? = some s → evP (amOf S (S.rnd A.r 1)) (cyF S.free.length i) = [0] := by
    intro i s hi h
    rw [cy_out hi]
    unfold evP
    rw [List.map_cons, List.map_nil, am_at h, rc, if_neg]
    · congr 1
      omega
    · intro z
      rcases arr_split (A := A) h with ⟨a, _⟩ | ⟨_, b⟩
      · exact hi a
      · exact wf.apart (List.mem_of_mem_take z) b
  have flen : (S.rnds A.r 1 t).free.length = S.free.length := free_len wf ot.wf lt
  refine ⟨l1, ?_, ?_, by unfold amOf; rw [List.length_map], fun i s h => ?_, fun i s h => ?_, fun i hi => ⟨?_, fun k c hc => ?_, fun k c h0 hc => ?_⟩, fun i hi => ?_, fun i hi c hc => ?_, fun i hi => ?_, fun i s h => ?_, fun i j hi hj h => ?_, fun p hp => ?_, fun i s h => ?_, bk.1, bk.2, lt, ot.wf, fun s hs => rnds_live_cn ok hs⟩
  · unfold mvF
    rw [List.length_map, List.length_range]
  · rw [List.length_append, flen, ← List.length_append]
  · -- where a slot goes
    have hin : i < (S.free ++ S.live.map (·.1)).length := (List.getElem?_eq_some_iff.mp h).1
    refine ⟨_, mv_at hin, ?_⟩
    rw [r1]
    by_cases hi : i < S.free.length
    · rw [if_pos hi]
      have hf : S.free[i]? = some s := by rw [List.getElem?_append_left hi] at h; exact h
      have e8 := fin8 S.free.length m7 i hi
      by_cases h1 : S.free.length = 1
      · have : i = 0 := by omega
        subst this
        have e : (0 + S.free.length - 1) % S.free.length = 0 := by rw [h1]
        rw [e, List.getElem?_append_left (by rw [List.length_append, List.length_drop, List.length_take]; omega), List.getElem?_append_right (by rw [List.length_drop]; omega), List.length_drop]
        have : 0 - (S.free.length - 1) = 0 := by omega
        rw [this, List.getElem?_take, if_pos (by decide)]
        exact hf
      · rw [e8 1 (by omega)]
        by_cases hz : 1 ≤ i
        · rw [if_pos hz, List.getElem?_append_left (by rw [List.length_append, List.length_drop, List.length_take]; omega), List.getElem?_append_left (by rw [List.length_drop]; omega), List.getElem?_drop]
          have : 1 + (i - 1) = i := by omega
          rw [this]
          exact hf
        · have : i = 0 := by omega
          subst this
          rw [if_neg hz, List.getElem?_append_left (by rw [List.length_append, List.length_drop, List.length_take]; omega), List.getElem?_append_right (by rw [List.length_drop]; omega), List.length_drop]
          have : 0 + S.free.length - 1 - (S.free.length - 1) = 0 := by omega
          rw [this, List.getElem?_take, if_pos (by decide)]
          exact hf
    · rw [if_neg hi]
      have e : (S.free.drop 1 ++ S.free.take 1).length = S.free.length := by rw [List.length_append, List.length_drop, List.length_take]; omega
      rw [List.getElem?_append_right (by rw [e]; omega), e]
      rw [List.getElem?_append_right (by omega)] at h
      exact h
  · unfold amOf
    rw [List.getElem?_map, h]
    rfl
  · by_cases hm : i < S.free.length
    · rw [cy_at hm m0, fin1 _ m7 i hm]
    · rw [cy_out hm]
      rfl
  · by_cases hm : i < S.free.length
    · have hk : k < S.free.length := by
        have := (List.getElem?_eq_some_iff.mp hc).1
        rw [cy_len hm] at this
        exact this
      rw [cy_at hm hk] at hc
      cases hc
      have hcl : (i + S.free.length - k) % S.free.length < S.free.length := Nat.mod_lt _ m0
      rw [mv_at (by omega), if_pos hcl, fin2 _ m7 i hm k hk, List.getD_eq_getElem?_getD]
      by_cases hk1 : k + 1 < S.free.length
      · rw [if_pos hk1, cy_at hm hk1]
        rfl
      · rw [if_neg hk1, List.getElem?_eq_none (by rw [cy_len hm]; omega)]
        rfl
    · rw [cy_out hm] at hc ⊢
      match k, hc with
      | 0, hc =>
        cases hc
        rw [mv_at hi, if_neg hm]
        rfl
  · by_cases hm : i < S.free.length
    · have hk : k < S.free.length := by
        have := (List.getElem?_eq_some_iff.mp hc).1
        rw [cy_len hm] at this
        exact this
      rw [cy_at hm hk] at hc
      cases hc
      exact fin3 _ m7 i hm k hk h0
    · rw [cy_out hm] at hc
      match k, hc with
      | 0, _ => omega
  · by_cases hm : i < S.free.length
    · rw [cy_len hm]; omega
    · rw [cy_out hm]
      show 1 ≤ 100
      decide
  · by_cases hm : i < S.free.length
    · unfold cyF at hc
      rw [if_pos hm] at hc
      obtain ⟨k, _, e⟩ := List.mem_map.mp hc
      have := Nat.mod_lt (i + S.free.length - k) m0
      omega
    · rw [cy_out hm] at hc
      rw [List.mem_singleton.mp hc]
      exact hi
  · by_cases hm : i < S.free.length
    · rw [evF hm, fin6 _ m7 i hm]
      decide
    · rw [evL hm (List.getElem?_eq_getElem hi)]
      decide
  · -- the arrangement
    by_cases hm : i < S.free.length
    · rw [cy_t hm, fin8 _ m7 i hm _ jt]
      have hf : S.free[i]? = some s := by rw [List.getElem?_append_left hm] at h; exact h
      rw [rt.free]
      by_cases hj : t % S.free.length ≤ i
      · rw [if_pos hj, List.getElem?_append_left (by rw [List.length_append, List.length_drop, List.length_take]; omega), List.getElem?_append_left (by rw [List.length_drop]; omega), List.getElem?_drop]
        have : t % S.free.length + (i - t % S.free.length) = i := by omega
        rw [this]
        exact hf
      · rw [if_neg hj, List.getElem?_append_left (by rw [List.length_append, List.length_drop, List.length_take]; omega), List.getElem?_append_right (by rw [List.length_drop]; omega), List.length_drop]
        have : i + S.free.length - t % S.free.length - (S.free.length - t % S.free.length) = i := by omega
        rw [this, List.getElem?_take, if_pos (by omega)]
        exact hf
    · rw [cy_to hm]
      rw [List.getElem?_append_right (by omega)] at h
      rw [List.getElem?_append_right (by omega), flen]
      exact h
  · by_cases hm : i < S.free.length <;> by_cases hm2 : j < S.free.length
    · rw [cy_t hm, cy_t hm2] at h
      exact fin4 _ m7 i hm j hm2 _ jt h
    · rw [cy_t hm, cy_to hm2] at h
      have := Nat.mod_lt (i + S.free.length - t % S.free.length) m0
      omega
    · rw [cy_to hm, cy_t hm2] at h
      have := Nat.mod_lt (j + S.free.length - t % S.free.length) m0
      omega
    · rw [cy_to hm, cy_to hm2] at h
      exact h
  · by_cases hm : p < S.free.length
    · obtain ⟨i, h1, h2⟩ := fin5 _ m7 p hm _ jt
      exact ⟨i, by omega, by rw [cy_t h1]; exact h2⟩
    · exact ⟨p, hp, cy_to hm⟩
  · -- the counts
    rw [rt.cnt]
    unfold passP
    by_cases hm : i < S.free.length
    · have hf : S.free[i]? = some s := by rw [List.getElem?_append_left hm] at h; exact h
      rw [evF hm, cy_len hm, fin6 _ m7 i hm, fin7 _ m7 i hm _ jt, if_pos (List.mem_of_getElem? hf)]
      have : (s ∈ S.free.take (t % S.free.length)) ↔ i < t % S.free.length := by
        constructor
        · intro z
          obtain ⟨k, hk⟩ := List.getElem?_of_mem z
          rw [List.getElem?_take] at hk
          split at hk
          · have := nd_ix nd hk hf
            omega
          · cases hk
        · intro z
          refine List.mem_of_getElem? (i := i) ?_
          rw [List.getElem?_take, if_pos z]
          exact hf
      by_cases hl : i < t % S.free.length
      · rw [if_pos (this.mpr hl), if_pos hl]
        omega
      · rw [if_neg fun z => hl (this.mp z), if_neg hl]
        omega
    · have hnf : s ∉ S.free := by
        rcases arr_split (A := A) h with ⟨a, _⟩ | ⟨_, b⟩
        · exact absurd a hm
        · exact fun z => wf.apart z b
      rw [evL hm h, if_neg hnf, if_neg fun z => hnf (List.mem_of_mem_take z)]
      have e0 : ∀ k : Nat, (([0] : List Int).take k).sum = 0 := fun k => by
        cases k with
        | zero => rfl
        | succ k => simp
      rw [e0]
      simp
end Sw
namespace Sw
open PySem L2
structure TurnOk (A : Ag) (S : SM) (deep many : Nat) : Prop where
  rp1 : RepOk A S (dsOf S.live.length deep) (many / 3) (S.rnds A.r deep (many / 3))
  rp2 : RepOk A (S.rnds A.r deep (many / 3)) (dsOf S.live.length deep) (many - many / 3) (S.rnds A.r deep many)
  free : (S.rnds A.r deep many).free = S.free
  more : ∃ more : Nat, 0 < more ∧ many * deep / (mvd A.r S.free deep).length = more ∧ ∀ s, cn (S.rnds A.r deep many).cnt s = cn S.cnt s + if s ∈ mvd A.r S.free deep then (more : Int) else 0
  lev : A.r = .least → Lev (S.rnds A.r deep many)
theorem rep_ok {A : Ag} {S : SM} {deep t : Nat} (ok : RdOk A S deep) (one : A.r.ll = false → deep = 1) (ht : t ≤ mostT A.r) : RepOk A S (dsOf S.live.length deep) t (S.rnds A.r deep t) := by
  refine ⟨ht, fun hl => ⟨fun z => by rw [z]; rfl, fun _ => ?_⟩, fun hl => ⟨runN_rnds ok, (ok.rnds).2, fun s hs => rnds_live_cn ok hs⟩⟩
  cases hr : A.r with
  | last =>
    have := leap_last (t := t) ok hr
    rw [hr] at this
    have h2 := run_rnd ok
    rw [hr] at h2
    exact ⟨_, _, _, _, _, h2, this⟩
  | first =>
    have hd : deep = 1 := one (by rw [hr]; rfl)
    subst hd
    have := leap_first (t := t) ok hr
    rw [hr] at this
    have h2 := run_rnd ok
    rw [hr] at h2
    exact ⟨_, _, _, _, _, h2, this⟩
  | lowest => rw [hr] at hl; cases hl
  | least => rw [hr] at hl; cases hl
theorem turn_ok {A : Ag} {S : SM} {deep many : Nat} (h : AmtOk A S deep many) (lv : A.r = .least → Lev S) : TurnOk A S deep many := by
  have ok := h.rd
  have hm := h.most
  obtain ⟨o3, l3⟩ := ok.rnds (k := many / 3)
  have d3 : many / 3 ≤ many := Nat.div_le_self _ _
  have rp1 := rep_ok (t := many / 3) ok h.one (by omega)
  have rp2 := rep_ok (t := many - many / 3) o3 h.one (by omega)
  rw [l3, ← rnds_add] at rp2
  have e3 : many / 3 + (many - many / 3) = many := by omega
  rw [e3] at rp2
  obtain ⟨rounds, r0, rm⟩ := h.mul
  cases hl : A.r.ll with
  | true =>
    rw [if_pos hl, Nat.mul_one] at rm
    obtain ⟨f1, c1⟩ := rnds_ll ok hl (t := many)
    have em : mvd A.r S.free deep = S.free.take deep := by unfold mvd; rw [if_pos hl]
    have el : (S.free.take deep).length = deep := by rw [List.length_take]; have := ok.le; omega
    refine ⟨rp1, rp2, f1, ⟨many, by omega, ?_, fun s => by rw [em]; exact c1 s⟩, fun z => by rw [z] at hl; cases hl⟩
    rw [em, el]
    exact Nat.mul_div_cancel _ h.d0
  | false =>
    have hd := h.one hl
    subst hd
    rw [if_neg (by rw [hl]; exact Bool.false_ne_true)] at rm
    have hc : A.r = .first ∨ (A.r = .least ∧ Lev S) := by
      cases hr : A.r with
      | last => rw [hr] at hl; cases hl
      | lowest => rw [hr] at hl; cases hl
      | first => exact .inl rfl
      | least => exact .inr ⟨rfl, lv hr⟩
    have rt := rot_all ok hc (q := rounds) (j := 0) (Nat.zero_le _)
    rw [Nat.add_zero, ← rm] at rt
    have em : mvd A.r S.free 1 = S.free := by unfold mvd; rw [if_neg (by rw [hl]; exact Bool.false_ne_true)]
    have fr : (S.rnds A.r 1 many).free = S.free := by rw [rt.free]; simp
    have cc : ∀ s, cn (S.rnds A.r 1 many).cnt s = cn S.cnt s + if s ∈ S.free then (rounds : Int) else 0 := fun s => by
      rw [rt.cnt, List.take_zero, if_neg (show s ∉ ([] : List Nat) by simp)]
      omega
    refine ⟨rp1, rp2, fr, ⟨rounds, r0, ?_, fun s => by rw [em]; exact cc s⟩, fun z => ?_⟩
    · rw [em, rm, Nat.mul_one]
      exact Nat.mul_div_cancel _ ok.le
    · obtain ⟨M, hM⟩ := lv z
      refine ⟨M + (rounds : Int), fun s hs => ?_⟩
      rw [fr] at hs
      rw [cc, hM s hs, if_pos hs]
end Sw
namespace Sw
open PySem PySem.Spec PyProof.Rows L2 LamX
theorem Rl.fl_in {r : Rl} : inV (.str r.s) [.str "first", .str "least"] = !r.ll := by cases r <;> decide +kernel
theorem mvd_in {A : Ag} {S : SM} {deep many : Nat} (h : AmtOk A S deep many) : ∃ s, s ∈ mvd A.r S.free deep ∧ s ∈ S.free := by
  have h1 := h.rd.le
  have h0 := h.d0
  cases hf : S.free with
  | nil => rw [hf, List.length_nil] at h1; omega
  | cons s f =>
    refine ⟨s, ?_, List.mem_cons_self⟩
    unfold mvd
    split
    · obtain ⟨d, rfl⟩ : ∃ d, deep = d + 1 := ⟨deep - 1, by omega⟩
      rw [List.take_succ_cons]
      exact List.mem_cons_self
    · exact List.mem_cons_self
theorem TurnOk.ne {A : Ag} {S : SM} {deep many : Nat} (h : AmtOk A S deep many) (t : TurnOk A S deep many) : (S.rnds A.r deep many).cnt ≠ S.cnt := by
  intro e
  obtain ⟨more, m0, _, m2⟩ := t.more
  obtain ⟨s, s1, _⟩ := mvd_in h
  have := m2 s
  rw [e, if_pos s1] at this
  omega
theorem mvd_sub {r : Rl} {free : List Nat} {deep s : Nat} (h : s ∈ mvd r free deep) : s ∈ free := by
  unfold mvd at h
  split at h
  · exact List.mem_of_mem_take h
  · exact h
theorem TurnOk.live {A : Ag} {S : SM} {deep many : Nat} (h : AmtOk A S deep many) (t : TurnOk A S deep many) {s : Nat} (hs : s ∈ S.live.map (·.1)) : cn (S.rnds A.r deep many).cnt s = cn S.cnt s := by
  obtain ⟨more, _, _, m2⟩ := t.more
  rw [m2, if_neg fun z => h.rd.wf.apart (mvd_sub z) hs]
  omega
/-- the pairs made so far -/
def RP (C : Addr) (A : Ag) (D : Addr) (H1 : Hp) : Nat → List V → Hp → Prop
  | 0, acc, _ => acc = []
  | 1, acc, H' => ∃ p1 t1, acc = [.ref t1] ∧ PairAt C H' [] A (SM.new A.n) p1 ∧ H' t1 = some (.tup [.ref p1.a.p, .ref p1.n.q]) ∧ D ∉ p1.fp ∧ Fr H1 [] p1.fp
  | _, acc, H' => ∃ p1 t1 p2 t2, acc = [.ref t1, .ref t2] ∧ PairAt C H' [] A (SM.new A.n) p1 ∧ H' t1 = some (.tup [.ref p1.a.p, .ref p1.n.q]) ∧ D ∉ p1.fp ∧ Fr H1 [] p1.fp ∧
      PairAt C H' [] A (SM.new A.n) p2 ∧ H' t2 = some (.tup [.ref p2.a.p, .ref p2.n.q]) ∧ D ∉ p2.fp ∧ Fr H1 [] p2.fp ∧ Dj p1.fp p2.fp
theorem RP.st {C : Addr} {A : Ag} {D : Addr} {H1 H H' : Hp} {T : List (Addr × Str)} {i : Nat} {acc : List V} (r : RP C A D H1 i acc H) (k : Kp T [D] H H') : RP C A D H1 i acc H' := by
  match i, r with
  | 0, r => exact r
  | 1, ⟨p1, t1, e, P1, h1, d1, f1⟩ => exact ⟨p1, t1, e, P1.keep k (Dj.one d1) (Dj.one fun z => by cases z), k.t _ _ h1, d1, f1⟩
  | _ + 2, ⟨p1, t1, p2, t2, e, P1, h1, d1, f1, P2, h2, d2, f2, dj⟩ => exact ⟨p1, t1, p2, t2, e, P1.keep k (Dj.one d1) (Dj.one fun z => by cases z), k.t _ _ h1, d1, f1, P2.keep k (Dj.one d2) (Dj.one fun z => by cases z), k.t _ _ h2, d2, f2, dj⟩
section
variable {P : Program} {w : World} {K : PySem.W.Frag} {mg : Str → Option Value} {base : Heap}
def spRight (T : List (Addr × Str)) : Sp := fun vs H Q _ => ∃ st : Addr, vs = [.ref st] ∧ StAt H st ∧ Tabs T H ∧ ∀ H', Kp T [st] H H' → StAt H' st → Q (.bl true) H'
abbrev NRi : List Str := ["_law_state_here", "_law_n", "_law_numbers", "_law_pairs", "_law_turn", "_law_one_here", "_law_mine", "_law_other", "_law_its", "_law_deep", "_law_many", "_law_is_repeat", "_law_turned", "_law_free", "_law_handle", "_law_held", "_law_value"]
theorem sc_right : FnScope NRi ["_law_state_here"] d_L_right.scope := ⟨rfl, rfl, rfl, by decide +kernel, rfl, by decide +kernel, by decide +kernel⟩
theorem ok_right (t : Tx K mg base) : Cl P w K mg base 10 "_law_right" (spRight (TT K)) := by
  obtain ⟨fd, F⟩ := t.e_L_right
  refine mkCl (N := NRi) (ps := ["_law_state_here"]) F t.g_L_right (fun _ _ _ _ _ _ us hl => match us, hl with | [_], _ => rfl) sc_right (fun vs H Q E h => ?_) (fun cdv A outer s H vs Q E hr h => ?_)
  · obtain ⟨_, rfl, _⟩ := h
    rfl
  · obtain ⟨st, rfl, sd, tb, q⟩ := h
    have nd : NRi.Nodup := by decide +kernel
    refine ⟨_, pss_cons (ps_set (i := 1) nd rfl (Or.inl rfl) (pe_op op_add pe_int (pe_c (ok_digit t) hr (by decide) rfl (pa_cons (pv 0) (pa_cons pe_int pa_nil)))) rfl)
      (pss_cons (ps_set (i := 2) nd rfl (Or.inr rfl) (pe_tup (pa_cons (pv 1) (pa_cons (pe_op op_add pe_int (pe_c (ok_digit t) hr (by decide) rfl (pa_cons (pv 0) (pa_cons (pv 1) pa_nil)))) (pa_cons (pe_c (ok_one t) hr (by decide) rfl (pa_cons (pv 0) (pa_cons (pe_lst (pa_cons pe_int (pa_cons pe_int (pa_cons pe_int (pa_cons pe_int pa_nil))))) pa_nil))) pa_nil)))) rfl)
      (pss_cons (ps_set (i := 2) nd rfl (Or.inr rfl) (pe_op op_catT (pv 2) (pe_tup (pa_cons (pe_c (ok_one t) hr (by decide) rfl (pa_cons (pv 0) (pa_cons (pe_lst (pa_cons pe_str (pa_cons pe_str (pa_cons pe_str (pa_cons pe_str pa_nil))))) pa_nil))) pa_nil))) rfl)
      (pss_cons (ps_setLc (i := 3) (own := [("_law_turn", 4)]) (g := gName 4) (tt := tYes) (by rfl) nd rfl rfl (sw_true rfl rfl rfl (by decide +kernel)) (pi_range1 rfl t.b_range (pa_cons pe_int pa_nil)) (blkOk_by (own := [("_law_turn", 4)]) (N := NRi) (sc := d_L_right.scope) (by decide +kernel)) (fun _ _ _ _ _ => pg_name (i := 4) nd rfl (Or.inl rfl)) (fun _ _ _ _ _ => pts_nil)
          (fun _ _ _ _ _ => pe_tup (pa_cons (pe_mk (C := SC K) (ok_init t) hr (by decide) rfl (pa_cons (pe_ix (ix_seqK (K := K) rfl) (pv 2) pe_int fun _ _ => rfl) (pa_cons (pe_ix (ix_seqK (K := K) rfl) (pv 2) pe_int fun _ _ => rfl) (pa_cons (pe_ix (ix_seqK (K := K) rfl) (pv 2) pe_int fun _ _ => rfl) (pa_cons (pe_ix (ix_seqK (K := K) rfl) (pv 2) pe_int fun _ _ => rfl) pa_nil)))))
            (pa_cons (pe_c (ok_notes t) hr (by decide) rfl (pa_cons (pv 2) pa_nil)) pa_nil))))
      (C8.pss_cut (ps_if (PW.pt (pw_or (pt_not (pt_val (pe_c (ok_beg t) hr (by decide) rfl (pa_cons (pv 0) (pa_cons (pv 3) pa_nil)))))
          (pw_or1 (PW.pt (pw_and (pt_cmpR op_eq (pe_ix ix_seq (pv 2) pe_int fun _ _ => rfl) pe_str (nomark _)) (pw_and1 (pt_not (pt_val (pe_c (ok_lvl t) hr (by decide) rfl (pa_cons (pv 3) pa_nil)))))))))) (pss_one ps_never) pss_nil)
      (pss_cons (ps_asg (pv 3) (pg_lst rfl (pgs_cons (pg_tup rfl (pgs_cons (pg_name (i := 5) nd rfl (Or.inl rfl)) (pgs_cons (pg_name (i := 6) nd rfl (Or.inl rfl)) pgs_nil))) (pgs_cons (pg_tup rfl (pgs_cons (pg_name (i := 7) nd rfl (Or.inl rfl)) (pgs_cons (pg_name (i := 8) nd rfl (Or.inl rfl)) pgs_nil))) pgs_nil))))
      (pss_cons (ps_if (PW.pt (pw_or (pt_not (pt_val (pe_c (ok_are t) hr (by decide) rfl (pa_cons (pv 5) (pa_cons (pv 7) (pa_cons pe_bl pa_nil))))))
          (pw_or (pt_not (pt_val (pe_c (ok_noted t) hr (by decide) rfl (pa_cons (pv 5) (pa_cons (pv 6) pa_nil))))) (pw_or1 (pt_not (pt_val (pe_c (ok_noted t) hr (by decide) rfl (pa_cons (pv 7) (pa_cons (pv 8) pa_nil))))))))) (pss_one ps_never) pss_nil)
      (pss_cons (ps_asg (pe_c (ok_amt t) hr (by decide) rfl (pa_cons (pv 0) (pa_cons (pv 6) pa_nil))) (pg_tup rfl (pgs_cons (pg_name (i := 9) nd rfl (Or.inl rfl)) (pgs_cons (pg_name (i := 10) nd rfl (Or.inl rfl)) (pgs_cons (pg_name (i := 11) nd rfl (Or.inl rfl)) pgs_nil)))))
      (C8.pss_cut (ps_set (i := 12) nd rfl (Or.inl rfl) (pe_ifExp (pt_val (pv 11)) (pe_c (ok_brp t) hr (by decide) rfl (pa_cons (pv 5) (pa_cons (pv 6) (pa_cons (pv 9) (pa_cons (pv 10) pa_nil))))) (pe_c (ok_trn t) hr (by decide) rfl (pa_cons (pv 5) (pa_cons (pv 6) (pa_cons (pv 9) (pa_cons (pv 10) pa_nil)))))) rfl)
      (pss_cons (ps_if (PW.pt (pw_or (pt_not (pt_val (pv 12))) (pw_or (pt_not (pt_val (pe_c (ok_noted t) hr (by decide) rfl (pa_cons (pv 5) (pa_cons (pv 6) pa_nil))))) (pw_or1 (pt_not (pt_val (pe_c (ok_are t) hr (by decide) rfl (pa_cons (pv 5) (pa_cons (pv 7) (pa_cons pe_bl pa_nil)))))))))) (pss_one ps_never) pss_nil)
      (pss_cons (ps_set (i := 12) nd rfl (Or.inl rfl) (pe_c (ok_brp t) hr (by decide) rfl (pa_cons (pv 7) (pa_cons (pv 8) (pa_cons (pv 9) (pa_cons (pv 10) pa_nil))))) rfl)
      (pss_cons (ps_if (PW.pt (pw_or (pt_not (pt_val (pv 12))) (pw_or (pt_not (pt_val (pe_c (ok_noted t) hr (by decide) rfl (pa_cons (pv 7) (pa_cons (pv 8) pa_nil))))) (pw_or1 (pt_not (pt_val (pe_c (ok_are t) hr (by decide) rfl (pa_cons (pv 5) (pa_cons (pv 7) (pa_cons pe_bl pa_nil)))))))))) (pss_one ps_never) pss_nil)
      (C8.pss_cut (ps_set (i := 13) nd rfl (Or.inl rfl) (pe_ifExp (pt_cmpR op_in_seq (pe_ix ix_seq (pv 2) pe_int fun _ _ => rfl) (pe_tup (pa_cons pe_str (pa_cons pe_str pa_nil))) rfl) (pe_callB call_len_seq rfl t.b_len (by decide +kernel) (pa_cons (pe_dget (hu_of hr) (pv 6) pe_str (fun _ _ => rfl)) pa_nil)) pe_int) rfl)
      (pss_cons (ps_if (PW.pt (pw_or (pt_not (pt_val (pe_c (ok_trn t) hr (by decide) rfl (pa_cons (pv 5) (pa_cons (pv 6) (pa_cons pe_int (pa_cons (pe_op op_mul (pe_ix ix_seq (pv 2) pe_int fun _ _ => rfl) (pv 13)) pa_nil))))))) (pw_or1 (pt_not (pt_val (pe_c (ok_are t) hr (by decide) rfl (pa_cons (pv 5) (pa_cons (pv 7) (pa_cons pe_bl pa_nil))))))))) (pss_one ps_never) pss_nil)
      (pss_cons (ps_for PassesOwn.never rfl (pi_list (pe_lc (own := [("_law_held", 15), ("_law_value", 16)]) (g := gTup K 2 (gCons (gName 15) (gCons (gName 16) gNil))) (tt := tYes) rfl nd (pi_list (pe_dget (hu_of hr) (pv 6) pe_str (fun _ _ => rfl))) (blkOk_by (own := [("_law_held", 15), ("_law_value", 16)]) (N := NRi) (sc := d_L_right.scope) (by decide +kernel))
            (fun _ _ _ _ _ => pg_tupK (K := K) rfl rfl (pgs_cons (pg_name (i := 15) nd rfl (Or.inl rfl)) (pgs_cons (pg_name (i := 16) nd rfl (Or.inl rfl)) pgs_nil))) (fun _ _ _ _ _ => pts_nil) (fun _ _ _ _ _ => pv 15))) (pg_name (i := 14) nd rfl (Or.inl rfl))
          (pss_cons (ps_if (PW.pt (pw_or (pt_cmpR (op_neD hr.units) (pe_mt (ok_give t) hr (by decide) (pv 5) (pa_cons (pv 14) pa_nil)) (pe_c (ok_gvn t) hr (by decide) rfl (pa_cons (pv 6) (pa_cons (pv 14) pa_nil))) rfl)
              (pw_or1 (pt_cmpR (op_neD hr.units) (pe_mt (ok_give t) hr (by decide) (pv 7) (pa_cons (pv 14) pa_nil)) (pe_c (ok_gvn t) hr (by decide) rfl (pa_cons (pv 8) (pa_cons (pv 14) pa_nil))) rfl)))) (pss_one ps_never) pss_nil)
          (pss_one (ps_if (pt_not (pt_val (pe_c (ok_are t) hr (by decide) rfl (pa_cons (pv 5) (pa_cons (pv 7) (pa_cons pe_bl pa_nil)))))) (pss_one ps_never) pss_nil))))
      (pss_one (ps_ret (pe_and (pe_c (ok_noted t) hr (by decide) rfl (pa_cons (pv 5) (pa_cons (pv 6) pa_nil))) (pe_one (pe_c (ok_noted t) hr (by decide) rfl (pa_cons (pv 7) (pa_cons (pv 8) pa_nil))))))))))))))))))))), ?_⟩
    -- the numbers
    refine ⟨_, rfl, st, 6, rfl, sd, by decide, by decide, fun d1 H1 hd1 k1 s1 => ⟨_, _, rfl, rfl, ?_⟩⟩
    have en : (1 : Int) + (d1 : Int) = ((1 + d1 : Nat) : Int) := by omega
    refine ⟨_, rfl, _, rfl, _, rfl, st, 1 + d1, eqi (b := st) en, s1, by omega, by omega, fun d2 H2 hd2 k2 s2 => ⟨_, _, rfl, rfl, ?_⟩⟩
    have el : (1 : Int) + (d2 : Int) = ((1 + d2 : Nat) : Int) := by omega
    refine ⟨_, rfl, sz (show 4 ≤ 1000 by decide), fun lw hlw => ?_⟩
    have k3 : Kp (TT K) [] H2 (upd H2 lw (.lst [.int 1, .int 2, .int 3, .int 5])) := Kp.new hlw fun _ z => by cases z
    have s3 := s2.keep k3 (fun z => by cases z)
    refine ⟨st, lw, _, rfl, s3, upd_same, fun z => nAl hlw (by rw [z]; exact s2.al), (by intro z; cases z), (show 4 ≤ 1000 by decide), fun j x H4 hj k4 s4 => ?_⟩
    have hx : ∃ g : Nat, x = .int (g : Int) ∧ 1 ≤ g ∧ g ≤ 5 := by
      match j, hj with
      | 0, hj => cases hj; exact ⟨1, rfl, by decide, by decide⟩
      | 1, hj => cases hj; exact ⟨2, rfl, by decide, by decide⟩
      | 2, hj => cases hj; exact ⟨3, rfl, by decide, by decide⟩
      | 3, hj => cases hj; exact ⟨5, rfl, by decide, by decide⟩
    obtain ⟨g, rfl, g1, g5⟩ := hx
    refine ⟨sz (show 3 ≤ 1000 by decide), fun tq htq => ?_⟩
    have k5 : Kp (TT K) [] H4 (upd H4 tq (.tup [.int (1 + (d1 : Int)), .int (1 + (d2 : Int)), .int (g : Int)])) := Kp.new htq fun _ z => by cases z
    have s5 := s4.keep k5 (fun z => by cases z)
    have k05 : Kp (TT K) [st] H (upd H4 tq (.tup [.int (1 + (d1 : Int)), .int (1 + (d2 : Int)), .int (g : Int)])) := k1.then (k2.then (k3.sub.then (k4.then k5.sub)))
    refine ⟨_, rfl, _, rfl, sz (show 4 ≤ 1000 by decide), fun lw2 hlw2 => ?_⟩
    have k6 : Kp (TT K) [] _ (upd (upd H4 tq (.tup [.int (1 + (d1 : Int)), .int (1 + (d2 : Int)), .int (g : Int)])) lw2 (.lst [.str "last", .str "first", .str "lowest", .str "least"])) := Kp.new hlw2 fun _ z => by cases z
    have s6 := s5.keep k6 (fun z => by cases z)
    refine ⟨st, lw2, _, rfl, s6, upd_same, fun z => nAl hlw2 (by rw [z]; exact s5.al), (by intro z; cases z), (show 4 ≤ 1000 by decide), fun j x H7 hj k7 s7 => ?_⟩
    have hx : ∃ r : Rl, x = .str r.s := by
      match j, hj with
      | 0, hj => cases hj; exact ⟨.last, rfl⟩
      | 1, hj => cases hj; exact ⟨.first, rfl⟩
      | 2, hj => cases hj; exact ⟨.lowest, rfl⟩
      | 3, hj => cases hj; exact ⟨.least, rfl⟩
    obtain ⟨r, rfl⟩ := hx
    refine ⟨sz (show 1 ≤ 1000 by decide), fun tr htr => ?_⟩
    have k8 : Kp (TT K) [] H7 (upd H7 tr (.tup [.str r.s])) := Kp.new htr fun _ z => by cases z
    have s8 := s7.keep k8 (fun z => by cases z)
    have etq := k8.t _ _ (k7.t _ _ (k6.t _ _ (upd_same (H := H4) (a := tq))))
    refine ⟨tq, tr, _, _, rfl, rfl, SqT.of etq, SqT.of upd_same, (by intro z; cases z), sz (show 3 + 1 ≤ 1000 by decide), (fun z => by cases z), fun _ tn htn => ?_⟩
    obtain ⟨G, hG⟩ : ∃ G : Ag, G = ⟨1 + d1, 1 + d2, g, r⟩ := ⟨_, rfl⟩
    have okG : G.Ok := by
      subst hG
      exact ⟨by show 1 ≤ 1 + d2; omega, by show 1 + d2 ≤ 1 + d1; omega, by show 1 + d1 ≤ 6; omega, g1, g5⟩
    have eag : [V.int (1 + (d1 : Int)), .int (1 + (d2 : Int)), .int (g : Int)] ++ [V.str r.s] = agV G := by
      subst hG
      rw [en, el]
      rfl
    have eG : G.g = g := by rw [hG]
    have eR : G.r = r := by rw [hG]
    rw [eag]
    have k9 : Kp (TT K) [] (upd H7 tr (.tup [.str r.s])) (upd (upd H7 tr (.tup [.str r.s])) tn (.tup (agV G))) := Kp.new htn fun _ z => by cases z
    have s9 := s8.keep k9 (fun z => by cases z)
    have k09 : Kp (TT K) [st] H (upd (upd H7 tr (.tup [.str r.s])) tn (.tup (agV G))) := k05.then (k6.sub.then (k7.then (k8.sub.then k9.sub)))
    have etn : (upd (upd H7 tr (.tup [.str r.s])) tn (.tup (agV G))) tn = some (.tup (agV G)) := upd_same
    generalize upd (upd H7 tr (.tup [.str r.s])) tn (.tup (agV G)) = H9 at *
    clear hG eag k8 k9 etq htn htr
    -- the pairs
    refine ⟨2, rfl, by decide, by decide, fun D hD => ?_⟩
    refine lcR (T := TT K) (RP (SC K) G D H9) (by decide) hD (fun _ _ _ _ r k => r.st k) rfl (fun i acc H' N M hi k hd rp n m => ?_) fun H10 acc k10 hd10 hl10 rp => ?_
    · have etn' := k.t _ _ etn
      refine ⟨rfl, it1 (B := M H') ?_⟩
      refine ⟨_, rfl, .inr (.inl ⟨tn, _, (0 : Nat), .int G.n, rfl, rfl, SqT.of etn', at_nat rfl, ?_⟩)⟩
      refine ⟨_, rfl, .inr (.inl ⟨tn, _, (1 : Nat), .int G.lim, rfl, rfl, SqT.of etn', at_nat rfl, ?_⟩)⟩
      refine ⟨_, rfl, .inr (.inl ⟨tn, _, (2 : Nat), .int G.g, rfl, rfl, SqT.of etn', at_nat rfl, ?_⟩)⟩
      refine ⟨_, rfl, .inr (.inl ⟨tn, _, (3 : Nat), .str G.r.s, rfl, rfl, SqT.of etn', at_nat rfl, ?_⟩)⟩
      refine fun x dx hx hdx nxd => ⟨G, x, dx, okG, rfl, upd_same, fun a0 H5 e0 s0 k0 f0 => ⟨rfl, ?_⟩⟩
      have kn : Kp (TT K) [] H' (upd (upd H' dx (.own x)) x (.ins (SC K) dx [])) := (Kp.new hdx fun _ z => by cases z).then (Kp.new (by rw [upd_ne nxd.symm]; exact hx) fun _ z => by cases z)
      have k25 : Kp (TT K) [] H' H5 := kn.trans k0 fun b hb => .inr (by rw [List.mem_singleton.mp hb]; exact nAl hx)
      have fa : Fr H' [] a0.fp := fun b hb => (f0 b hb).elim (fun z => .inr (by rw [List.mem_singleton.mp z]; exact nAl hx)) fun z => .inr (kn.back z)
      refine ⟨_, rfl, G, tn, rfl, okG, k25.t _ _ etn', fun nn H6 en6 k6' f6 n6 => ?_⟩
      have k26 := k25.then k6'
      have Pn : PairAt (SC K) H6 [] G (SM.new G.n) ⟨a0, nn⟩ := ⟨s0.keep k6' Dj.nil Dj.nil, n6, fun b hb hn => (f6 b hn).elim (fun z => by cases z) fun z => z (s0.al b hb)⟩
      have fp6 : Fr H' [] (PA.fp ⟨a0, nn⟩) := fun b hb => (List.mem_append.mp hb).elim (fa b) fun z => (f6 b z).imp id k25.back
      refine ⟨sz (show 2 ≤ 1000 by decide), fun tp htp => ?_⟩
      have kt : Kp (TT K) [] H6 (upd H6 tp (.tup [.ref x, .ref nn.q])) := Kp.new htp fun _ z => by cases z
      have k27 := k26.then kt
      have Pt := Pn.keep0 kt
      have ex : upd H6 tp (.tup [.ref x, .ref nn.q]) tp = some (.tup [.ref a0.p, .ref nn.q]) := by rw [upd_same, e0]
      have nD : D ∉ PA.fp ⟨a0, nn⟩ := fun z => (fp6 D z).elim (fun y => by cases y) fun y => y (Al.l hd)
      have f9 : Fr H9 [] (PA.fp ⟨a0, nn⟩) := fun b hb => (fp6 b hb).imp id k.back
      match i, rp with
      | 0, rp =>
        have rp' : acc = [] := rp
        subst rp'
        exact n _ _ k27 ⟨⟨a0, nn⟩, tp, rfl, Pt, ex, nD, f9⟩
      | 1, ⟨p1, t1, e, P1, h1, d1', f1⟩ =>
        subst e
        exact n _ _ k27 ⟨p1, t1, ⟨a0, nn⟩, tp, rfl, P1.keep0 k27, k27.t _ _ h1, d1', f1, Pt, ex, nD, f9, fun b hb hv => (fp6 b hv).elim (fun y => by cases y) fun y => y (P1.al b hb)⟩
    · obtain ⟨p1, t1, p2, t2, rfl, P1, h1, nd1, f1, P2, h2, nd2, f2, dj⟩ := rp
      have s10 := s9.keep k10 (fun z => by cases z)
      have k010 := k09.then k10.sub
      have nst : ∀ {p : PA}, Fr H9 [] p.fp → st ∉ p.fp := fun f z => (f st z).elim (fun y => by cases y) fun y => y s9.al
      have W : Wd (SC K) H10 [] G (SM.new G.n) (SM.new G.n) p1 p2 st := ⟨P1, P2, dj, s10, nst f1, nst f2, fun z => by cases z⟩
      have R : PrsAt H10 D t1 t2 p1 p2 := ⟨hd10, h1, h2⟩
      have nDs : D ≠ st := fun z => nAl hD (by rw [z]; exact s9.al)
      have nlp : D ∉ wfp st p1 p2 := fun z => by
        unfold wfp at z
        simp only [List.mem_cons, List.mem_append] at z
        rcases z with z | z | z
        · exact nDs z
        · exact nd1 z
        · exact nd2 z
      have fr0 : Fr H [st] (wfp st p1 p2) := fun b hb => by
        unfold wfp at hb
        simp only [List.mem_cons, List.mem_append] at hb
        rcases hb with z | z | z
        · exact .inl (by rw [z]; exact List.mem_cons_self)
        · exact (f1 b z).elim (fun y => by cases y) fun y => .inr (k09.back y)
        · exact (f2 b z).elim (fun y => by cases y) fun y => .inr (k09.back y)
      have etn10 := k10.t _ _ etn
      have ka : Kp (TT K) [st] H H10 := k010
      refine ⟨fun σ' H' => ∃ vp S q1 q2, Wd (SC K) H' vp G S S q1 q2 st ∧ RdOk G S 1 ∧ (G.r = .least → Lev S) ∧ PrsAt H' D t1 t2 q1 q2 ∧ Kp (TT K) [st] H H' ∧ Fr H [st] (wfp st q1 q2) ∧ H' tn = some (.tup (agV G)) ∧
          σ' = [some (.ref st), some (.int (1 + (d1 : Int))), some (.ref tn), some (.ref D), none, none, none, none, none, none, none, none, none, none, none, none, none], ?_, fun σ2 H11 z => ?_⟩
      · refine ⟨_, rfl, _, rfl, [], G, SM.new G.n, p1, p2, st, D, t1, t2, rfl, W, R, nlp, Wf.new okG, ka.tab tb, fun vp' S' q1 q2 H' nms stp W' wf' lim cb => ⟨true, rfl, iteF ?_⟩⟩
        obtain ⟨n1, n2, n3, n4⟩ := nms
        have R' := R.keep stp.kp nlp n1 n2 n3 n4
        have kb := ka.trans stp.kp fr0
        have frb := Fr.trans ka fr0 stp.fr
        have nlp' : D ∉ wfp st q1 q2 := fun z => (stp.fr D z).elim nlp fun y => y (Al.l hd10)
        have rd1 : RdOk G S' 1 := by
          refine ⟨wf', ?_, by omega⟩
          have := wf'.count
          have := okG.ln
          omega
        have etn' := stp.kp.t _ _ etn10
        refine ⟨_, rfl, .inr (.inl ⟨tn, _, (3 : Nat), .str G.r.s, rfl, rfl, SqT.of etn', at_nat rfl, ?_⟩)⟩
        refine ⟨rfl, _, rfl, ite2 (fun hl => ?_) (fun hl => ?_)⟩
        · have er : G.r = .least := rl_yes (r' := .least) hl
          refine ⟨_, rfl, vp', G, S', q1, q2, st, D, t1, t2, rfl, W', R', nlp', rd1, er, kb.tab tb, fun s => ?_, fun vp2 S2 r1 r2 H2 nms2 stp2 W2 rd2 lev2 => ⟨true, rfl, iteF ?_⟩⟩
          · have h0 := cb s
            have e0 : cn (SM.new G.n).cnt s = 0 := by
              unfold cn SM.new
              rw [List.getD_eq_getElem?_getD, List.getElem?_replicate]
              split <;> rfl
            omega
          · obtain ⟨m1, m2, m3, m4⟩ := nms2
            exact ⟨vp2, S2, r1, r2, W2, rd2, fun _ => lev2, R'.keep stp2.kp nlp' m1 m2 m3 m4, kb.trans stp2.kp frb, Fr.trans kb frb stp2.fr, stp2.kp.t _ _ etn', rfl⟩
        · have er : G.r ≠ .least := rl_no (r' := .least) hl
          exact iteF ⟨vp', S', q1, q2, W', rd1, fun z => absurd z er, R', kb, frb, etn', rfl⟩
      · obtain ⟨vp, S, q1, q2, W, rd, lev, R, kc, frc, etn, rfl⟩ := z
        have wf := rd.wf
        -- unpack
        refine ⟨_, rfl, D, _, rfl, SqL.of R.l, rfl, _, _, rfl, t1, _, rfl, SqT.of R.t1, rfl, _, _, rfl, _, _, rfl, rfl, _, _, rfl, t2, _, rfl, SqT.of R.t2, rfl, _, _, rfl, _, _, rfl, rfl, rfl, ?_⟩
        -- equal, as noted
        refine ⟨_, rfl, _, rfl, vp, G, S, S, q1.a, q2.a, (by rw [decide_eq_true (rfl : S.cnt = S.cnt)]; rfl), W.a.s, W.b.s, wf, wf, kc.tab tb, fun _ => rfl, fun H12 ke => ⟨true, rfl, iteF ?_⟩⟩
        have W1 := W.keep0 ke
        have kd := kc.then ke.sub
        refine ⟨_, rfl, _, rfl, vp, G, S, q1.a, q1.n, rfl, W1.a.s, W1.a.n, wf, kd.tab tb, fun H13 ke2 => ⟨true, rfl, iteF ?_⟩⟩
        have W2 := W1.keep0 ke2
        have kf := kd.then ke2.sub
        refine ⟨_, rfl, _, rfl, vp, G, S, q2.a, q2.n, rfl, W2.b.s, W2.b.n, wf, kf.tab tb, fun H14 ke3 => ⟨true, rfl, iteF ?_⟩⟩
        have W3 := W2.keep0 ke3
        have kg := kf.then ke3.sub
        -- amounts
        refine ⟨_, rfl, _, rfl, vp, G, S, q1.n, st, rfl, W3.a.n, W3.sd, fun z => W3.s1 (PA.n_in _ z), W3.sv, rd, fun deep many b pm H15 k15 s15 am hbm epm => ?_⟩
        have W4 := W3.draw k15 s15
        have kh := kg.then k15
        have etn15 := k15.t _ _ (ke3.t _ _ (ke2.t _ _ (ke.t _ _ etn)))
        refine ⟨pm, _, rfl, SqT.of epm, rfl, _, _, rfl, _, _, rfl, _, _, rfl, rfl, ?_⟩
        have TK := turn_ok am lev
        obtain ⟨more, m0, m1, m2⟩ := TK.more
        have o1 := am.rd.rnds (k := many / 3)
        have o2 := am.rd.rnds (k := many)
        have mm1 : many ≤ 1000000000000000000 := by
          have := am.most
          unfold mostT at this
          split at this <;> omega
        -- the first map turns
        refine ⟨fun σ' H' => ∃ vp' r1, Wd (SC K) H' vp' G (S.rnds G.r deep many) S r1 q2 st ∧ r1.a.p = q1.a.p ∧ r1.n.q = q1.n.q ∧ Kp (TT K) [st] H H' ∧ Fr H [st] (wfp st r1 q2) ∧ H' tn = some (.tup (agV G)) ∧
            σ' = [some (.ref st), some (.int (1 + (d1 : Int))), some (.ref tn), some (.ref D), none, some (.ref q1.a.p), some (.ref q1.n.q), some (.ref q2.a.p), some (.ref q2.n.q), some (.int (deep : Int)), some (.int (many : Int)), some (.bl b), some (.bl true), none, none, none, none], ?_, fun σ3 H16 z => ?_⟩
        · refine ⟨_, rfl, b, rfl, ?_⟩
          cases b with
          | true =>
            refine iteT ⟨_, rfl, _, rfl, _, rfl, _, rfl, vp, G, S, S.rnds G.r deep (many / 3), S.rnds G.r deep many, q1, deep, many, more, rfl, W4.a, am.rd, am.d0, kh.tab tb, o1.1.wf, o1.2, o2.1.wf, TK.rp1, TK.rp2, TK.free, o2.2, m1, m2, fun r1 H16 e1 e2 stp P' => ?_⟩
            exact ⟨vp, r1, W4.step stp P', e1, e2, kh.trans (step_stp (st := st) (p2 := q2) stp).kp frc, Fr.trans kh frc (step_stp (st := st) (p2 := q2) stp).fr, stp.kp.t _ _ etn15, rfl⟩
          | false =>
            refine iteF ⟨_, rfl, _, rfl, _, rfl, _, rfl, vp, G, S, q1, deep, many, rfl, W4.a, am.rd, kh.tab tb, by have := hbm rfl; omega, fun vp' r1 H16 e1 e2 stp P' => ?_⟩
            exact ⟨vp', r1, W4.step stp P', e1, e2, kh.trans (step_stp (st := st) (p2 := q2) stp).kp frc, Fr.trans kh frc (step_stp (st := st) (p2 := q2) stp).fr, stp.kp.t _ _ etn15, rfl⟩
        · obtain ⟨vp', r1, W5, e1, e2, ki, fri, etn16, rfl⟩ := z
          have wfS1 := o2.1.wf
          have ne1 := TK.ne am
          refine ⟨_, rfl, true, rfl, iteF ?_⟩
          refine ⟨_, rfl, _, rfl, vp', G, _, r1.a, r1.n, by rw [e1, e2]; rfl, W5.a.s, W5.a.n, wfS1, ki.tab tb, fun H17 kj => ⟨true, rfl, iteF ?_⟩⟩
          have W6 := W5.keep0 kj
          have kk := ki.then kj.sub
          refine ⟨_, rfl, _, rfl, vp', G, _, S, r1.a, q2.a, by rw [e1, decide_eq_false ne1]; rfl, W6.a.s, W6.b.s, wfS1, wf, kk.tab tb, fun z => absurd z ne1, fun H18 kl => ⟨true, rfl, iteF ?_⟩⟩
          have W7 := W6.keep0 kl
          have km := kk.then kl.sub
          -- the other map turns
          refine ⟨_, rfl, _, rfl, _, rfl, _, rfl, vp', G, S, S.rnds G.r deep (many / 3), S.rnds G.r deep many, q2, deep, many, more, rfl, W7.b, am.rd, am.d0, km.tab tb, o1.1.wf, o1.2, o2.1.wf, TK.rp1, TK.rp2, TK.free, o2.2, m1, m2, fun r2 H19 e3 e4 stp P' => ?_⟩
          have W8 := (W7.swap.step stp P').swap
          have stp8 := Stp.swap (step_stp (st := st) (p2 := r1) stp)
          have kn := km.trans stp8.kp fri
          have frn := Fr.trans km fri stp8.fr
          have etn19 := stp.kp.t _ _ (kl.t _ _ (kj.t _ _ etn16))
          refine ⟨_, rfl, true, rfl, iteF ?_⟩
          refine ⟨_, rfl, _, rfl, vp', G, _, r2.a, r2.n, by rw [e3, e4]; rfl, W8.b.s, W8.b.n, wfS1, kn.tab tb, fun H20 ko => ⟨true, rfl, iteF ?_⟩⟩
          have W9 := W8.keep0 ko
          have kp' := kn.then ko.sub
          refine ⟨_, rfl, _, rfl, vp', G, _, _, r1.a, r2.a, by rw [e1, e3, decide_eq_true rfl]; rfl, W9.a.s, W9.b.s, wfS1, wfS1, kp'.tab tb, fun _ => rfl, fun H21 kq => ⟨true, rfl, iteF ?_⟩⟩
          have W10 := W9.keep0 kq
          have kr := kp'.then kq.sub
          have etn21 := kq.t _ _ (ko.t _ _ etn19)
          have wfc := wfS1.count
          have frl : (S.rnds G.r deep many).free.length ≤ 6 := by have := okG.n6; omega
          -- how many slots move
          refine ⟨fun σ' H' => ∃ fr' : Nat, fr' = (if G.r.ll = true then 1 else (S.rnds G.r deep many).free.length) ∧ Kp (TT K) [] H21 H' ∧
              σ' = [some (.ref st), some (.int (1 + (d1 : Int))), some (.ref tn), some (.ref D), none, some (.ref q1.a.p), some (.ref q1.n.q), some (.ref q2.a.p), some (.ref q2.n.q), some (.int (deep : Int)), some (.int (many : Int)), some (.bl b), some (.bl true), some (.int (fr' : Int)), none, none, none], ?_, fun σ4 H22 z => ?_⟩
          · refine ⟨_, rfl, .inr (.inl ⟨tn, _, (3 : Nat), .str G.r.s, rfl, rfl, SqT.of etn21, at_nat rfl, sz (show 2 ≤ 1000 by decide), fun pq hpq => ?_⟩)⟩
            have kx : Kp (TT K) [] H21 (upd H21 pq (.tup [.str "first", .str "least"])) := Kp.new hpq fun _ z => by cases z
            have Wx := W10.keep0 kx
            refine ⟨pq, _, rfl, .inr (SqT.of upd_same), rfl, rfl, !G.r.ll, by rw [← Rl.fl_in]; rfl, ?_⟩
            cases hll : G.r.ll with
            | true => exact iteF ⟨1, (by rw [if_pos rfl]), kx, rfl⟩
            | false =>
              refine iteT ⟨_, rfl, r1.n.q, .ref r1.n.lf, by rw [e2], gn_f Wx.a.n.ob, r1.n.lf, _, rfl, .inl (SqL.of Wx.a.n.free), ?_⟩
              rw [fr_len]
              exact ⟨_, (by rw [if_neg Bool.false_ne_true]), kx, rfl⟩
          · obtain ⟨fr', efr, ks, rfl⟩ := z
            have W11 := W10.keep0 ks
            have kt := kr.then ks.sub
            have etn22 := ks.t _ _ etn21
            have fr0' : 0 < fr' ∧ fr' ≤ 6 := by
              rw [efr]
              split
              · exact ⟨by decide, by decide⟩
              · have h1 := o2.1.le
                have h2 := am.d0
                exact ⟨by omega, frl⟩
            have am2 : AmtOk G (S.rnds G.r deep many) 1 (G.g * fr') := by
              refine ⟨by decide, ⟨wfS1, ?_, ?_⟩, fun _ => rfl, ⟨G.g, okG.g1, by rw [efr]⟩, ?_⟩
              · have h1 := o2.1.le
                have h2 := am.d0
                omega
              · have h1 := o2.1.lim
                have h2 := am.d0
                omega
              · have h1 := Nat.mul_le_mul okG.g5 fr0'.2
                have h2 : 1000 ≤ mostT G.r := by unfold mostT; split <;> decide
                omega
            have TK2 := turn_ok am2 TK.lev
            have o3 := am2.rd.rnds (k := G.g * fr')
            have ne3 := TK2.ne am2
            refine ⟨_, rfl, _, rfl, _, rfl, .inr (.inl ⟨tn, _, (2 : Nat), .int G.g, rfl, rfl, SqT.of etn22, at_nat rfl, _, rfl, _, _, rfl, rfl, .inr ⟨by omega, by omega⟩, ?_⟩)⟩
            refine ⟨vp', G, _, r1, 1, G.g * fr', by rw [e1, e2, Int.natCast_mul]; rfl, W11.a, am2.rd, kt.tab tb, by have := Nat.mul_le_mul okG.g5 fr0'.2; omega, fun vp2 r3 H23 e5 e6 stp P' => ⟨true, rfl, iteF ?_⟩⟩
            have W12 := W11.step stp P'
            have stp12 := step_stp (st := st) (p2 := r2) stp
            have ku := kt.trans stp12.kp frn
            have fru := Fr.trans kt frn stp12.fr
            have wf3 := o3.1.wf
            refine ⟨_, rfl, _, rfl, vp2, G, _, _, r3.a, r2.a, by rw [e5, e1, e3, decide_eq_false ne3]; rfl, W12.a.s, W12.b.s, wf3, wfS1, ku.tab tb, fun z => absurd z ne3, fun H24 kv => ⟨true, rfl, iteF ?_⟩⟩
            have W13 := W12.keep0 kv
            have kw := ku.then kv.sub
            -- the live handles
            obtain ⟨ts, hv, hts⟩ := W13.a.n.live
            have lts := pr_len hts
            have llim : ((S.rnds G.r deep many).rnds G.r 1 (G.g * fr')).live.length ≤ 6 := by
              have := wf3.count
              have := okG.n6
              omega
            refine ⟨_, rfl, r3.n.q, .ref r3.n.lv, by rw [e6, e2], gn_l W13.a.n.ob, r3.n.lv, rfl, ⟨_, SqL.of hv⟩, fun E' hE => ?_⟩
            refine lcL (T := TT K) (fun i acc H' => ∃ hs, acc = hs.map V.ref ∧ Hds H' G ((S.rnds G.r deep many).rnds G.r 1 (G.g * fr')).cnt hs ((((S.rnds G.r deep many).rnds G.r 1 (G.g * fr')).live.map (·.1)).take i)) (fun H' k => SqL.kp hv k) (by rw [List.length_map]; omega) hE (fun _ _ _ _ r k => r.imp fun hs z => ⟨z.1, z.2.kp k⟩) ⟨[], rfl, .nil⟩ (fun i x acc H' N M hx k hd r n' m => ?_) fun H25 acc k25 hd25 hl25 rr => ?_
            · rw [List.getElem?_map] at hx
              cases hi : ts[i]? with
              | none => rw [hi] at hx; cases hx
              | some ti =>
                rw [hi] at hx
                cases hx
                obtain ⟨p, hp, hi', vi, x1, x2, x3⟩ := pr_at1 hts hi
                obtain ⟨hs, y1, y2⟩ := r
                refine ⟨ti, _, rfl, SqT.kp x1 k, rfl, _, _, rfl, _, _, rfl, rfl, rfl, it1 (B := M H') ⟨_, rfl, n' _ _ Kp.refl ⟨hs ++ [hi'], by rw [y1, List.map_append]; rfl, ?_⟩⟩⟩
                rw [List.take_succ, List.getElem?_map, hp]
                exact pr_app y2 (.cons (k.t _ _ x2) .nil)
            obtain ⟨hs, y1, y2⟩ := rr
            subst y1
            rw [List.length_map, lts, List.take_of_length_le (by rw [List.length_map]; exact Nat.le_refl _)] at y2
            have W14 := W13.keep0 k25
            have kx := kw.then k25.sub
            have nE : E' ∉ wfp st r3 r2 := fun z => nAl hE (W13.al E' z)
            have sl3 : ((S.rnds G.r deep many).rnds G.r 1 (G.g * fr')).live = (S.rnds G.r deep many).live := o3.2
            have lsd := wf3.live_nd
            refine ⟨E', rfl, ⟨_, SqL.of hd25⟩, ?_⟩
            refine for_list (xs := hs.map V.ref) (fun i σ' H' => ∃ vpz a1 a2, Wd (SC K) H' vpz G (((S.rnds G.r deep many).rnds G.r 1 (G.g * fr')).gives G.r ((((S.rnds G.r deep many).rnds G.r 1 (G.g * fr')).live.map (·.1)).take i)) ((S.rnds G.r deep many).gives G.r ((((S.rnds G.r deep many).rnds G.r 1 (G.g * fr')).live.map (·.1)).take i)) a1 a2 st ∧
                Wf G (((S.rnds G.r deep many).rnds G.r 1 (G.g * fr')).gives G.r ((((S.rnds G.r deep many).rnds G.r 1 (G.g * fr')).live.map (·.1)).take i)) ∧ Wf G ((S.rnds G.r deep many).gives G.r ((((S.rnds G.r deep many).rnds G.r 1 (G.g * fr')).live.map (·.1)).take i)) ∧
                (a1.a.p = q1.a.p ∧ a1.n.q = q1.n.q ∧ a2.a.p = q2.a.p ∧ a2.n.q = q2.n.q) ∧ Stp (TT K) H25 H' (wfp st r3 r2) (wfp st a1 a2) vp2 vpz ∧
                ∃ u14, σ' = [some (.ref st), some (.int (1 + (d1 : Int))), some (.ref tn), some (.ref D), none, some (.ref q1.a.p), some (.ref q1.n.q), some (.ref q2.a.p), some (.ref q2.n.q), some (.int (deep : Int)), some (.int (many : Int)), some (.bl b), some (.bl true), some (.int (fr' : Int)), u14, none, none])
              ⟨vp2, r3, r2, W14, wf3, wfS1, ⟨e5.trans e1, e6.trans e2, e3, e4⟩, Stp.refl, _, rfl⟩ (fun i σ' H' _ z => ?_) (fun i x σ5 H' hx z => ?_) fun σ5 H' z => ?_
            · obtain ⟨vpz, a1, a2, _, _, _, _, stz, _⟩ := z
              exact SqL.of (stz.kp.get hd25 nE rfl)
            · obtain ⟨vpz, a1, a2, Wz, wz1, wz2, ⟨x1, x2, x3, x4⟩, stz, u14, rfl⟩ := z
              rw [List.getElem?_map] at hx
              cases hi : hs[i]? with
              | none => rw [hi] at hx; cases hx
              | some hh =>
                rw [hi] at hx
                cases hx
                obtain ⟨sl, s1', s2'⟩ := pr_at1 y2 hi
                have hnt : sl ∉ (((S.rnds G.r deep many).rnds G.r 1 (G.g * fr')).live.map (·.1)).take i := by
                  intro z
                  obtain ⟨j, hj⟩ := List.getElem?_of_mem z
                  rw [List.getElem?_take] at hj
                  split at hj
                  · exact absurd (nd_ix lsd hj s1') (by omega)
                  · cases hj
                obtain ⟨pr, hpr, epr⟩ := List.mem_map.mp (List.mem_of_getElem? s1')
                have hm1 : (sl, pr.2) ∈ (((S.rnds G.r deep many).rnds G.r 1 (G.g * fr')).gives G.r ((((S.rnds G.r deep many).rnds G.r 1 (G.g * fr')).live.map (·.1)).take i)).live := by
                  rw [gives_live, List.mem_filter]
                  exact ⟨by rw [← epr]; exact hpr, decide_eq_true hnt⟩
                have hm2 : (sl, pr.2) ∈ ((S.rnds G.r deep many).gives G.r ((((S.rnds G.r deep many).rnds G.r 1 (G.g * fr')).live.map (·.1)).take i)).live := by
                  rw [gives_live, List.mem_filter]
                  exact ⟨by rw [← epr, ← sl3]; exact hpr, decide_eq_true hnt⟩
                have hc1 : cn (((S.rnds G.r deep many).rnds G.r 1 (G.g * fr')).gives G.r ((((S.rnds G.r deep many).rnds G.r 1 (G.g * fr')).live.map (·.1)).take i)).cnt sl = cn ((S.rnds G.r deep many).rnds G.r 1 (G.g * fr')).cnt sl := by rw [gives_cnt]
                have hc2 : cn ((S.rnds G.r deep many).gives G.r ((((S.rnds G.r deep many).rnds G.r 1 (G.g * fr')).live.map (·.1)).take i)).cnt sl = cn ((S.rnds G.r deep many).rnds G.r 1 (G.g * fr')).cnt sl := by
                  rw [gives_cnt]
                  exact (TK2.live am2 (by rw [← sl3, ← epr]; exact List.mem_map.mpr ⟨pr, hpr, rfl⟩)).symm
                have eg1 : ∀ {X : SM}, (X.gives G.r ((((S.rnds G.r deep many).rnds G.r 1 (G.g * fr')).live.map (·.1)).take i)).give G.r sl = X.gives G.r ((((S.rnds G.r deep many).rnds G.r 1 (G.g * fr')).live.map (·.1)).take (i + 1)) := by
                  intro X
                  rw [List.take_succ, s1', gives_app]
                  rfl
                have eh0 := stz.kp.t _ _ s2'
                have frz : Fr H [st] (wfp st a1 a2) := Fr.trans kx fru stz.fr
                have kz := kx.trans stz.kp fru
                -- the first map
                refine ⟨_, rfl, Wz.a.s.mdE x1 rfl ⟨_, rfl, vpz, G, _, a1.a, hh, sl, pr.2, by rw [x1]; rfl, Wz.a.s, wz1, hm1, by rw [hc1]; exact eh0, fun v1 a' H5 ea k5 f5 hv5 s5 => ?_⟩⟩
                refine ⟨_, rfl, _, rfl, vpz, G, _, a1.n, hh, sl, pr.2, by rw [x2]; rfl, Wz.a.taken1 k5, wz1, k5.tab (kz.tab tb), hm1, k5.t _ _ (by rw [hc1]; exact eh0), fun v2 n' H6 en _ k6 f6 hv6 n6 => ?_⟩
                have hv5' := hv5.keep k6 Wz.a.n.dj
                refine ⟨pr.2, pr.2, hv5'.dp, hv6.dp, hv5.shaped, hv5.shaped, false, by rw [eqv_sh hv5.shaped]; rfl, iteF ?_⟩
                have stA := PairAt.given3 (p := a1) (vp := vpz) k5 f5 k6 f6
                have WA := Wz.step stA (Wz.a.given2 k5 f5 s5 k6 f6 n6)
                have stA' := step_stp (st := st) (p2 := a2) stA
                have eh1 := stA.kp.t _ _ eh0
                have kA := kz.trans stA'.kp frz
                have frA := Fr.trans kz frz stA'.fr
                -- the other map
                refine ⟨_, rfl, WA.b.s.mdE x3 rfl ⟨_, rfl, vpz, G, _, a2.a, hh, sl, pr.2, by rw [x3]; rfl, WA.b.s, wz2, hm2, by rw [hc2]; exact eh1, fun v3 b' H7 eb k7 f7 hv7 s7' => ?_⟩⟩
                refine ⟨_, rfl, _, rfl, vpz, G, _, a2.n, hh, sl, pr.2, by rw [x4]; rfl, WA.b.taken1 k7, wz2, k7.tab (kA.tab tb), hm2, k7.t _ _ (by rw [hc2]; exact eh1), fun v4 m' H8 em _ k8 f8 hv8 n8 => ?_⟩
                have hv7' := hv7.keep k8 WA.b.n.dj
                refine ⟨pr.2, pr.2, hv7'.dp, hv8.dp, hv7.shaped, hv7.shaped, false, by rw [eqv_sh hv7.shaped]; rfl, iteF ?_⟩
                have stB := PairAt.given3 (p := a2) (vp := vpz) k7 f7 k8 f8
                have WB := (WA.swap.step stB (WA.b.given2 k7 f7 s7' k8 f8 n8)).swap
                have stB' := Stp.swap (step_stp (st := st) (p2 := ⟨a', n'⟩) stB)
                rw [eg1, eg1] at WB
                have w1' : Wf G (((S.rnds G.r deep many).rnds G.r 1 (G.g * fr')).gives G.r ((((S.rnds G.r deep many).rnds G.r 1 (G.g * fr')).live.map (·.1)).take (i + 1))) := by rw [← eg1]; exact wz1.give hm1
                have w2' : Wf G ((S.rnds G.r deep many).gives G.r ((((S.rnds G.r deep many).rnds G.r 1 (G.g * fr')).live.map (·.1)).take (i + 1))) := by rw [← eg1]; exact wz2.give hm2
                have kB := kA.trans stB'.kp frA
                have neB : (((S.rnds G.r deep many).rnds G.r 1 (G.g * fr')).gives G.r ((((S.rnds G.r deep many).rnds G.r 1 (G.g * fr')).live.map (·.1)).take (i + 1))).cnt ≠ ((S.rnds G.r deep many).gives G.r ((((S.rnds G.r deep many).rnds G.r 1 (G.g * fr')).live.map (·.1)).take (i + 1))).cnt := by
                  rw [gives_cnt, gives_cnt]
                  exact ne3
                -- still unequal
                refine ⟨_, rfl, _, rfl, vpz, G, _, _, a', b', by rw [decide_eq_false neB, show a'.p = q1.a.p from ea.trans x1, show b'.p = q2.a.p from eb.trans x3]; rfl, WB.a.s, WB.b.s, w1', w2', kB.tab tb, fun z => absurd z neB, fun H9' k9' => ⟨true, rfl, iteF ?_⟩⟩
                exact ⟨vpz, ⟨a', n'⟩, ⟨b', m'⟩, WB.keep0 k9', w1', w2', ⟨ea.trans x1, en.trans x2, eb.trans x3, em.trans x4⟩, ((stz.trans stA').trans stB').trans (Stp.of0 k9'), _, rfl⟩
            · obtain ⟨vpz, a1, a2, Wz, wz1, wz2, ⟨x1, x2, x3, x4⟩, stz, u14, rfl⟩ := z
              have kz := kx.trans stz.kp fru
              refine ⟨_, rfl, _, rfl, vpz, G, _, a1.a, a1.n, by rw [x1, x2]; rfl, Wz.a.s, Wz.a.n, wz1, kz.tab tb, fun H26 k26 => ⟨true, rfl, iteT ?_⟩⟩
              have Wy := Wz.keep0 k26
              have ky := kz.then k26.sub
              refine ⟨_, rfl, _, rfl, vpz, G, _, a2.a, a2.n, by rw [x3, x4]; rfl, Wy.b.s, Wy.b.n, wz2, ky.tab tb, fun H27 k27 => ?_⟩
              exact q H27 (ky.then k27.sub) (Wy.keep0 k27).sd
end
end Sw
namespace Sw
open PySem PySem.Spec PyProof.Rows L2 LamX
/-! two maps alone -/
structure Tw (C : Addr) (H : Hp) (A : Ag) (S1 S2 : SM) (a b : SA) : Prop where
  sa : SlotsAt C H [] A S1 a
  sb : SlotsAt C H [] A S2 b
  dj : Dj a.fp b.fp
section
variable {T : List (Addr × Str)} {C : Addr} {H H' : Hp} {A : Ag} {S1 S2 S' : SM} {a b c : SA}
theorem Tw.keep0 (t : Tw C H A S1 S2 a b) (k : Kp T [] H H') : Tw C H' A S1 S2 a b := ⟨t.sa.keep k Dj.nil Dj.nil, t.sb.keep k Dj.nil Dj.nil, t.dj⟩
theorem Tw.right (t : Tw C H A S1 S2 a b) (k : Kp T b.fp H H') (f : Fr H b.fp c.fp) (s : SlotsAt C H' [] A S' c) : Tw C H' A S1 S' a c :=
  ⟨t.sa.keep k t.dj.symm (fun _ _ z => by cases z), s, (Dj.fresh t.dj.symm f t.sa.al).symm⟩
theorem Tw.left (t : Tw C H A S1 S2 a b) (k : Kp T a.fp H H') (f : Fr H a.fp c.fp) (s : SlotsAt C H' [] A S' c) : Tw C H' A S' S2 c b :=
  ⟨s, t.sb.keep k t.dj (fun _ _ z => by cases z), Dj.fresh t.dj f t.sb.al⟩
end
def A1 : Ag := ⟨2, 2, 2, .least⟩
def A2 : Ag := ⟨2, 1, 2, .lowest⟩
theorem ok_A1 : A1.Ok := ⟨by decide, by decide, by decide, by decide, by decide⟩
theorem ok_A2 : A2.Ok := ⟨by decide, by decide, by decide, by decide, by decide⟩
def dx0 : PyData := .str "x"
def dy0 : PyData := .str "y"
def KS (i : Nat) : SM := ⟨[1, (i : Int)], [1], [(0, dx0)]⟩
def KT (i : Nat) : SM := ⟨[(i : Int), 0], [0, 1], []⟩
def KD : PyData := .list [dx0, dx0, Lp [1, 0], Lp [0, 1]]
theorem sh_x : SeqAt.shaped dx0 = true := by decide +kernel
theorem sh_y : SeqAt.shaped dy0 = true := by decide +kernel
theorem sh_KD : SeqAt.shaped KD = true := by
  unfold SeqAt.shaped KD
  have h1 : dx0.canLay0 = true := by decide +kernel
  have h2 : dx0.depth = 0 := by unfold dx0; simp [PyData.depth]
  simp [PyData.canLay0, PyData.canLayAll0, PyData.depth, PyData.depthAll, cl_Lp, de_Lp, h1, h2]
theorem wf_S1 : Wf A1 (KS 0) := (Wf.new ok_A1).take (d := dx0) (s := 0) (f := [1]) rfl (by decide)
theorem ks_take {i : Nat} (h : i < 2) : (KS i).take dy0 = ⟨[1, (i : Int) + 1], [], [(0, dx0), (1, dy0)]⟩ := by
  match i, h with
  | 0, _ => rfl
  | 1, _ => rfl
theorem ks_give {i : Nat} (h : i < 2) : ((KS i).take dy0).give .least 1 = KS (i + 1) := by
  match i, h with
  | 0, _ => rfl
  | 1, _ => rfl
theorem wf_KS : ∀ {i : Nat}, i ≤ 2 → Wf A1 (KS i)
  | 0, _ => wf_S1
  | i + 1, h => by
    have w := wf_KS (i := i) (by omega)
    have w2 : Wf A1 ((KS i).take dy0) := w.take (s := 1) (f := []) rfl (by show 1 < 2; decide)
    have w3 := w2.give (s := 1) (d := dy0) (by rw [ks_take (by omega)]; exact List.mem_cons_of_mem _ List.mem_cons_self)
    have e : ((KS i).take dy0).give A1.r 1 = KS (i + 1) := ks_give (by omega)
    rw [e] at w3
    exact w3
theorem kt_take {i : Nat} (h : i < 2) {d : PyData} : (KT i).take d = ⟨[(i : Int) + 1, 0], [1], [(0, d)]⟩ := by
  match i, h with
  | 0, _ => rfl
  | 1, _ => rfl
theorem kt_give {i : Nat} (h : i < 2) {d : PyData} : ((KT i).take d).give .lowest 0 = KT (i + 1) := by
  match i, h with
  | 0, _ => rfl
  | 1, _ => rfl
theorem wf_KT : ∀ {i : Nat}, i ≤ 2 → Wf A2 (KT i)
  | 0, _ => Wf.new ok_A2
  | i + 1, h => by
    have w := wf_KT (i := i) (by omega)
    have w2 : Wf A2 ((KT i).take dy0) := w.take (s := 0) (f := [1]) rfl (by show 0 < 1; decide)
    have w3 := w2.give (s := 0) (d := dy0) (by rw [kt_take (by omega)]; exact List.mem_cons_self)
    have e : ((KT i).take dy0).give A2.r 0 = KT (i + 1) := kt_give (by omega)
    rw [e] at w3
    exact w3
section
variable {P : Program} {w : World} {K : PySem.W.Frag} {mg : Str → Option Value} {base : Heap}
def spKno (T : List (Addr × Str)) : Sp := fun vs H Q _ => vs = [] ∧ Tabs T H ∧ ∀ H', Kp T [] H H' → Q (.bl true) H'
abbrev NKn : List Str := ["_law_one_here", "_law_other", "_law_turn", "_law_told"]
theorem sc_kno : FnScope NKn [] d_L_known_right.scope := ⟨rfl, rfl, rfl, by decide +kernel, rfl, by decide +kernel, by decide +kernel⟩
theorem ok_kno (t : Tx K mg base) : Cl P w K mg base 8 "_law_known_right" (spKno (TT K)) := by
  obtain ⟨fd, F⟩ := t.e_L_known_right
  refine mkCl (N := NKn) (ps := []) F t.g_L_known_right (fun _ _ _ _ _ _ us hl => match us, hl with | [], _ => rfl) sc_kno (fun vs H Q E h => ?_) (fun cdv A outer s H vs Q E hr h => ?_)
  · obtain ⟨rfl, _⟩ := h
    rfl
  · obtain ⟨rfl, tb, q⟩ := h
    have nd : NKn.Nodup := by decide +kernel
    refine ⟨_, pss_cons (ps_par (i := 0) (j := 1) (by rfl) nd rfl rfl (by decide) rfl rfl (pa_cons (pe_mk (C := SC K) (ok_init t) hr (by decide) rfl (pa_cons pe_int (pa_cons pe_int (pa_cons pe_int (pa_cons pe_str pa_nil))))) (pa_cons (pe_mk (C := SC K) (ok_init t) hr (by decide) rfl (pa_cons pe_int (pa_cons pe_int (pa_cons pe_int (pa_cons pe_str pa_nil))))) pa_nil)) (by rfl))
      (pss_cons (ps_expr (pe_mt (ok_take t) hr (by decide) (pv 0) (pa_cons pe_str pa_nil)))
      (pss_cons (ps_expr (pe_mt (ok_take t) hr (by decide) (pv 1) (pa_cons pe_str pa_nil)))
      (pss_cons (ps_for PassesOwn.never rfl (pi_range1 rfl t.b_range (pa_cons pe_int pa_nil)) (pg_name (i := 2) nd rfl (Or.inl rfl)) (pss_one (ps_expr (pe_mt (ok_give t) hr (by decide) (pv 1) (pa_cons (pe_mt (ok_take t) hr (by decide) (pv 1) (pa_cons pe_str pa_nil)) pa_nil)))))
      (pss_cons (ps_if (PW.pt (pw_or (pt_cmpR (op_neD hr.units) (pe_mt0 (ok_counts t) hr (by decide) (pv 0)) (pe_lst (pa_cons pe_int (pa_cons pe_int pa_nil))) rfl) (pw_or1 (pt_cmpR (op_neD hr.units) (pe_mt0 (ok_counts t) hr (by decide) (pv 1)) (pe_lst (pa_cons pe_int (pa_cons pe_int pa_nil))) rfl)))) (pss_one ps_never) pss_nil)
      (pss_cons (ps_if (PW.pt (pw_or (pt_cmpR (op_neD hr.units) (pe_mt0 (ok_free t) hr (by decide) (pv 0)) (pe_mt0 (ok_free t) hr (by decide) (pv 1)) rfl) (pw_or1 (pt_cmpR (op_neD hr.units) (pe_mt0 (ok_live t) hr (by decide) (pv 0)) (pe_mt0 (ok_live t) hr (by decide) (pv 1)) rfl)))) (pss_one ps_never) pss_nil)
      (pss_cons (ps_if (pt_not (pt_val (pe_c (ok_are t) hr (by decide) rfl (pa_cons (pv 0) (pa_cons (pv 1) (pa_cons pe_bl pa_nil)))))) (pss_one ps_never) pss_nil)
      (pss_cons (ps_set (i := 3) nd rfl (Or.inl rfl) (pe_lst (pa_cons (pe_mt (ok_give t) hr (by decide) (pv 0) (pa_cons (pe_tup (pa_cons pe_int (pa_cons pe_int pa_nil))) pa_nil)) (pa_cons (pe_mt (ok_give t) hr (by decide) (pv 1) (pa_cons (pe_tup (pa_cons pe_int (pa_cons pe_int pa_nil))) pa_nil)) (pa_cons (pe_mt0 (ok_free t) hr (by decide) (pv 0)) (pa_cons (pe_mt0 (ok_free t) hr (by decide) (pv 1)) pa_nil))))) rfl)
      (pss_cons (ps_if (PW.pt (pw_or (pt_cmpR (op_neD hr.units) (pv 3) (pe_lst (pa_cons pe_str (pa_cons pe_str (pa_cons (pe_lst (pa_cons pe_int (pa_cons pe_int pa_nil))) (pa_cons (pe_lst (pa_cons pe_int (pa_cons pe_int pa_nil))) pa_nil))))) rfl) (pw_or1 (pt_not (pt_val (pe_c (ok_are t) hr (by decide) rfl (pa_cons (pv 0) (pa_cons (pv 1) (pa_cons pe_bl pa_nil))))))))) (pss_one ps_never) pss_nil)
      (pss_cons (ps_par (i := 0) (j := 1) (by rfl) nd rfl rfl (by decide) rfl rfl (pa_cons (pe_mk (C := SC K) (ok_init t) hr (by decide) rfl (pa_cons pe_int (pa_cons pe_int (pa_cons pe_int (pa_cons pe_str pa_nil))))) (pa_cons (pe_mk (C := SC K) (ok_init t) hr (by decide) rfl (pa_cons pe_int (pa_cons pe_int (pa_cons pe_int (pa_cons pe_str pa_nil))))) pa_nil)) (by rfl))
      (pss_cons (ps_for PassesOwn.never rfl (pi_range1 rfl t.b_range (pa_cons pe_int pa_nil)) (pg_name (i := 2) nd rfl (Or.inl rfl)) (pss_one (ps_expr (pe_mt (ok_give t) hr (by decide) (pv 1) (pa_cons (pe_mt (ok_take t) hr (by decide) (pv 1) (pa_cons (pv 2) pa_nil)) pa_nil)))))
      (pss_one (ps_ret (pe_and (pe_cmpR (op_eqD hr.units) (pe_mt0 (ok_free t) hr (by decide) (pv 0)) (pe_mt0 (ok_free t) hr (by decide) (pv 1)) rfl) (pe_and (pe_cmpR (op_eqD hr.units) (pe_mt0 (ok_counts t) hr (by decide) (pv 1)) (pe_lst (pa_cons pe_int (pa_cons pe_int pa_nil))) rfl) (pe_one (pe_c (ok_are t) hr (by decide) rfl (pa_cons (pv 0) (pa_cons (pv 1) (pa_cons pe_bl pa_nil))))))))))))))))))), ?_⟩
    have mk : ∀ {A : Ag} {Ha H5 : Hp} {x dx : Addr} {a0 : SA}, Ha x = none → Ha dx = none → dx ≠ x → Kp (TT K) [x] (upd (upd Ha dx (.own x)) x (.ins (SC K) dx [])) H5 → Fr (upd (upd Ha dx (.own x)) x (.ins (SC K) dx [])) [x] a0.fp →
        Kp (TT K) [] Ha H5 ∧ Fr Ha [] a0.fp := by
      intro A Ha H5 x dx a0 hx hdx nxd k0 f0
      have kn : Kp (TT K) [] Ha (upd (upd Ha dx (.own x)) x (.ins (SC K) dx [])) := (Kp.new hdx fun _ z => by cases z).then (Kp.new (by rw [upd_ne nxd.symm]; exact hx) fun _ z => by cases z)
      exact ⟨kn.trans k0 fun b hb => .inr (by rw [List.mem_singleton.mp hb]; exact nAl hx), fun b hb => (f0 b hb).elim (fun z => .inr (by rw [List.mem_singleton.mp z]; exact nAl hx)) fun z => .inr (kn.back z)⟩
    -- two maps
    refine fun x dx hx hdx nxd => ⟨A1, x, dx, ok_A1, rfl, upd_same, fun a H1 ea s1 k1 f1 => ⟨rfl, ?_⟩⟩
    obtain ⟨ka, fa⟩ := mk (A := A1) hx hdx nxd k1 f1
    refine fun y dy hy hdy nyd => ⟨A1, y, dy, ok_A1, rfl, upd_same, fun b H2 eb s2 k2 f2 => ⟨rfl, ?_⟩⟩
    obtain ⟨kb, fb⟩ := mk (A := A1) hy hdy nyd k2 f2
    have T2 : Tw (SC K) H2 A1 (SM.new 2) (SM.new 2) a b := ⟨s1.keep kb Dj.nil Dj.nil, s2, fun c hc hv => (fb c hv).elim (fun z => by cases z) fun z => z (s1.al c hc)⟩
    have g2 := ka.then kb
    have fb2 : Fr H [] b.fp := fun c hc => (fb c hc).imp id ka.back
    refine ⟨_, _, rfl, ?_⟩
    -- take "x" in both
    refine ⟨_, rfl, T2.sa.mdE ea rfl ⟨[], A1, SM.new 2, a, .str "x", dx0, 0, [1], by rw [ea]; rfl, T2.sa, Wf.new ok_A1, g2.tab tb, rfl, by decide, .str _ sh_x, fun h3 H3 k3 e3 s3 => ?_⟩⟩
    have T3 : Tw (SC K) H3 A1 (KS 0) (SM.new 2) a b := T2.left k3 Fr.refl s3
    have g3 := g2.trans k3 fa
    refine ⟨_, rfl, T3.sb.mdE eb rfl ⟨[], A1, SM.new 2, b, .str "x", dx0, 0, [1], by rw [eb]; rfl, T3.sb, Wf.new ok_A1, g3.tab tb, rfl, by decide, .str _ sh_x, fun h4 H4 k4 e4 s4 => ?_⟩⟩
    have T4 : Tw (SC K) H4 A1 (KS 0) (KS 0) a b := T3.right k4 Fr.refl s4
    have g4 := g3.trans k4 fb2
    -- "y" twice
    refine ⟨2, rfl, by decide, by decide, ?_⟩
    refine for_range (n := 2) (fun i σ' H' => ∃ c, Tw (SC K) H' A1 (KS 0) (KS i) a c ∧ c.p = b.p ∧ Kp (TT K) [] H H' ∧ Fr H [] c.fp ∧ ∃ u, σ' = [some (.ref x), some (.ref y), u, none]) ⟨b, T4, rfl, g4, fb2, _, rfl⟩ (fun i σ1 H' hi z => ?_) fun σ1 H5 z => ?_
    · obtain ⟨c, Tc, ec, kc, fc, u, rfl⟩ := z
      refine ⟨_, rfl, Tc.sb.mdE (ec.trans eb) rfl ⟨_, rfl, Tc.sb.mdE (ec.trans eb) rfl ⟨[], A1, KS i, c, .str "y", dy0, 1, [], by rw [ec, eb]; rfl, Tc.sb, wf_KS (by omega), kc.tab tb, rfl, by show 1 < 2; decide, .str _ sh_y, fun h H6 k6 e6 s6 => ?_⟩⟩⟩
      have w6 : Wf A1 ((KS i).take dy0) := (wf_KS (i := i) (by omega)).take (s := 1) (f := []) rfl (by show 1 < 2; decide)
      have T6 := Tc.right k6 Fr.refl s6
      have k06 := kc.trans k6 fc
      have m6 : (1, dy0) ∈ ((KS i).take dy0).live := by rw [ks_take hi]; exact List.mem_cons_of_mem _ List.mem_cons_self
      have c6 : cn ((KS i).take dy0).cnt 1 = cn (KS i).cnt 1 + 1 := by rw [ks_take hi]; rfl
      refine ⟨[], A1, (KS i).take dy0, c, h, 1, dy0, by rw [ec, eb]; rfl, T6.sb, w6, m6, by rw [c6]; exact e6, fun v c' H7 e7 k7 f7 _ s7 => ?_⟩
      rw [show ((KS i).take dy0).give A1.r 1 = KS (i + 1) from ks_give hi] at s7
      exact ⟨c', T6.right k7 f7 s7, e7.trans ec, k06.trans k7 fc, Fr.trans k06 fc f7, _, rfl⟩
    · obtain ⟨c, Tc, ec, kc, fc, u, rfl⟩ := z
      have ecy : c.p = y := ec.trans eb
      have w0 := wf_S1
      have w2 : Wf A1 (KS 2) := wf_KS (by decide)
      -- counts
      refine ⟨_, rfl, Tc.sa.mdE ea rfl ⟨[], A1, KS 0, a, by rw [ea]; rfl, Tc.sa, fun p6 H6 k6 _ e6 => ?_⟩⟩
      refine ⟨sz (show 2 ≤ 1000 by decide), fun q6 hq6 => ?_⟩
      have kq6 : Kp (TT K) [] H6 (upd H6 q6 (.lst [.int 1, .int 0])) := Kp.new hq6 fun _ z => by cases z
      refine ⟨Lp [1, 0], Lp [1, 0], dp_Lp (kq6.get e6 (fun z => by cases z) rfl), dp_Lp (ns := [1, 0]) upd_same, sh_Lp, sh_Lp, false, by rw [eqv_Lp]; rfl, iteF ?_⟩
      have k06 := kc.then (k6.then kq6)
      have T6 := Tc.keep0 (k6.then kq6)
      refine ⟨_, rfl, T6.sb.mdE ecy rfl ⟨[], A1, KS 2, c, by rw [ecy]; rfl, T6.sb, fun p7 H7 k7 _ e7 => ?_⟩⟩
      refine ⟨sz (show 2 ≤ 1000 by decide), fun q7 hq7 => ?_⟩
      have kq7 : Kp (TT K) [] H7 (upd H7 q7 (.lst [.int 1, .int 2])) := Kp.new hq7 fun _ z => by cases z
      refine ⟨Lp [1, 2], Lp [1, 2], dp_Lp (ns := [1, 2]) (kq7.get e7 (fun z => by cases z) rfl), dp_Lp (ns := [1, 2]) upd_same, sh_Lp, sh_Lp, false, by rw [eqv_Lp]; rfl, iteF ?_⟩
      have k07 := k06.then (k7.then kq7)
      have T7 := T6.keep0 (k7.then kq7)
      -- free, live
      refine ⟨_, rfl, T7.sa.mdE ea rfl ⟨[], A1, KS 0, a, by rw [ea]; rfl, T7.sa, w0, k07.tab tb, fun p8 H8 k8 _ e8 => ?_⟩⟩
      have T8 := T7.keep0 k8
      have k08 := k07.then k8
      refine ⟨_, rfl, T8.sb.mdE ecy rfl ⟨[], A1, KS 2, c, by rw [ecy]; rfl, T8.sb, w2, k08.tab tb, fun p9 H9 k9 _ e9 => ?_⟩⟩
      have T9 := T8.keep0 k9
      have k09 := k08.then k9
      refine ⟨Lp (nI [1]), Lp (nI [1]), dp_Lf (l := [1]) (k9.get e8 (fun z => by cases z) rfl), dp_Lf (l := [1]) e9, sh_Lp, sh_Lp, false, by rw [eqv_Lp]; rfl, iteF ?_⟩
      refine ⟨_, rfl, T9.sa.mdE ea rfl ⟨[], A1, KS 0, a, by rw [ea]; rfl, T9.sa, w0, fun p10 hs10 H10 k10 _ e10 h10 => ?_⟩⟩
      have T10 := T9.keep0 k10
      have k010 := k09.then k10
      refine ⟨_, rfl, T10.sb.mdE ecy rfl ⟨[], A1, KS 2, c, by rw [ecy]; rfl, T10.sb, w2, fun p11 hs11 H11 k11 _ e11 h11 => ?_⟩⟩
      have T11 := T10.keep0 k11
      have k011 := k010.then k11
      have d10 : Dp K H11 (.ref p10) (.list (HD A1 (KS 0).cnt ((KS 0).live.map (·.1)))) := .lst (SqL.kp e10 k11) (dp_HD (h10.kp k11))
      have d11 : Dp K H11 (.ref p11) (.list (HD A1 (KS 2).cnt ((KS 2).live.map (·.1)))) := .lst (SqL.of e11) (dp_HD h11)
      have ehd : HD A1 (KS 2).cnt ((KS 2).live.map (·.1)) = HD A1 (KS 0).cnt ((KS 0).live.map (·.1)) := rfl
      rw [ehd] at d11
      refine ⟨_, _, d10, d11, sh_HD, sh_HD, false, by rw [eqv_sh sh_HD]; rfl, iteF ?_⟩
      -- unequal
      have ne1 : (KS 0).cnt ≠ (KS 2).cnt := by decide
      refine ⟨_, rfl, _, rfl, [], A1, KS 0, KS 2, a, c, by rw [ea, ecy, decide_eq_false ne1]; rfl, T11.sa, T11.sb, w0, w2, k011.tab tb, fun z => absurd z ne1, fun H12 k12 => ⟨true, rfl, iteF ?_⟩⟩
      have T12 := T11.keep0 k12
      have k012 := k011.then k12
      -- the last live object goes
      have eh1 : hdV A1 0 (cn (KS 0).cnt 0) = [V.int 0, .int 0] := rfl
      have eh2 : hdV A1 0 (cn (KS 2).cnt 0) = [V.int 0, .int 0] := rfl
      refine ⟨_, rfl, T12.sa.mdE ea rfl ⟨sz (show 2 ≤ 1000 by decide), fun th hth => ?_⟩⟩
      have kt1 : Kp (TT K) [] H12 (upd H12 th (.tup [.int 0, .int 0])) := Kp.new hth fun _ z => by cases z
      have T13 := T12.keep0 kt1
      have k013 := k012.then kt1
      refine ⟨[], A1, KS 0, a, th, 0, dx0, by rw [ea]; rfl, T13.sa, w0, List.mem_cons_self, by rw [eh1]; exact upd_same, fun v1 a' H14 e14 k14 f14 hv1 s14 => ?_⟩
      have T14 := T13.left k14 f14 s14
      have fa14 : Fr H [] a'.fp := Fr.trans k013 fa f14
      have k014 := k013.trans k14 fa
      refine ⟨_, rfl, T14.sb.mdE ecy rfl ⟨sz (show 2 ≤ 1000 by decide), fun th2 hth2 => ?_⟩⟩
      have kt2 : Kp (TT K) [] H14 (upd H14 th2 (.tup [.int 0, .int 0])) := Kp.new hth2 fun _ z => by cases z
      have T15 := T14.keep0 kt2
      have k015 := k014.then kt2
      refine ⟨[], A1, KS 2, c, th2, 0, dx0, by rw [ecy]; rfl, T15.sb, w2, List.mem_cons_self, by rw [eh2]; exact upd_same, fun v2 c' H16 e16 k16 f16 hv2 s16 => ?_⟩
      have T16 := T15.right k16 f16 s16
      have k016 := k015.trans k16 fc
      have wu1 : Wf A1 ((KS 0).give A1.r 0) := w0.give (d := dx0) List.mem_cons_self
      have wu2 : Wf A1 ((KS 2).give A1.r 0) := w2.give (d := dx0) List.mem_cons_self
      have ea' : a'.p = x := e14.trans ea
      have ec' : c'.p = y := e16.trans ecy
      refine ⟨_, rfl, T16.sa.mdE ea' rfl ⟨[], A1, _, a', by rw [ea']; rfl, T16.sa, wu1, k016.tab tb, fun pf1 H17 k17 _ e17 => ?_⟩⟩
      have T17 := T16.keep0 k17
      have k017 := k016.then k17
      refine ⟨_, rfl, T17.sb.mdE ec' rfl ⟨[], A1, _, c', by rw [ec']; rfl, T17.sb, wu2, k017.tab tb, fun pf2 H18 k18 _ e18 => ?_⟩⟩
      have T18 := T17.keep0 k18
      have k018 := k017.then k18
      have fr1 : ((KS 0).give A1.r 0).free = [1, 0] := rfl
      have fr2 : ((KS 2).give A1.r 0).free = [0, 1] := rfl
      rw [fr1] at e17
      rw [fr2] at e18
      refine ⟨sz (show 4 ≤ 1000 by decide), fun pt hpt => ?_⟩
      have kpt : Kp (TT K) [] H18 (upd H18 pt (.lst [v1, v2, .ref pf1, .ref pf2])) := Kp.new hpt fun _ z => by cases z
      -- told
      refine ⟨_, rfl, sz (show 2 ≤ 1000 by decide), fun l1 hl1 => ⟨sz (show 2 ≤ 1000 by decide), fun l2 hl2 => ⟨sz (show 4 ≤ 1000 by decide), fun l3 hl3 => ?_⟩⟩⟩
      have kl1 : Kp (TT K) [] _ (upd (upd H18 pt (.lst [v1, v2, .ref pf1, .ref pf2])) l1 (.lst [.int 1, .int 0])) := Kp.new hl1 fun _ z => by cases z
      have kl2 : Kp (TT K) [] _ (upd (upd (upd H18 pt (.lst [v1, v2, .ref pf1, .ref pf2])) l1 (.lst [.int 1, .int 0])) l2 (.lst [.int 0, .int 1])) := Kp.new hl2 fun _ z => by cases z
      have kl3 : Kp (TT K) [] _ (upd (upd (upd (upd H18 pt (.lst [v1, v2, .ref pf1, .ref pf2])) l1 (.lst [.int 1, .int 0])) l2 (.lst [.int 0, .int 1])) l3 (.lst [.str "x", .str "x", .ref l1, .ref l2])) := Kp.new hl3 fun _ z => by cases z
      have kl := kl1.then (kl2.then kl3)
      have ept := kl.get (upd_same (H := H18) (a := pt)) (fun z => by cases z) rfl
      have el1 := (kl2.then kl3).get (upd_same (H := upd H18 pt (.lst [v1, v2, .ref pf1, .ref pf2])) (a := l1)) (fun z => by cases z) rfl
      have el2 := kl3.get (upd_same (H := upd (upd H18 pt (.lst [v1, v2, .ref pf1, .ref pf2])) l1 (.lst [.int 1, .int 0])) (a := l2)) (fun z => by cases z) rfl
      have kall := kpt.then kl
      have djn : ∀ {l : List Addr}, Dj l [] := fun _ _ z => by cases z
      have hv1' := ((((((hv1.keep kt2 djn).keep k16 djn).keep k17 djn).keep k18 djn).keep kall djn))
      have hv2' := (((hv2.keep k17 djn).keep k18 djn).keep kall djn)
      have dA : Dp K (upd (upd (upd (upd H18 pt (.lst [v1, v2, .ref pf1, .ref pf2])) l1 (.lst [.int 1, .int 0])) l2 (.lst [.int 0, .int 1])) l3 (.lst [.str "x", .str "x", .ref l1, .ref l2])) (.ref pt) KD :=
        .lst (SqL.of ept) (.cons hv1'.dp (.cons hv2'.dp (.cons (dp_Lp (ns := [1, 0]) (kall.get (k18.get e17 (fun z => by cases z) rfl) (fun z => by cases z) rfl)) (.cons (dp_Lp (ns := [0, 1]) (kall.get e18 (fun z => by cases z) rfl)) .nil))))
      have dB : Dp K (upd (upd (upd (upd H18 pt (.lst [v1, v2, .ref pf1, .ref pf2])) l1 (.lst [.int 1, .int 0])) l2 (.lst [.int 0, .int 1])) l3 (.lst [.str "x", .str "x", .ref l1, .ref l2])) (.ref l3) KD :=
        .lst (SqL.of upd_same) (.cons (.str _) (.cons (.str _) (.cons (dp_Lp (ns := [1, 0]) el1) (.cons (dp_Lp (ns := [0, 1]) el2) .nil))))
      refine ⟨KD, KD, dA, dB, sh_KD, sh_KD, false, by rw [eqv_sh sh_KD]; rfl, iteF ?_⟩
      have T19 := T18.keep0 kall
      have k019 := k018.then kall
      have ne2 : ((KS 0).give A1.r 0).cnt ≠ ((KS 2).give A1.r 0).cnt := by decide
      refine ⟨_, rfl, _, rfl, [], A1, _, _, a', c', by rw [ea', ec', decide_eq_false ne2]; rfl, T19.sa, T19.sb, wu1, wu2, k019.tab tb, fun z => absurd z ne2, fun H20 k20 => ⟨true, rfl, iteF ?_⟩⟩
      have k020 := k019.then k20
      clear T19 dA dB hv1' hv2' T18 T17 T16 T15 T14 T13 T12 T11 T10 T9 T8 T7 T6
      -- two more maps
      refine fun x2 dx2 hx2 hdx2 nxd2 => ⟨A2, x2, dx2, ok_A2, rfl, upd_same, fun a2 H21 ea2 s21 k21 f21 => ⟨rfl, ?_⟩⟩
      obtain ⟨ka2, fa2⟩ := mk (A := A2) hx2 hdx2 nxd2 k21 f21
      refine fun y2 dy2 hy2 hdy2 nyd2 => ⟨A2, y2, dy2, ok_A2, rfl, upd_same, fun b2 H22 eb2 s22 k22 f22 => ⟨rfl, ?_⟩⟩
      obtain ⟨kb2, fb2'⟩ := mk (A := A2) hy2 hdy2 nyd2 k22 f22
      have T22 : Tw (SC K) H22 A2 (KT 0) (KT 0) a2 b2 := ⟨s21.keep kb2 Dj.nil Dj.nil, s22, fun c hc hv => (fb2' c hv).elim (fun z => by cases z) fun z => z (s21.al c hc)⟩
      have k022 := k020.then (ka2.then kb2)
      have fb22 : Fr H [] b2.fp := fun c hc => (fb2' c hc).imp id (k020.then ka2).back
      refine ⟨_, _, rfl, ?_⟩
      refine ⟨2, rfl, by decide, by decide, ?_⟩
      refine for_range (n := 2) (fun i σ' H' => ∃ c, Tw (SC K) H' A2 (KT 0) (KT i) a2 c ∧ c.p = b2.p ∧ Kp (TT K) [] H H' ∧ Fr H [] c.fp ∧ ∃ u, σ' = [some (.ref x2), some (.ref y2), u, some (.ref pt)]) ⟨b2, T22, rfl, k022, fb22, _, rfl⟩ (fun i σ1 H' hi z => ?_) fun σ1 H23 z => ?_
      · obtain ⟨c, Tc, ec, kc, fc, u, rfl⟩ := z
        refine ⟨_, rfl, Tc.sb.mdE (ec.trans eb2) rfl ⟨_, rfl, Tc.sb.mdE (ec.trans eb2) rfl ⟨_, rfl, [], A2, KT i, c, .int (0 + (i : Int)), .int (0 + (i : Int)), 0, [1], by rw [ec, eb2]; rfl, Tc.sb, wf_KT (by omega), kc.tab tb, rfl, by show 0 < 1; decide, .int _, fun h H6 k6 e6 s6 => ?_⟩⟩⟩
        have w6 : Wf A2 ((KT i).take (.int (0 + (i : Int)))) := (wf_KT (i := i) (by omega)).take (s := 0) (f := [1]) rfl (by show 0 < 1; decide)
        have T6 := Tc.right k6 Fr.refl s6
        have k06 := kc.trans k6 fc
        have m6 : (0, PyData.int (0 + (i : Int))) ∈ ((KT i).take (.int (0 + (i : Int)))).live := by rw [kt_take hi]; exact List.mem_cons_self
        have c6 : cn ((KT i).take (.int (0 + (i : Int)))).cnt 0 = cn (KT i).cnt 0 + 1 := by rw [kt_take hi]; rfl
        refine ⟨[], A2, (KT i).take (.int (0 + (i : Int))), c, h, 0, .int (0 + (i : Int)), by rw [ec, eb2]; rfl, T6.sb, w6, m6, by rw [c6]; exact e6, fun v c' H7 e7 k7 f7 _ s7 => ?_⟩
        rw [show ((KT i).take (.int (0 + (i : Int)))).give A2.r 0 = KT (i + 1) from kt_give hi] at s7
        exact ⟨c', T6.right k7 f7 s7, e7.trans ec, k06.trans k7 fc, Fr.trans k06 fc f7, _, rfl⟩
      · obtain ⟨c, Tc, ec, kc, fc, u, rfl⟩ := z
        have ecy2 : c.p = y2 := ec.trans eb2
        have w0 : Wf A2 (KT 0) := Wf.new ok_A2
        have w2' : Wf A2 (KT 2) := wf_KT (by decide)
        refine ⟨_, rfl, Tc.sa.mdE ea2 rfl ⟨[], A2, KT 0, a2, by rw [ea2]; rfl, Tc.sa, w0, kc.tab tb, fun p8 H8 k8 _ e8 => ?_⟩⟩
        have T8 := Tc.keep0 k8
        have k08 := kc.then k8
        refine ⟨_, rfl, T8.sb.mdE ecy2 rfl ⟨[], A2, KT 2, c, by rw [ecy2]; rfl, T8.sb, w2', k08.tab tb, fun p9 H9 k9 _ e9 => ?_⟩⟩
        have T9 := T8.keep0 k9
        have k09 := k08.then k9
        refine ⟨Lp (nI [0, 1]), Lp (nI [0, 1]), dp_Lf (l := [0, 1]) (k9.get e8 (fun z => by cases z) rfl), dp_Lf (l := [0, 1]) e9, sh_Lp, sh_Lp, true, by rw [eqv_Lp]; rfl, iteT ?_⟩
        refine ⟨_, rfl, T9.sb.mdE ecy2 rfl ⟨[], A2, KT 2, c, by rw [ecy2]; rfl, T9.sb, fun p7 H7 k7 _ e7 => ?_⟩⟩
        refine ⟨sz (show 2 ≤ 1000 by decide), fun q7 hq7 => ?_⟩
        have kq7 : Kp (TT K) [] H7 (upd H7 q7 (.lst [.int 2, .int 0])) := Kp.new hq7 fun _ z => by cases z
        refine ⟨Lp [2, 0], Lp [2, 0], dp_Lp (ns := [2, 0]) (kq7.get e7 (fun z => by cases z) rfl), dp_Lp (ns := [2, 0]) upd_same, sh_Lp, sh_Lp, true, by rw [eqv_Lp]; rfl, iteT ?_⟩
        have k07 := k09.then (k7.then kq7)
        have T7 := T9.keep0 (k7.then kq7)
        have ne3 : (KT 0).cnt ≠ (KT 2).cnt := by decide
        refine ⟨_, rfl, _, rfl, [], A2, KT 0, KT 2, a2, c, by rw [ea2, ecy2, decide_eq_false ne3]; rfl, T7.sa, T7.sb, w0, w2', k07.tab tb, fun z => absurd z ne3, fun H12 k12 => ?_⟩
        exact q H12 (k07.then k12)
end
end Sw
namespace Sw
open PySem PySem.Spec PyProof.Rows L2 LamX
theorem cut_ints {ns : List Int} {lo hi : Option Int} : ∃ ms : List Int, cutV (ns.map V.int) lo hi = ms.map V.int := by
  unfold cutV
  exact ⟨_, by rw [← List.map_drop, ← List.map_take]⟩
section
variable {P : Program} {w : World} {K : PySem.W.Frag} {mg : Str → Option Value} {base : Heap}
def spLaw (K : PySem.W.Frag) (T : List (Addr × Str)) : Sp := fun vs H Q _ => ∃ (ls : Addr) (ns : List Int), vs = [.ref ls] ∧ SqL K H ls (ns.map V.int) ∧ Tabs T H ∧ ∀ H', Q (.bl true) H'
abbrev NLa : List Str := ["_law_script", "_law_cell", "_law_state_here", "_law_turn"]
theorem sc_law : FnScope NLa ["_law_script"] d_law.scope := ⟨rfl, rfl, rfl, by decide +kernel, rfl, by decide +kernel, by decide +kernel⟩
theorem fn_law (t : Tx K mg base) {fd : FuncData} (F : DF K d_law fd) : FnOk P w K mg base L2.CX0 11 (He.fAd K d_law.at_) fd ["_law_script"] (spLaw K (TT K)) := by
  refine FunD.ok F sc_law (fun vs H Q E h => ?_) fun cdv A outer s H vs Q E hr h => ?_
  · obtain ⟨_, _, rfl, _⟩ := h
    rfl
  · obtain ⟨ls, ns, rfl, hs, tb, q⟩ := h
    have nd : NLa.Nodup := by decide +kernel
    refine ⟨_, PSs.nox (pss_cons (ps_for PassesOwn.never rfl (pi_list (pe_op op_cat (pe_lst (pa_cons (pe_c (ok_cellat t) hr (by decide) rfl (pa_cons (pv 0) (pa_cons pe_int pa_nil))) pa_nil)) (pe_slice sl_list (pv 0) (po_some pe_int) (po_some pe_int)))) (pg_name (i := 1) nd rfl (Or.inl rfl))
        (pss_cons (ps_set (i := 2) nd rfl (Or.inl rfl) (pe_c (ok_state0 t) hr (by decide) rfl (pa_cons (pv 1) pa_nil)) rfl)
        (pss_one (ps_for PassesOwn.never rfl (pi_range1 rfl t.b_range (pa_cons pe_int pa_nil)) (pg_name (i := 3) nd rfl (Or.inl rfl)) (pss_one (ps_if (pt_not (pt_val (pe_c (ok_right t) hr (by decide) rfl (pa_cons (pv 2) pa_nil)))) (pss_one ps_never) pss_nil))))))
      (pss_one (ps_ret (pe_c0 (ok_kno t) hr (by decide) rfl)))), ?_⟩
    refine ⟨_, rfl, ls, ns, rfl, hs, sz (show 1 ≤ 1000 by decide), fun l1 hl1 => ?_⟩
    have k1 : Kp (TT K) [] H (upd H l1 (.lst [.int (ns.getD 0 0)])) := Kp.new hl1 fun _ z => by cases z
    have hs1 : SqL K (upd H l1 (.lst [.int (ns.getD 0 0)])) ls (ns.map V.int) := by
      rcases hs with (z | ⟨o, z⟩) | z
      · exact .inl (.inl (up (ne_of_none z hl1) z))
      · exact .inl (.inr ⟨o, up (ne_of_none z hl1) z⟩)
      · exact .inr z
    obtain ⟨ms, ems⟩ := cut_ints (ns := ns) (lo := some 1) (hi := some 4)
    have lms : ms.length ≤ 4 := by
      have := congrArg List.length ems
      rw [List.length_map] at this
      rw [← this]
      unfold cutV
      rw [List.length_take]
      have e : HT.sIx (ns.map V.int).length (ns.map V.int).length (some 4) = min 4 (ns.map V.int).length := HT.sIx_nat _ _ 4
      rw [e]
      omega
    refine ⟨_, rfl, 1, rfl, 4, rfl, ls, _, rfl, hs1, fun l2 hl2 => ?_⟩
    rw [ems]
    have k2 : Kp (TT K) [] (upd H l1 (.lst [.int (ns.getD 0 0)])) (upd (upd H l1 (.lst [.int (ns.getD 0 0)])) l2 (.lst (ms.map V.int))) := Kp.new hl2 fun _ z => by cases z
    refine ⟨l1, l2, _, _, rfl, rfl, k2.get upd_same (fun z => by cases z) rfl, upd_same, by rw [List.length_map]; exact sz (by show 1 + _ ≤ 1000; omega), fun l3 hl3 => ?_⟩
    have k3 : Kp (TT K) [] _ (upd (upd (upd H l1 (.lst [.int (ns.getD 0 0)])) l2 (.lst (ms.map V.int))) l3 (.lst ([.int (ns.getD 0 0)] ++ ms.map V.int))) := Kp.new hl3 fun _ z => by cases z
    have k03 := k1.then (k2.then k3)
    refine ⟨l3, rfl, ⟨_, SqL.of upd_same⟩, ?_⟩
    refine for_list (xs := [.int (ns.getD 0 0)] ++ ms.map V.int) (fun i σ' H' => Kp (TT K) [] H H' ∧ H' l3 = some (.lst ([.int (ns.getD 0 0)] ++ ms.map V.int)) ∧ ∃ u v x, σ' = [some (.ref ls), u, v, x]) ⟨k03, upd_same, _, _, _, rfl⟩ (fun i σ' H' _ z => SqL.of z.2.1) (fun i x σ1 H' hx z => ?_) fun σ1 H' z => ?_
    · obtain ⟨z1, z2, u, v, y, rfl⟩ := z
      have hi : ∃ c : Int, x = .int c := by
        match i, hx with
        | 0, hx => exact ⟨_, (Option.some.inj hx).symm⟩
        | i + 1, hx =>
          have hx' : (ms.map V.int)[i]? = some x := hx
          rw [List.getElem?_map] at hx'
          cases h : ms[i]? with
          | none => rw [h] at hx'; cases hx'
          | some c => rw [h] at hx'; exact ⟨c, (Option.some.inj hx').symm⟩
      obtain ⟨c, rfl⟩ := hi
      refine ⟨_, rfl, c, rfl, fun st H1 ks ns' sd => ?_⟩
      have nst : ¬ Al H st := z1.back ns'
      have nl : l3 ≠ st := fun z => ns' (by rw [← z]; exact Al.l z2)
      refine ⟨3, rfl, by decide, by decide, ?_⟩
      refine for_range (n := 3) (fun j σ' H2 => Kp (TT K) [] H H2 ∧ H2 l3 = some (.lst ([.int (ns.getD 0 0)] ++ ms.map V.int)) ∧ StAt H2 st ∧ ∃ x, σ' = [some (.ref ls), some (.int c), some (.ref st), x]) ⟨z1.then ks, ks.get z2 (fun z => by cases z) rfl, sd, _, rfl⟩ (fun j σ2 H2 hj z => ?_) fun σ2 H2 z => ?_
      · obtain ⟨y1, y2, y3, x, rfl⟩ := z
        refine ⟨_, rfl, st, rfl, y3, y1.tab tb, fun H3 k4 s4 => ⟨true, rfl, iteF ?_⟩⟩
        exact ⟨y1.trans k4 fun b hb => .inr (by rw [List.mem_singleton.mp hb]; exact nst), k4.get y2 (by simpa using nl) rfl, s4, _, rfl⟩
      · obtain ⟨y1, y2, y3, x, rfl⟩ := z
        exact ⟨y1, y2, _, _, _, rfl⟩
    · obtain ⟨z1, z2, u, v, y, rfl⟩ := z
      exact ⟨rfl, z1.tab tb, fun H2 _ => q H2⟩
end
end Sw
namespace Sw
open PySem PySem.Spec PyProof.Rows L2
theorem run (w : World) : HandSHeadRun.RunEq R (PySem.W.view R.prog [52]) hk ob 12000 loose w := by
  intro os
  kernel_rfl
theorem law_at {w : World} {h : Heap} {mg : Str → Option Value} {f : Addr} {K : PySem.W.Frag} (X : K.In h) (G : h.Ns mainGlobals mg) (hf : mg ("law" : Str) = some (.ref f)) (c : He.SaysX fa fn [] tf exB w h K) :
    LamX.LawAtS PySem.Challenge.rw_slotwraps_k57_whole_maps_with_unlike_cou w K L2.CX0 11 63 "_law_script" mg f h := by
  obtain ⟨fd, F⟩ := c.t.d.def_ 50 (d := d_law) rfl
  have e := hf.symm.trans (He.glo_ok X G (c.t.d.fact 33 (f := .glo "law") rfl))
  cases e
  have b := FunD.bindsA (ps := ["_law_script"]) F fun _ _ _ _ _ _ us hl => match us, hl with | [_], _ => rfl
  refine ⟨fd, tf.map fun p => He.cT K p, spLaw K (TT K), fun p hp => ?_, fun p hp => ?_, fun p hp => ?_, fun s u => b s [u] rfl, fun H a ns _ _ ht hS => ⟨a, ns, rfl, hS, fun p hp => ?_, fun _ => rfl⟩, fun base hb gb htb => ?_⟩
  · obtain ⟨q, hq, e⟩ := List.mem_map.mp hp
    rw [← e]
    exact c.empty q hq
  · obtain ⟨q, hq, e⟩ := List.mem_map.mp hp
    rw [← e]
    exact c.out q hq
  · obtain ⟨q, hq, e⟩ := List.mem_map.mp hp
    rw [← e]
    exact PySem.W.codeHd_of_K X (c.hd q hq)
  · have g : ∀ q ∈ tf, H (He.cT K q).2 = some (.tbl #[]) := fun q hq => ht _ (List.mem_map.mpr ⟨q, hq, rfl⟩)
    simp only [TT, List.mem_cons, List.not_mem_nil, or_false] at hp
    rcases hp with e | e
    · rw [e]
      exact LamX.TabS.nil (g _ List.mem_cons_self)
    · rw [e]
      exact LamX.TabS.nil (g _ (List.mem_cons_of_mem _ List.mem_cons_self))
  · exact fn_law ⟨⟨h, X, G⟩, c.t.d, c.more, fun p hp => htb _ (List.mem_map.mpr ⟨p, hp, rfl⟩)⟩ F
end Sw
open PySem PySem.W PySem.Calls PyProof.Rows
theorem PySem.Challenge.cw_slotwraps_k57_whole_maps_with_unlike_cou_holds : PySem.Challenge.rw_slotwraps_k57_whole_maps_with_unlike_cou.Holds := by
  w_on; o_law
  refine HandSHeadRun.head_any (r := OpenLaw.row PySem.Challenge.rw_slotwraps_k57_whole_maps_with_unlike_cou) (q := view (OpenLaw.row PySem.Challenge.rw_slotwraps_k57_whole_maps_with_unlike_cou).prog [52]) (H := Sw.hk) (ob := Sw.ob) (M := 12000) (loose := Sw.loose)
    (d := HandSHeadRun.topDef (OpenLaw.row PySem.Challenge.rw_slotwraps_k57_whole_maps_with_unlike_cou).prog 52) (kwd := []) Sw.ob_eq
    (by kernel_rfl) (fun s => by kernel_rfl) Sw.run (by kernel_rfl) (by kernel_rfl) (by kernel_rfl) (by rfl) (by first | assumption | decide +kernel) (by decide +kernel) ⟨rfl, rfl, rfl, rfl, rfl, by decide +kernel⟩ ?hw ?hc
  case hw => w_witness2
  case hc =>
    refine LamX.walk_ofTsE (l := PySem.Challenge.rw_slotwraps_k57_whole_maps_with_unlike_cou) (n := 63) (k := 11) (x := "_law_script") (CX := fun _ => L2.CX0) rfl (by decide) (by kernel_rfl) ⟨rfl, by decide, by decide⟩ ?F (fun _ _ _ _ _ z => z)
    intro w mg fa h Y G hmg0
    obtain ⟨K, KX, c⟩ := Y
    have hmg : mg ("law" : PySem.Str) = some (.ref fa) := by
      have e : (HandSHeadRun.topDef (OpenLaw.row PySem.Challenge.rw_slotwraps_k57_whole_maps_with_unlike_cou).prog 52).name = ("law" : PySem.Str) := by kernel_rfl
      rw [← e]
      exact hmg0
    exact ⟨K, KX, Sw.law_at KX G hmg c⟩
