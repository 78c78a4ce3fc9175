import PyProof.Rows.All
import Wide.All
import OpenK.AllK
import Wide.FinOn
import HandS.ForMost
import HandS.Star
import HandS.Property
import HandS.ClsMeth
import HandS.OwnEq
import HandS.SlotsOwn
import HandS.TupAny
import HandS.IsInst
import HandS.Defaults
import KE.KOpsOwn
import PyProof.InstEq
import HandS.Walk
import KE.LtData
import HandS.Records
import HandS.Style
import KE.KExcSuper
import HandS.ExcInit
import HandS.Exc
import HandS.ExcField
import HandS.ExcIs
import HandS.Lambda
import HandS.EndTab
import HandS.ExcValue
import KE.KExcIs
import HandS.WordsExc
import PyProof.ReprRoads
import KE.KCallOwn
import HandS.FStr
import PyProof.EqKinds
import PySem.Challenge.RW_nearestsays_k03_places_above_and_below
import PyProof.StrLawsRepr
set_option Elab.async false
set_option linter.all false
set_option maxRecDepth 100000
set_option maxHeartbeats 4000000
/-! Part A: rules for own classes that the hand layer lacks. -/
namespace NA
open PySem PySem.Spec PyProof.Rows L2

section
variable {prog : Program} {w : World} {A : Around} {E : Value → Shared → Prop} {s : Shared} {K : PySem.W.Frag} {x C L f : Addr} {h0 : Heap} {m : Str → Option Value} {ox : Obj} {od : Option Obj} {b tb : Value}
/-- object.__ne__ on an instance with its own == -/
theorem ne_call {Q : Value → Shared → Prop} (hu : A.in1.units < cLine) (X : K.In s.heap) (I : PySem.W.InstAt s.heap x ox C od) (ho : PySem.W.subIn K (.ref C) (.type "object") = some true) (hs : PySem.W.findIn K (.ref C) "__eq__" = some (some (.ref f))) (hf : PySem.W.isFn K (.ref f) = true)
    (h : wpAny (model prog w) A.in1 (call (.ref f) [.ref x, b]) (fun v s' => ∃ r, v = .bool r ∧ Q (.bool (!r)) s') E s) : wpAny (model prog w) A (call (.builtin "object.__ne__") [.ref x, b]) Q E s := by
  refine wpAny_call (codeAny_call_builtin F.cmp_object.ne.plain F.cmpEntry_ne (PySem.W.check_slot F.cmpKind_ne F.cmpSplit_ne (I.type.andThen (PySem.W.looks_subIn X ho)) (F.cmpArgs_ne _ _) ?_))
  show wpAny (model prog w) A.in1 (Builtin.«object.__ne__» ⟨[.ref x, b], []⟩) _ _ s
  unfold Builtin.«object.__ne__»
  repeat (first
    | with_reducible refine wpAny_cRoomFor hu ?_
    | (refine wpAny_bind (m := callSpecialIfBound? (.ref x) (Str.ofString "__eq__") [b])
        (PySem.W.ifBound_K X I hs hf (wpAny_mono h (fun r s' hr => by
          obtain ⟨b, rfl, hq⟩ := hr
          repeat (first | exact hq | exact wpAny_pure hq | exact wpAny_truthy_bool hq | (refine wpAny_bind (m := truthy (.bool _)) (wpAny_truthy_bool ?_)) | wp_step)) fun _ _ e => e)))
    | wp_step)
theorem ifBound_b {M : Model} {name : Str} {id : String} {args : List Value} {Q : Option Value → Shared → Prop} (X : K.In s.heap) (I : PySem.W.InstAt s.heap x ox C od) (hs : PySem.W.findIn K (.ref C) name = some (some (.builtin id))) (S : Slot "object" name id)
    (h : wpAny M A (call (.builtin id) (.ref x :: args)) (fun v => Q (some v)) E s) : wpAny M A (callSpecialIfBound? (.ref x) name args) Q E s := by
  simp only [callSpecialIfBound?, bindSpecialIfBound?]
  refine wpAny_holding (wpAny_bind (wpAny_bind (wpAny_bind (I.type.here ((PySem.W.looks_findIn X hs).here ?_)))))
  simp only [S.bind]
  refine wpAny_bind (wpAny_askSetting (wpAny_ite ?_))
  have fin : wpAny M A (call (.builtin id) ([.ref x] ++ args) >>= fun v => pure (some v)) Q E s := wpAny_bind (wpAny_mono h (fun v s' h' => wpAny_pure h') fun _ _ h' => h')
  split
  · exact wpAny_bind (wpAny_pure (wpAny_pure fin))
  · exact wpAny_tryCatch (wpAny_bind (wpAny_pure (wpAny_pure fin)))
theorem ne_K {Q : Value → Shared → Prop} (hu : A.units + 1 < cLine) (X : K.In s.heap) (I : PySem.W.InstAt s.heap x ox C od) (hb : PySem.W.Looks (model prog w) s.heap (typeOf b) tb) (hn : PySem.W.notFirst K C tb = true)
    (ho : PySem.W.subIn K (.ref C) (.type "object") = some true) (hne : PySem.W.findIn K (.ref C) "__ne__" = some (some (.builtin "object.__ne__"))) (hs : PySem.W.findIn K (.ref C) "__eq__" = some (some (.ref f))) (hf : PySem.W.isFn K (.ref f) = true)
    (h : wpAny (model prog w) A.in1 (call (.ref f) [.ref x, b]) (fun v s' => ∃ r, v = .bool r ∧ Q (.bool (!r)) s') E s) : wpAny (model prog w) A (richCompare .NotEq (.ref x) b) Q E s := by
  have one : wpAny (model prog w) A (tryCompare (.ref x) (cmpInfo .NotEq).2.1 b) (fun r s' => ∃ v, r = some v ∧ Q v s') E s := by
    unfold tryCompare
    refine wpAny_bind (ifBound_b X I hne F.cmp_object.ne (ne_call hu X I ho hs hf (wpAny_mono h (fun v s' hv => ?_) fun _ _ e => e)))
    obtain ⟨r, rfl, hq⟩ := hv
    exact ⟨r, rfl, wpAny_pure ⟨_, rfl, hq⟩⟩
  unfold richCompare
  simp only [oneThing_ref]
  refine wpAny_holding (wpAny_bind (wpAny_cRoomFor (Nat.lt_of_succ_lt hu) ?_))
  refine wpAny_bind (I.type.here (wpAny_bind (hb.here ?_)))
  split
  · rename_i q
    have e : PySem.W.subIn K tb (.ref C) = some false := by
      rcases Bool.or_eq_true_iff.mp hn with e | e
      · rw [beq_iff_eq.mp e] at q; simp at q
      · exact beq_iff_eq.mp e
    refine wpAny_bind ((PySem.W.looks_subIn X e).here ?_)
    simp only [Bool.false_eq_true, if_false]
    refine wpAny_bind (wpAny_mono one (fun r s' z => ?_) fun _ _ e => e)
    obtain ⟨v, rfl, hq⟩ := z
    exact wpAny_pure hq
  · refine wpAny_bind (wpAny_pure ?_)
    simp only [Bool.false_eq_true, if_false]
    refine wpAny_bind (wpAny_mono one (fun r s' z => ?_) fun _ _ e => e)
    obtain ⟨v, rfl, hq⟩ := z
    exact wpAny_pure hq
end

/-! ### over the layer -/
section
variable {X : Cx} {CX : CXT} {pins : List (Addr × Obj)} {σ : L2.St} {H : Hp} {s : Shared} {C f : Addr} {n : Nat} {sp : Sp} {E : XK}
/-- an instance's record -/
theorem inst_of {a dx : Addr} {fs : List (Str × V)} (I : Inv X pins σ H s) (h : H a = some (.ins C dx fs)) : ∃ od, PySem.W.InstAt s.heap a (PySem.W.instObj C dx) C (some od) := by
  obtain ⟨mA, O, _⟩ := ins_get I.hok h
  obtain ⟨od, J, _⟩ := O.look
  exact ⟨od, J⟩
/-- the callee somewhere below the running body -/
theorem run_sub {A : Around} {Q : VK} {us : List Value} {vs : List V} (F : FnR X.prog X.w X.K X.mg X.base CX n f sp) (hr : Room n A) (fr : A.frames = X.A.frames) (hx : Passes CX X E) (I : Inv X pins σ H s) (r : Vals vs us) (h : sp vs H Q E) :
    wpAny (model X.prog X.w) A (call (.ref f) us) (EP X pins σ Q) X.xe s := by
  have e := I.env0
  exact wpAny_call (SlX.run_at F hr ⟨by rw [fr]; exact e.frames, e.mod, e.bs, e.bsz, e.funs, e.frf, e.hok, e.bare⟩ hx I r h)

/-- what the text says of an own special method -/
structure Spc (K : PySem.W.Frag) (C : Addr) (name : Str) (f : Addr) : Prop where
  at_ : PySem.W.findIn K (.ref C) name = some (some (.ref f))
  fn : PySem.W.isFn K (.ref f) = true

/-- a op b, both of the class at C -/
def rBinC (C : Addr) (sp : Sp) (E : XK) : R2 := fun x y H Q => ∃ a dx fs b dy gs, x = .ref a ∧ y = .ref b ∧ H a = some (.ins C dx fs) ∧ H b = some (.ins C dy gs) ∧ sp [x, y] H Q E
theorem op_binC {op : Operator} (S : Spc X.K C (PySem.dunder op.info.2) f) (hc : PySem.W.selfFirst X.K C = true) (F : FnR X.prog X.w X.K X.mg X.base CX n f sp) (hr : Room n X.A) (hx : Passes CX X E) : OpR X (binaryOp op) (rBinC C sp E) := by
  intro pins s σ H x y v u Q I rx ry h
  obtain ⟨a, dx, fs, b, dy, gs, rfl, rfl, ha, hb, q⟩ := h
  cases (show v = Value.ref a from rx)
  cases (show u = Value.ref b from ry)
  obtain ⟨od, J⟩ := inst_of I ha
  obtain ⟨od', J'⟩ := inst_of I hb
  obtain ⟨m, hF⟩ := I.fr
  refine PySem.W.binop_K hF I.ok.mod.kin J J'.type hc S.at_ S.fn ?_
  refine wpAny_mono (run_sub (vs := [.ref a, .ref b]) F hr rfl hx I (.cons rfl (.cons rfl .nil)) q) (fun w s' z => ?_) fun _ _ x => x
  obtain ⟨z', H', I', rz, qz⟩ := z
  exact SlX.cmpback rz ⟨z', H', I', rz, qz⟩
/-- a op y, a of the class at C, y a text -/
def rBinS (C : Addr) (sp : Sp) (E : XK) : R2 := fun x y H Q => ∃ a dx fs z, x = .ref a ∧ y = .str z ∧ H a = some (.ins C dx fs) ∧ sp [x, y] H Q E
structure BinT (K : PySem.W.Frag) (C : Addr) (nm T : String) : Prop where
  r : ∃ rc, PySem.W.findIn K (.ref C) (dunderR nm) = some rc ∧ (rc = none ∨ ∃ g : Addr, rc = some (.ref g))
  t : ∃ fo, PySem.W.findIn K (.type T) (PySem.dunder nm) = some fo
  tr : ∃ ro, PySem.W.findIn K (.type T) (dunderR nm) = some ro
  sub : PySem.W.subIn K (.type T) (.ref C) = some false
theorem op_binS {op : Operator} (S : Spc X.K C (PySem.dunder op.info.2) f) (B : BinT X.K C op.info.2 "str") (hc : PySem.W.selfFirst X.K C = true) (F : FnR X.prog X.w X.K X.mg X.base CX n f sp) (hr : Room n X.A) (hx : Passes CX X E) : OpR X (binaryOp op) (rBinS C sp E) := by
  intro pins s σ H x y v u Q I rx ry h
  obtain ⟨a, dx, fs, z, rfl, rfl, ha, q⟩ := h
  cases (show v = Value.ref a from rx)
  obtain ⟨t, e⟩ := (show ∃ t, u = Value.str z t from ry)
  cases e
  obtain ⟨od, J⟩ := inst_of I ha
  obtain ⟨m, hF⟩ := I.fr
  obtain ⟨rc, h1, h2⟩ := B.r
  obtain ⟨fo, h3⟩ := B.t
  obtain ⟨ro, h4⟩ := B.tr
  refine PySem.W.ksp_binT (T := "str") hF I.ok.mod.kin J rfl hc S.at_ S.fn h1 h2 h3 h4 B.sub ?_
  refine wpAny_mono (run_sub (vs := [.ref a, .str z]) F hr rfl hx I (.cons rfl (.cons ⟨t, rfl⟩ .nil)) q) (fun w s' z => ?_) fun _ _ x => x
  obtain ⟨z', H', I', rz, qz⟩ := z
  exact SlX.cmpback rz ⟨z', H', I', rz, qz⟩

/-- y in a, y not in a: a of the class at C -/
def rInC (C : Addr) (sp : Sp) (E : XK) (neg : Bool) : R2 := fun y x H Q => ∃ a dx fs, x = .ref a ∧ H a = some (.ins C dx fs) ∧ sp [x, y] H (fun v H' => ∃ r, v = .bl r ∧ Q (.bl (if neg then !r else r)) H') E
theorem op_inC (S : Spc X.K C "__contains__" f) (F : FnR X.prog X.w X.K X.mg X.base CX n f sp) (hr : Room n X.A) (hx : Passes CX X E) : OpR X (compareOp .In) (rInC C sp E false) := by
  intro pins s σ H y x u v Q I ry rx h
  obtain ⟨a, dx, fs, rfl, ha, q⟩ := h
  cases (show v = Value.ref a from rx)
  obtain ⟨od, J⟩ := inst_of I ha
  obtain ⟨m, hF⟩ := I.fr
  refine PySem.W.in_K hF I.ok.mod.kin J S.at_ S.fn ?_
  refine wpAny_mono (run_sub (vs := [.ref a, y]) F hr rfl hx I (.cons rfl (.cons ry .nil)) q) (fun w s' z => ?_) fun _ _ x => x
  obtain ⟨z', H', I', rz, r, rfl, qz⟩ := z
  cases (show w = Value.bool r from rz)
  exact wpAny_truthy_bool ⟨.bl r, H', I', rfl, qz⟩
theorem op_notInC (S : Spc X.K C "__contains__" f) (F : FnR X.prog X.w X.K X.mg X.base CX n f sp) (hr : Room n X.A) (hx : Passes CX X E) : OpR X (compareOp .NotIn) (rInC C sp E true) := by
  intro pins s σ H y x u v Q I ry rx h
  obtain ⟨a, dx, fs, rfl, ha, q⟩ := h
  cases (show v = Value.ref a from rx)
  obtain ⟨od, J⟩ := inst_of I ha
  obtain ⟨m, hF⟩ := I.fr
  refine PySem.W.notIn_K hF I.ok.mod.kin J S.at_ S.fn ?_
  refine wpAny_mono (run_sub (vs := [.ref a, y]) F hr rfl hx I (.cons rfl (.cons ry .nil)) q) (fun w s' z => ?_) fun _ _ x => x
  obtain ⟨z', H', I', rz, r, rfl, qz⟩ := z
  cases (show w = Value.bool r from rz)
  exact wpAny_truthy_bool ⟨.bl (!r), H', I', rfl, qz⟩

/-- len(a) -/
def rLenC (C : Addr) (sp : Sp) (E : XK) : List V → Hp → VK → Prop := fun xs H Q => ∃ a dx fs, xs = [.ref a] ∧ H a = some (.ins C dx fs) ∧ sp [.ref a] H (fun v H' => ∃ k : Int, v = .int k ∧ (0 ≤ k ∧ k < 2 ^ 63) ∧ Q v H') E
theorem call_lenC (S : Spc X.K C "__len__" f) (F : FnR X.prog X.w X.K X.mg X.base CX n f sp) (hr : Room (n + 1) X.A) (hx : Passes CX X E) : CallR X (.builtin "len") (rLenC C sp E) := by
  intro pins s σ H xs us Q I r h
  obtain ⟨a, dx, fs, rfl, ha, q⟩ := h
  obtain ⟨u, rfl, ru⟩ := vals1 r
  cases (show u = Value.ref a from ru)
  obtain ⟨od, J⟩ := inst_of I ha
  obtain ⟨m, hF⟩ := I.fr
  refine PySem.W.len_K hF I.ok.mod.kin J S.at_ S.fn ?_
  refine wpAny_mono (run_sub (vs := [.ref a]) F hr.in1 rfl hx I (.cons rfl .nil) q) (fun w s' z => ?_) fun _ _ x => x
  obtain ⟨z', H', I', rz, k, rfl, hk, qz⟩ := z
  obtain ⟨t, e⟩ := (show ∃ t, w = Value.int k t from rz)
  cases e
  exact ⟨hk, ⟨.int k, H', I'.tok _, ⟨_, rfl⟩, qz⟩⟩
/-- the truth of a -/
theorem tru_C (S : Spc X.K C "__bool__" f) (F : FnR X.prog X.w X.K X.mg X.base CX n f sp) (hr : Room n X.A) (hx : Passes CX X E) :
    TruR X (fun x H Q => ∃ a dx fs, x = .ref a ∧ H a = some (.ins C dx fs) ∧ sp [.ref a] H (fun v H' => ∃ r, v = .bl r ∧ Q r H') E) := by
  intro pins s σ H x u Q I rx h
  obtain ⟨a, dx, fs, rfl, ha, q⟩ := h
  cases (show u = Value.ref a from rx)
  obtain ⟨od, J⟩ := inst_of I ha
  obtain ⟨m, hF⟩ := I.fr
  refine PySem.W.truthy_K hF I.ok.mod.kin J S.at_ S.fn ?_
  refine wpAny_mono (run_sub (vs := [.ref a]) F hr rfl hx I (.cons rfl .nil) q) (fun w s' z => ?_) fun _ _ x => x
  obtain ⟨z', H', I', rz, r, rfl, qz⟩ := z
  cases (show w = Value.bool r from rz)
  exact ⟨H', I', qz⟩

/-- a == b, a != b: a of the class at C, b an instance of C too -/
def rEqC (C : Addr) (sp : Sp) (E : XK) (neg : Bool) : R2 := fun x y H Q => ∃ a dx fs b dy gs, x = .ref a ∧ y = .ref b ∧ H a = some (.ins C dx fs) ∧ H b = some (.ins C dy gs) ∧ sp [x, y] H (fun v H' => ∃ r, v = .bl r ∧ Q (.bl (if neg then !r else r)) H') E
theorem notFirst_self {K : PySem.W.Frag} {C : Addr} : PySem.W.notFirst K C (.ref C) = true := by simp [PySem.W.notFirst]
theorem op_eqC (S : Spc X.K C "__eq__" f) (F : FnR X.prog X.w X.K X.mg X.base CX n f sp) (hr : Room n X.A) (hx : Passes CX X E) : OpR X (compareOp .Eq) (rEqC C sp E false) := by
  intro pins s σ H x y v u Q I rx ry h
  obtain ⟨a, dx, fs, b, dy, gs, rfl, rfl, ha, hb, q⟩ := h
  cases (show v = Value.ref a from rx)
  cases (show u = Value.ref b from ry)
  obtain ⟨od, J⟩ := inst_of I ha
  obtain ⟨od', J'⟩ := inst_of I hb
  obtain ⟨m, hF⟩ := I.fr
  show wpAny (model X.prog X.w) X.A (richCompare .Eq (.ref a) (.ref b)) (EP X pins σ Q) X.xe s
  refine PySem.W.cmp_K (op := .Eq) (tb := .ref C) hr.units0 hF I.ok.mod.kin J J'.type notFirst_self S.at_ S.fn ?_
  refine wpAny_mono (run_sub (vs := [.ref a, .ref b]) F hr rfl hx I (.cons rfl (.cons rfl .nil)) q) (fun w s' z => ?_) fun _ _ x => x
  obtain ⟨z', H', I', rz, r, rfl, qz⟩ := z
  cases (show w = Value.bool r from rz)
  exact ⟨.bl r, H', I', rfl, qz⟩
structure NeC (K : PySem.W.Frag) (C : Addr) : Prop where
  ob : PySem.W.subIn K (.ref C) (.type "object") = some true
  ne : PySem.W.findIn K (.ref C) "__ne__" = some (some (.builtin "object.__ne__"))
theorem op_neC (S : Spc X.K C "__eq__" f) (Ne : NeC X.K C) (F : FnR X.prog X.w X.K X.mg X.base CX n f sp) (hr : Room (n + 1) X.A) (hx : Passes CX X E) : OpR X (compareOp .NotEq) (rEqC C sp E true) := by
  intro pins s σ H x y v u Q I rx ry h
  obtain ⟨a, dx, fs, b, dy, gs, rfl, rfl, ha, hb, q⟩ := h
  cases (show v = Value.ref a from rx)
  cases (show u = Value.ref b from ry)
  obtain ⟨od, J⟩ := inst_of I ha
  obtain ⟨od', J'⟩ := inst_of I hb
  show wpAny (model X.prog X.w) X.A (richCompare .NotEq (.ref a) (.ref b)) (EP X pins σ Q) X.xe s
  refine ne_K (tb := .ref C) (hu_of hr) I.kIn J J'.type notFirst_self Ne.ob Ne.ne S.at_ S.fn ?_
  refine wpAny_mono (run_sub (vs := [.ref a, .ref b]) F hr.in1 rfl hx I (.cons rfl (.cons rfl .nil)) q) (fun w s' z => ?_) fun _ _ x => x
  obtain ⟨z', H', I', rz, r, rfl, qz⟩ := z
  cases (show w = Value.bool r from rz)
  exact ⟨r, rfl, .bl (!r), H', I', rfl, qz⟩
end
end NA

/-! Part B: short words over the layer. -/
namespace NA
open PySem PySem.Spec PyProof.Rows L2

def FunE (K : PySem.W.Frag) (x qual : Str) (st : Stmt) (f : Addr) : Prop := ∃ fd, Fun K x qual st f fd
section
variable {P : Program} {w : World} {K : PySem.W.Frag} {mg : Str → Option Value} {base : Heap} {CX : CXT} {k : Nat} {f : Addr} {sp : Sp}
theorem fnr_of {fd : FuncData} {ps : List Str} (F : FnOk P w K mg base CX k f fd ps sp) (hb : Binds K fd ps []) : FnR P w K mg base CX k f sp := by
  refine (F.raw hb .nil).imp fun vs H Q E h => ?_
  show sp (vs ++ []) H Q E
  rw [List.append_nil]
  exact h
/-- a def that lets no error out, by its body -/
theorem fnr {x qual : Str} {st : Stmt} {N ps : List Str} (F : FunE K x qual st f) (S : FnScope N ps (defScope st))
    (hb : ∀ (kV doc pm : Value) (an : Option Addr) (cdv ct : Value) (us : List Value), us.length = ps.length → bindArgs (PySem.W.fnOf x qual (defArgs st) (defBody st) (defScope st) .none kV doc pm an cdv ct) ⟨us, []⟩ = pure (ps.zip us))
    (len : ∀ vs H Q E, sp vs H Q E → vs.length = ps.length)
    (hbody : ∀ (cdv : Value) (A : Around) (outer : List Env) (s : Shared) (H : Hp) (vs : List V) (Q : VK) (E : XK), Room k (A.deeper (envOfC qual (defScope st) s.heap.objs.size f cdv)) → sp vs H Q E →
      ∃ t, PSs (cxOf CX0 P w K mg base N qual (defScope st) f cdv A outer s H E).nox (defBody st) t ∧ t { nx := fun _ H' => Q .non H', rt := Q } (start N vs) H) : FnR P w K mg base CX0 (k + 1) f sp := by
  obtain ⟨fd, F⟩ := F
  exact fnr_of (F.ok S len hbody) (F.binds hb)
end

section
variable {P : Program} {w : World} {K : PySem.W.Frag} {mg : Str → Option Value} {base : Heap} {k : Nat} {f : Addr} {sp : Sp}
/-- a def with *v that lets no error out -/
theorem fnr_star {x qual : Str} {st : Stmt} {N ps : List Str} {pv : Str} (F : FunE K x qual st f) (S : FnScope N (ps ++ [pv]) (defScope st))
    (hb : ∀ (kV doc pm : Value) (an : Option Addr) (cdv ct : Value) (us rest : List Value), us.length = ps.length → bindArgs (PySem.W.fnOf x qual (defArgs st) (defBody st) (defScope st) .none kV doc pm an cdv ct) ⟨us ++ rest, []⟩ = (newTuple rest >>= fun t => pure (ps.zip us ++ [(pv, t)])))
    (hbody : ∀ (cdv : Value) (A : Around) (outer : List Env) (s : Shared) (H : Hp) (vs : List V) (Q : VK) (E : XK), Room k (A.deeper (envOfC qual (defScope st) s.heap.objs.size f cdv)) → sp vs H Q E →
      ∃ t, PSs (cxOf CX0 P w K mg base N qual (defScope st) f cdv A outer s H E).nox (defBody st) t ∧ t { nx := fun _ H' => Q .non H', rt := Q } (start N vs) H) :
    FnR P w K mg base CX0 (k + 1) f (fun vs H Q E => ∃ ws rest, vs = ws ++ rest ∧ ws.length = ps.length ∧ rest.length ≤ sizeLine ∧ ∀ p, H p = Option.none → sp (ws ++ [V.ref p]) (upd H p (.tup rest)) Q E) := by
  obtain ⟨fd, F⟩ := F
  obtain ⟨oc, od, kV, doc, pm, an, cdv, ct, osl, e, lk, hcd⟩ := id F.ex
  subst e
  refine StX.fn_star lk hcd S StX.cxUp_none (hb kV doc pm an cdv ct) fun A outer s H vs Q E hr hsp => ?_
  obtain ⟨t, h, q⟩ := hbody cdv A outer s H vs Q E hr hsp
  exact ⟨t, h.nox, q⟩
end
theorem kit_sub {K : PySem.W.Frag} {t : Value} {C : Addr} {b : Bool} (hne : (t == .ref C) = false) (h1 : PySem.W.isClsIn K C = true) (h2 : PySem.W.typeIn K (.ref C) = some (.type "type")) (h3 : PySem.W.subIn K t (.ref C) = some b) : PySem.W.kitOne K t (.ref C) = some b := by
  unfold PySem.W.kitOne
  rw [if_neg (by rw [hne]; exact Bool.false_ne_true)]
  show (if ((PySem.W.clsIn K C).isSome && PySem.W.typeIn K (.ref C) == some (.type "type")) = true then PySem.W.subIn K t (.ref C) else none) = some b
  have h1' : (PySem.W.clsIn K C).isSome = true := h1
  rw [h1', h2, if_pos (by rfl), h3]
theorem kit_self {K : PySem.W.Frag} {t : Value} : PySem.W.kitOne K t t = some true := if_pos (beq_self_eq_true _)

/-! ### calls by positional promises -/
section
variable {X : Cx} {CX : CXT} {k i : Nat} {f C : Addr} {sp : Sp} {E : XK} {x m : Str} {e o : Expr} {es : List Expr} {te ta : TE} {t : TA} {p sp_ pos apos : Pos}
/-- f(e, ..) -/
def tCl (sp : Sp) (E : XK) (t : TA) : TE := fun σ H Q => t σ H fun vs H1 => sp vs H1 Q E
theorem pe_cl (F : FnR X.prog X.w X.K X.mg X.base CX k f sp) (hr : Room k X.A) (hg : Gl X x) (hm : X.mg x = some (.ref f)) (hk : PySem.W.keepIn X.K (.ref f) = true) (hx : Passes CX X E)
    (ha : PA X (e :: es) t) (hdb : (x == ("__debug__" : Str)) = false := by decide) (he : starEach (e :: es) X.env = (false, eval e X.env) :: starEach es X.env := by rfl) (hpl : (backTo pos (starEach es X.env)).any (·.1) = false := by rfl) :
    PE X (.Call (.Name x p) (e :: es) [] pos) (tCl sp E t) := by
  refine ⟨fun pins s σ H Q I h => ?_⟩
  refine wpAny_Call_Name_kw (ld_glob I hg hm ?_ hdb)
  refine PySem.W.callWith_K (h₀ := X.base) I.ok.mod.kin hk (thn (ha.run pos pins s σ H _ I h) fun us s1 ⟨vs, H1, I1, r, q⟩ => ⟨I1.kIn, ?_⟩) he hpl
  exact wpAny_call (run_fnR F hr hx I1 r q)
theorem pe_cl0 (F : FnR X.prog X.w X.K X.mg X.base CX k f sp) (hr : Room k X.A) (hg : Gl X x) (hm : X.mg x = some (.ref f)) (hk : PySem.W.keepIn X.K (.ref f) = true) (hx : Passes CX X E)
    (hdb : (x == ("__debug__" : Str)) = false := by decide) : PE X (.Call (.Name x p) [] [] pos) (tCl sp E tNil) := by
  refine ⟨fun pins s σ H Q I h => ?_⟩
  refine wpAny_Call_Name_kw (ld_glob I hg hm ?_ hdb)
  exact PySem.W.callWith_K0 I.kIn hk (wpAny_call (run_fnR (us := []) F hr hx I .nil h))
/-- C(), C(*e) of the module's class; cls(*e) of a local name -/
theorem pe_mk0 (M : Mk X.K C f) (F : FnR X.prog X.w X.K X.mg X.base CX k f sp) (hr : Room (k + 1) X.A) (hg : Gl X x) (hm : X.mg x = some (.ref C)) (hx : Passes CX X E)
    (hdb : (x == ("__debug__" : Str)) = false := by decide) : PE X (.Call (.Name x p) [] [] pos) (StX.tMakeR C sp E tNil) := by
  refine ⟨fun pins s σ H Q I h => ?_⟩
  refine wpAny_Call_Name_kw (ld_glob I hg hm ?_ hdb)
  exact PySem.W.callWith_K0 I.kIn M.kp (StX.run_makeR (us := []) M F hr hx I .nil h)
def tMkS (K : PySem.W.Frag) (C : Addr) (sp : Sp) (E : XK) (te : TE) : TE := fun σ H Q => te σ H fun y H1 => ∃ a xs, y = V.ref a ∧ (SqT K H1 a xs ∨ SqL K H1 a xs) ∧ ∀ x dx, H1 x = Option.none → H1 dx = Option.none → dx ≠ x →
  sp (V.ref x :: xs) (upd (upd H1 dx (.own x)) x (.ins C dx [])) (fun v H2 => v = .non ∧ Q (.ref x) H2) E
theorem pe_mkS (M : Mk X.K C f) (F : FnR X.prog X.w X.K X.mg X.base CX k f sp) (hr : Room (k + 1) X.A) (hg : Gl X x) (hm : X.mg x = some (.ref C)) (hx : Passes CX X E) (he : PE X e te)
    (hdb : (x == ("__debug__" : Str)) = false := by decide) (hst : starEach [.Starred e sp_] X.env = [(true, eval e X.env)] := by rfl) : PE X (.Call (.Name x p) [.Starred e sp_] [] pos) (tMkS X.K C sp E te) := by
  refine ⟨fun pins s σ H Q I h => ?_⟩
  refine wpAny_Call_Name_kw (ld_glob I hg hm ?_ hdb)
  refine PySem.W.callWith_S (h₀ := X.base) I.ok.mod.kin M.kp (thn (he.run pins s σ H _ I h) fun v s1 ⟨y, H1, I1, ry, a, xs, ey, hxs, q⟩ => ?_) hst
  subst ey
  obtain rfl : v = Value.ref a := ry
  exact StX.star_any I1 hxs fun us s2 I2 rv => ⟨I2.kIn, StX.run_makeR M F hr hx I2 rv q⟩
def tMkSL (K : PySem.W.Frag) (C : Addr) (i : Nat) (sp : Sp) (E : XK) (te : TE) : TE := fun σ H Q => σ[i]? = some (some (.ref C)) ∧ tMkS K C sp E te σ H Q
theorem pe_mkSL (M : Mk X.K C f) (F : FnR X.prog X.w X.K X.mg X.base CX k f sp) (hr : Room (k + 1) X.A) (hN : X.N[i]? = some x) (hv : Vis X.env.scope x) (hx : Passes CX X E) (he : PE X e te)
    (hd : (x == ("__debug__" : Str)) = false := by decide) (hcd : (x == ("__classdict__" : Str)) = false := by decide) (hst : starEach [.Starred e sp_] X.env = [(true, eval e X.env)] := by rfl) : PE X (.Call (.Name x p) [.Starred e sp_] [] pos) (tMkSL X.K C i sp E te) := by
  refine ⟨fun pins s σ H Q I h => ?_⟩
  obtain ⟨hs, h⟩ := h
  refine wpAny_Call_Name_kw (thn ((pe_var (pos := p) (i := i) hN hv hd hcd).run pins s σ H (fun v H1 => v = .ref C ∧ H1 = H) I ⟨.ref C, hs, rfl, rfl⟩) fun u s1 ⟨v, H1, I1, r1, ev, eH⟩ => ?_)
  subst ev
  rw [eH] at I1
  cases r1
  refine PySem.W.callWith_S (h₀ := X.base) I.ok.mod.kin M.kp (thn (he.run pins s1 σ H _ I1 h) fun v s1 ⟨y, H1, I1, ry, a, xs, ey, hxs, q⟩ => ?_) hst
  subst ey
  obtain rfl : v = Value.ref a := ry
  exact StX.star_any I1 hxs fun us s2 I2 rv => ⟨I2.kIn, StX.run_makeR M F hr hx I2 rv q⟩
/-- o.m() -/
theorem pe_mth0 {pl : Sem Bool} (he : PE X o ta) (c : Cls X.K C) (hm : Meth X.K C m f) (F : FnR X.prog X.w X.K X.mg X.base CX k f sp) (hr : Room k X.A) (hx : Passes CX X E)
    (ht : eval (.Call (.Attribute o m apos) [] [] pos) X.env = (do
      let ov ← eval o X.env
      standAt apos.atName
      let (f, first) ← holding [ov] (getMethod ov m pl)
      callWith pos f first (backTo pos (starEach [] X.env)) (backToKw pos (keywordEach [] X.env))) := by rfl) :
    PE X (.Call (.Attribute o m apos) [] [] pos) (tMethR C m sp E ta tNil) := by
  refine ⟨fun pins s σ H Q I h => ?_⟩
  refine PySem.W.methodCall_KW (pl := pl) (thn (he.run pins s σ H _ I h) fun u s1 ⟨x, H1, I1, rx, a, dx, fs, ex, ea, l, q⟩ => ?_) ht
  subst ex
  obtain rfl : u = Value.ref a := rx
  refine getmeth_ok I1 ea c hm l ?_
  exact PySem.W.callWith_K0 (first := [.ref a]) I1.kIn hm.kp (wpAny_call (run_fnR (us := [.ref a]) (vs := [.ref a]) F hr hx I1 (.cons rfl .nil) q))
/-- e.f, a property -/
def tPrp (C : Addr) (sp : Sp) (E : XK) (ta : TE) : TE := fun σ H Q => ta σ H fun x H1 => ∃ a dx fs, x = .ref a ∧ H1 a = some (.ins C dx fs) ∧ sp [.ref a] H1 Q E
theorem pe_prp {g q : Addr} (he : PE X e ta) (c : Cls X.K C) (hp : PropOf X.K C m q g) (F : FnR X.prog X.w X.K X.mg X.base CX k g sp) (hr : Room (k + 1) X.A)
    (hx : ∀ (H : Hp) (s : Shared) (e : Value) (s' : Shared), CX X.stack H s E e s' → False)
    (hab : attributeBase e m X.env (eval e X.env) = eval e X.env := by rfl) : PE X (.Attribute e m pos) (tPrp C sp E ta) := by
  refine ⟨fun pins s σ H Q I h => ?_⟩
  refine attr_of hab (thn (he.run pins s σ H _ I h) fun u s1 ⟨x, H1, I1, rx, a, dx, fs, ex, ea, q⟩ => ?_)
  subst ex
  obtain rfl : u = Value.ref a := rx
  obtain ⟨mA, O, _⟩ := ins_get I1.hok ea
  obtain ⟨od, J, _⟩ := O.look
  obtain ⟨rest, hrec⟩ := hp.rec_
  have hc : (PySem.W.clsIn X.K C).isSome = true := by
    obtain ⟨cd, hc, _⟩ := PySem.W.any_some c.hd
    rw [hc]
    rfl
  have I2 := I1.tok (s1.toks + 1)
  refine PySem.W.get_bind I1.kIn J (PySem.W.plainGet_of (c.get m)).1 (PySem.W.findObj_data hc hp.at_ hp.get hp.tak) (PySem.W.plainGet_of (c.get m)).2 (wpAny_call (PySem.W.prop_get (s := { s1 with toks := s1.toks + 1 }) I1.kIn hrec ?_))
  refine codeAny_mono (F X.A.in1 X.stack { s1 with toks := s1.toks + 1 } H1 [.ref a] [.ref a] Q E hr.in1 I2.env0.in1 (.cons rfl .nil) q) fun r s' hq => ?_
  cases r with
  | error er => exact (hx _ _ _ _ hq).elim
  | ok fl =>
    cases fl with
    | ret u =>
      obtain ⟨v, H', I3, rv, q3⟩ := I2.after hq
      exact wpAny_of_eq (PySem.W.handedOut_of (handed_of rv)) ⟨v, H', I3, rv, q3⟩
    | next => exact False.elim hq
    | brk => exact False.elim hq
    | cont => exact False.elim hq
end
theorem noErr {X : Cx} : ∀ (H : Hp) (s : Shared) (e : Value) (s' : Shared), CX0 X.stack H s E0 e s' → False := fun _ _ _ _ h => h

/-! ### o.m(k = v, ..) -/
/-- a promise by n positional values and the keywords ks, in the order of the parameters -/
def FnK (P : Program) (w : World) (K : PySem.W.Frag) (mg : Str → Option Value) (base : Heap) (CX : CXT) (k : Nat) (f : Addr) (n : Nat) (ks : List Str) (sp : Sp) : Prop :=
  ∀ (A : Around) (outer : List Env) (s : Shared) (H : Hp) (us ws : List Value) (vs : List V) (Q : VK) (E : XK), Room k A → Env0 P w K mg base A outer s H → us.length = n → ws.length = ks.length → Vals vs (us ++ ws) → sp vs H Q E →
    codeAny (model P w) A (.call (.ref f) ⟨us, ks.zip ws⟩) (CR CX outer P w H s Q E) s
section
variable {P : Program} {w : World} {K : PySem.W.Frag} {mg : Str → Option Value} {base : Heap} {CX : CXT} {k : Nat} {f : Addr} {sp : Sp}
theorem fnk_of {fd : FuncData} {ps ks : List Str} {n : Nat} (F : FnOk P w K mg base CX k f fd ps sp) (hb : ∀ (us ws : List Value), us.length = n → ws.length = ks.length → bindArgs fd ⟨us, ks.zip ws⟩ = pure (ps.zip (us ++ ws))) : FnK P w K mg base CX k f n ks sp := by
  intro A outer s H us ws vs Q E hr e0 h1 h2 r hs
  exact F.run A outer s H ⟨us, ks.zip ws⟩ (us ++ ws) vs Q E hr e0 (.of_eq (hb us ws h1 h2)) r hs
/-- from the def: its promise by position, and by some keywords -/
theorem fnrk {x qual : Str} {st : Stmt} {N ps ks : List Str} {n : Nat} (F : FunE K x qual st f) (S : FnScope N ps (defScope st))
    (hk : ∀ (kV doc pm : Value) (an : Option Addr) (cdv ct : Value) (us ws : List Value), us.length = n → ws.length = ks.length → bindArgs (PySem.W.fnOf x qual (defArgs st) (defBody st) (defScope st) .none kV doc pm an cdv ct) ⟨us, ks.zip ws⟩ = pure (ps.zip (us ++ ws)))
    (len : ∀ vs H Q E, sp vs H Q E → vs.length = ps.length)
    (hbody : ∀ (cdv : Value) (A : Around) (outer : List Env) (s : Shared) (H : Hp) (vs : List V) (Q : VK) (E : XK), Room k (A.deeper (envOfC qual (defScope st) s.heap.objs.size f cdv)) → sp vs H Q E →
      ∃ t, PSs (cxOf CX0 P w K mg base N qual (defScope st) f cdv A outer s H E).nox (defBody st) t ∧ t { nx := fun _ H' => Q .non H', rt := Q } (start N vs) H) : FnK P w K mg base CX0 (k + 1) f n ks sp := by
  obtain ⟨fd, F⟩ := F
  obtain ⟨oc, od, kV, doc, pm, an, cdv, ct, osl, e, lk, hcd⟩ := id F.ex
  refine fnk_of (F.ok S len hbody) fun us ws h1 h2 => ?_
  rw [e]
  exact hk kV doc pm an cdv ct us ws h1 h2
end
section
variable {X : Cx} {CX : CXT} {k n : Nat} {f C : Addr} {sp : Sp} {E : XK} {m : Str} {ks : List Str} {o : Expr} {kws : List Keyword} {ta : TE} {t tk : TA} {pos apos : Pos}
theorem run_fnK {pins : List (Addr × Obj)} {σ : L2.St} {H : Hp} {s : Shared} {Q : VK} {us ws : List Value} {vs : List V} (F : FnK X.prog X.w X.K X.mg X.base CX k f n ks sp) (hr : Room k X.A) (hx : Passes CX X E) (I : Inv X pins σ H s)
    (h1 : us.length = n) (h2 : ws.length = ks.length) (r : Vals vs (us ++ ws)) (h : sp vs H Q E) : wpAny (model X.prog X.w) X.A (call (.ref f) us (ks.zip ws)) (EP X pins σ Q) X.xe s := by
  refine wpAny_call (codeAny_mono (F X.A X.stack s H us ws vs Q E hr I.env0 h1 h2 r h) fun r s' hq => ?_)
  cases r with
  | error e => exact hx pins σ H s e s' I hq
  | ok fl =>
    cases fl with
    | ret u => exact I.after hq
    | next => exact False.elim hq
    | brk => exact False.elim hq
    | cont => exact False.elim hq
def tMthK (C : Addr) (m : Str) (ks : List Str) (sp : Sp) (E : XK) (ta : TE) (tk : TA) : TE := fun σ H Q => ta σ H fun x H1 => ∃ a dx fs, x = .ref a ∧ H1 a = some (.ins C dx fs) ∧ fs.lookup m = none ∧ tk σ H1 fun zs H2 => zs.length = ks.length ∧ sp (x :: zs) H2 Q E
theorem pe_mthK {pl : Sem Bool} (he : PE X o ta) (c : Cls X.K C) (hm : Meth X.K C m f) (F : FnK X.prog X.w X.K X.mg X.base CX k f 1 ks sp) (hr : Room k X.A) (hx : Passes CX X E) (hkw : PK X kws tk)
    (hall : (backToKw pos (keywordEach kws X.env)).all (·.1.isSome) = true := by rfl) (hks : (backToKw pos (keywordEach kws X.env)).filterMap (·.1) = ks := by rfl)
    (hpl : ((backTo pos (starEach [] X.env)).any (·.1) || (backToKw pos (keywordEach kws X.env)).any (·.1.isNone)) = false := by rfl)
    (ht : eval (.Call (.Attribute o m apos) [] kws pos) X.env = (do
      let ov ← eval o X.env
      standAt apos.atName
      let (f, first) ← holding [ov] (getMethod ov m pl)
      callWith pos f first (backTo pos (starEach [] X.env)) (backToKw pos (keywordEach kws X.env))) := by rfl) :
    PE X (.Call (.Attribute o m apos) [] kws pos) (tMthK C m ks sp E ta tk) := by
  refine ⟨fun pins s σ H Q I h => ?_⟩
  refine PySem.W.methodCall_KW (pl := pl) (thn (he.run pins s σ H _ I h) fun u s1 ⟨x, H1, I1, rx, a, dx, fs, ex, ea, l, q⟩ => ?_) ht
  subst ex
  obtain rfl : u = Value.ref a := rx
  refine getmeth_ok I1 ea c hm l ?_
  refine PySem.W.callWith_KW0 (first := [.ref a]) (h₀ := X.base) I.ok.mod.kin hm.kp hall (thn (hkw.run pos pins s1 σ H1 _ I1 q) fun ws s2 ⟨zs, H2, I2, rz, l2, q2⟩ => ⟨I2.kIn, ?_⟩) hpl
  rw [hks]
  exact run_fnK (us := [.ref a]) (vs := .ref a :: zs) F hr hx I2 rfl (by rw [← rz.length]; exact l2) (.cons rfl rz) q2
end
end NA

/-! Part C: rules for sequences that the hand layer lacks. -/
namespace NA
open PySem PySem.Spec PyProof.Rows L2

/-! ### x in list, by an own == -/
section
variable {prog : Program} {w : World} {A : Around} {R : Result → Shared → Prop}
open MeetsSeq MeetsSeq2 MeetsSeq3 SeqRoads2 in
open AutoSeq1 (wpAny_loadPart') in
theorem contains_loopG (l : Addr) (x : Value) (N : Nat) (e : Nat → Bool) (I : Shared → Prop)
    (hl : ∀ s, I s → ∃ (items : Array Value) (n : Nat), s.heap.get? l = some { cls := .type "list", data := .seq items n } ∧ items.size = N ∧
      ∀ i (h1 : i < items.size), wpAny (model prog w) A.in1 (eqBool items[i] x) (fun r s' => r = e i ∧ I s') (fun e s' => R (.error e) s') s)
    (fin : ∀ s, I s → R (.ok (.ret (.bool ((List.range N).any e)))) s) (k : Nat) :
    ∀ i : Nat, N - i = k → i ≤ N → (List.range N).any e = ((List.range N).drop i).any e → ∀ s, I s →
      wpAny (model prog w) A.in1 (Builtin.«list.__contains__.loop» ⟨[.ref l, x, rawInt i], []⟩) (GQ.FinOf prog w A R) (fun e s' => R (.error e) s') s := by
  induction k with
  | zero =>
    intro i hk hi he s h
    obtain ⟨items, n, hl1, hs1, _⟩ := hl s h
    have hR := fin s h
    have hi' : i = N := by omega
    have hd : (List.range N).drop i = [] := by simp; omega
    rw [he, hd] at hR
    obtain ⟨hp, g, d, tk, os⟩ := s
    wp_walk using wpAny_loadPart' hl1
    have hi1 : items[((i : Nat) : Int).toNat]? = none := by simp; omega
    rw [hi1]
    wp_walk
    exact hR
  | succ k ih =>
    intro i hk hi he s h
    obtain ⟨items, n, hl1, hs1, turn⟩ := hl s h
    have hlt : i < items.size := by omega
    have ht := turn i hlt
    have hd : (List.range N).drop i = i :: (List.range N).drop (i + 1) := by
      rw [List.drop_eq_getElem_cons (by simp; omega)]
      simp
    obtain ⟨hp, g, d, tk, os⟩ := s
    wp_walk using wpAny_loadPart' hl1
    have hi1 : items[((i : Nat) : Int).toNat]? = some items[i] := by simp [hlt]
    have hc : ((i : Int) + 1) = ((i + 1 : Nat) : Int) := by omega
    rw [hi1]
    refine wpAny_bind (wpAny_mono ht (fun r s2 h2 => ?_) fun _ _ x => x)
    obtain ⟨hr, h2⟩ := h2
    have hR := fin s2 h2
    rw [he, hd, List.any_cons] at hR
    rw [hd, List.any_cons] at he
    cases hb : e i with
    | true =>
      rw [hb] at hR hr
      subst hr
      obtain ⟨hp2, g2, d2, tk2, os2⟩ := s2
      wp_walk
      exact hR
    | false =>
      rw [hb] at he hr
      subst hr
      have hrec := ih (i + 1) (by omega) (by omega) (by simpa using he) s2 h2
      obtain ⟨hp2, g2, d2, tk2, os2⟩ := s2
      wp_walk
      rw [hc]
      exact ⟨plainId_quiet plain_contains_loop _, codeAny_builtin entry_contains_loop (by
        rw [Around.under_plainId plain_contains_loop _]
        exact hrec)⟩
end
section
variable {prog : Program} {w : World} {A : Around} {E : Value → Shared → Prop} {s : Shared}
open MeetsSeq MeetsSeq2 MeetsSeq3 SeqRoads2 in
open AutoSeq1 (wpAny_loadPart') in
theorem contains_listG {l : Addr} {x : Value} {N : Nat} {Q : Bool → Shared → Prop} (e : Nat → Bool) (I : Shared → Prop)
    (hl : ∀ s, I s → ∃ (items : Array Value) (n : Nat), s.heap.get? l = some { cls := .type "list", data := .seq items n } ∧ items.size = N ∧
      ∀ i (h1 : i < items.size), wpAny (model prog w) A.in1 (eqBool items[i] x) (fun r s' => r = e i ∧ I s') E s)
    (h : I s) (fin : ∀ s', I s' → Q ((List.range N).any e) s') : wpAny (model prog w) A (contains (.ref l) x) Q E s := by
  obtain ⟨items, n, hl1, hs1, _⟩ := hl s h
  refine wpAny_contains_slot ⟨_, hl1, rfl⟩ F.slot_list_contains (GQ.call_here F.slot_list_contains ⟨_, hl1, rfl⟩ F.entry_list_contains (F.args_list_contains_2 _ _) ?_)
  have hloop := contains_loopG (R := wants (fun r s' => wpAny (model prog w) A (truthy r) Q E s') E) (A := A) l x N e I hl (fun s' hs => wpAny_truthy_bool (fin s' hs)) _ 0 rfl (Nat.zero_le _) (by simp) s h
  obtain ⟨hp, g, d, tk, os⟩ := s
  wp_walk using wpAny_loadPart' hl1
  exact ⟨plainId_quiet plain_contains_loop _, codeAny_builtin entry_contains_loop (by
    rw [Around.under_plainId plain_contains_loop _]
    exact hloop)⟩
end
section
variable {X : Cx} {CX : CXT} {C f : Addr} {n : Nat} {sp : Sp} {E : XK}
/-- a in l: instances of the class at C, by their own ==; e i: what == says of the i-th, G: what stands meanwhile -/
def rInL (C : Addr) (sp : Sp) (E : XK) (neg : Bool) : R2 := fun x y H Q => ∃ (l : Addr) (bs : List Addr) (a : Addr) (e : Nat → Bool) (G : Hp → Prop), x = .ref a ∧ y = .ref l ∧ G H ∧
  (∀ H', G H' → H' l = some (.lst (bs.map V.ref)) ∧ (∃ dx fs, H' a = some (.ins C dx fs)) ∧ ∀ i b, bs[i]? = some b → (∃ dx fs, H' b = some (.ins C dx fs)) ∧ (b = a → e i = true) ∧ sp [.ref b, .ref a] H' (fun v H2 => v = .bl (e i) ∧ G H2) E) ∧
  ∀ H', G H' → Q (.bl (if neg then !(List.range bs.length).any e else (List.range bs.length).any e)) H'
theorem eq_in {A : Around} {pins : List (Addr × Obj)} {σ : L2.St} {H : Hp} {s : Shared} {a b : Addr} {r : Bool} {G : Hp → Prop} (S : Spc X.K C "__eq__" f) (F : FnR X.prog X.w X.K X.mg X.base CX n f sp) (hr : Room n A) (fr : A.frames = X.A.frames) (hx : Passes CX X E) (I : Inv X pins σ H s)
    (hb : ∃ dx fs, H b = some (.ins C dx fs)) (ha : ∃ dx fs, H a = some (.ins C dx fs)) (hab : b = a → r = true) (g : G H) (h : sp [.ref b, .ref a] H (fun v H2 => v = .bl r ∧ G H2) E) :
    wpAny (model X.prog X.w) A (eqBool (.ref b) (.ref a)) (fun r' s' => r' = r ∧ ∃ H', Inv X pins σ H' s' ∧ G H') X.xe s := by
  by_cases e : b = a
  · have er := hab e
    subst e er
    exact SeqAt.EqAt.same (A := A) (s := s) (.ref b) X.prog X.w X.xe _ ⟨rfl, H, I, g⟩
  · obtain ⟨dx, fs, hb⟩ := hb
    obtain ⟨dy, gs, ha⟩ := ha
    obtain ⟨od, J⟩ := inst_of I hb
    obtain ⟨od', J'⟩ := inst_of I ha
    obtain ⟨m, hF⟩ := I.fr
    refine GQ.eqBool_refG e (PySem.W.cmp_K (op := .Eq) (tb := .ref C) hr.units0 hF I.ok.mod.kin J J'.type notFirst_self S.at_ S.fn ?_)
    refine wpAny_mono (run_sub (vs := [.ref b, .ref a]) F hr fr hx I (.cons rfl (.cons rfl .nil)) h) (fun w s' z => ?_) fun _ _ x => x
    obtain ⟨z', H', I', rz, rfl, qz⟩ := z
    cases (show w = Value.bool r from rz)
    exact ⟨r, rfl, rfl, H', I', qz⟩
theorem in_run {pins : List (Addr × Obj)} {σ : L2.St} {H : Hp} {s : Shared} {l a : Addr} {bs : List Addr} {e : Nat → Bool} {G : Hp → Prop} {Q : Bool → Shared → Prop} (S : Spc X.K C "__eq__" f) (F : FnR X.prog X.w X.K X.mg X.base CX n f sp) (hr : Room (n + 1) X.A) (hx : Passes CX X E) (I : Inv X pins σ H s) (g : G H)
    (h : ∀ H', G H' → H' l = some (.lst (bs.map V.ref)) ∧ (∃ dx fs, H' a = some (.ins C dx fs)) ∧ ∀ i b, bs[i]? = some b → (∃ dx fs, H' b = some (.ins C dx fs)) ∧ (b = a → e i = true) ∧ sp [.ref b, .ref a] H' (fun v H2 => v = .bl (e i) ∧ G H2) E)
    (fin : ∀ H' s', Inv X pins σ H' s' → G H' → Q ((List.range bs.length).any e) s') : wpAny (model X.prog X.w) X.A (contains (.ref l) (.ref a)) Q X.xe s := by
  refine contains_listG (N := bs.length) e (fun s' => ∃ H', Inv X pins σ H' s' ∧ G H') (fun s' ⟨H', I', g'⟩ => ?_) ⟨H, I, g⟩ (fun s' ⟨H', I', g'⟩ => fin H' s' I' g')
  obtain ⟨h1, h2, h3⟩ := h H' g'
  obtain ⟨z, its, k, r, e1⟩ := I'.hok l _ h1
  have el : its.length = bs.length := by rw [← r.length, List.length_map]
  refine ⟨its.toArray, k, e1, by rw [List.size_toArray, el], fun i hi => ?_⟩
  have hi' : i < bs.length := by rw [← el]; simpa using hi
  have hb : bs[i]? = some bs[i] := List.getElem?_eq_getElem hi'
  obtain ⟨u, hu, ru⟩ := r.get (i := i) (x := V.ref bs[i]) (by rw [List.getElem?_map, hb] <;> rfl)
  have hg : its.toArray[i] = Value.ref bs[i] := by
    have h1 : its[i]? = some its.toArray[i] := by
      have : i < its.length := by simpa using hi
      rw [List.getElem?_eq_getElem this] <;> simp
    rw [h1] at hu
    rw [Option.some.inj hu]
    exact ru
  rw [hg]
  obtain ⟨q1, q2, q3⟩ := h3 i _ hb
  exact eq_in S F hr.in1 rfl hx I' q1 h2 q2 g' q3
theorem op_inL (S : Spc X.K C "__eq__" f) (F : FnR X.prog X.w X.K X.mg X.base CX n f sp) (hr : Room (n + 1) X.A) (hx : Passes CX X E) : OpR X (compareOp .In) (rInL C sp E false) := by
  intro pins s σ H x y v u Q I rx ry h
  obtain ⟨l, bs, a, e, G, rfl, rfl, g, h, q⟩ := h
  cases (show v = Value.ref a from rx)
  cases (show u = Value.ref l from ry)
  exact wpAny_bind (in_run S F hr hx I g h fun H' s' I' g' => wpAny_pure ⟨.bl _, H', I', rfl, q H' g'⟩)
theorem op_notInL (S : Spc X.K C "__eq__" f) (F : FnR X.prog X.w X.K X.mg X.base CX n f sp) (hr : Room (n + 1) X.A) (hx : Passes CX X E) : OpR X (compareOp .NotIn) (rInL C sp E true) := by
  intro pins s σ H x y v u Q I rx ry h
  obtain ⟨l, bs, a, e, G, rfl, rfl, g, h, q⟩ := h
  cases (show v = Value.ref a from rx)
  cases (show u = Value.ref l from ry)
  exact wpAny_bind (in_run S F hr hx I g h fun H' s' I' g' => wpAny_pure ⟨.bl _, H', I', rfl, q H' g'⟩)
end

/-! ### the order of tuples of texts -/
def nLt : List Str → List Str → Bool
  | [], [] => false
  | [], _ :: _ => true
  | _ :: _, [] => false
  | a :: as, b :: bs => if a = b then nLt as bs else decide (a.cps.toList < b.cps.toList)
theorem alike_strs : ∀ ns ms : List Str, PySem.W.alikeAll (ns.map PyData.str) (ms.map PyData.str) = true
  | [], _ => by simp [PySem.W.alikeAll]
  | _ :: _, [] => by simp [PySem.W.alikeAll]
  | a :: as, b :: bs => by simp [PySem.W.alikeAll, PySem.W.alike, alike_strs as bs]
theorem eqv_str (a b : Str) : PyData.eqv (.str a) (.str b) = decide (a = b) := by
  rw [PyData.eqv]
  by_cases h : a = b
  · subst h; simp
  · rw [decide_eq_false h]; simpa using h
theorem lt_nil : PyProof.Rows.lexLt PyProof.Rows.itemOrd (PySem.W.keyToksAll []) (PySem.W.keyToksAll []) = false := by decide +kernel
theorem nLt_data : ∀ ns ms : List Str, PyProof.Rows.lexLt PyProof.Rows.itemOrd (PySem.W.keyToksAll (ns.map PyData.str)) (PySem.W.keyToksAll (ms.map PyData.str)) = nLt ns ms
  | [], [] => lt_nil
  | [], b :: bs => by
    simp only [List.map_nil, List.map_cons]
    rw [PySem.W.toks_all_cons]
    simp [PySem.W.keyToksAll, PyProof.Rows.lexLt, PyProof.Rows.itemLt, nLt]
  | a :: as, [] => by
    simp only [List.map_nil, List.map_cons]
    rw [PySem.W.toks_all_cons]
    simp [PySem.W.keyToksAll, PyProof.Rows.lexLt, PyProof.Rows.itemLt, nLt]
  | a :: as, b :: bs => by
    simp only [List.map_cons]
    have al : PySem.W.alike (.str a) (.str b) = true := by simp [PySem.W.alike]
    by_cases h : a = b
    · rw [PySem.W.dataLt_all_yes al (by rw [eqv_str]; exact decide_eq_true h), nLt_data as bs]
      show _ = if a = b then nLt as bs else _
      rw [if_pos h]
    · rw [PySem.W.dataLt_all_no al (by rw [eqv_str]; exact decide_eq_false h), PySem.W.dataLt_str]
      show _ = if a = b then nLt as bs else _
      rw [if_neg h]
theorem depth_strs : ∀ ns : List Str, PyData.depthAll (ns.map PyData.str) ≤ 1
  | [] => by simp [PyData.depthAll]
  | a :: as => by
    have := depth_strs as
    simp only [List.map_cons, PyData.depthAll, PyData.depth]
    omega
theorem dp_strs {K : PySem.W.Frag} {H : Hp} : ∀ ns : List Str, DpAll K H (ns.map V.str) (ns.map PyData.str)
  | [] => .nil
  | a :: as => .cons (.str a) (dp_strs as)
theorem op_ltS {X : Cx} (hu : X.A.units + 64 < cLine) : OpR X (compareOp .Lt) (fun x y H Q => ∃ a b ns ms, x = .ref a ∧ y = .ref b ∧ SqT X.K H a (ns.map V.str) ∧ SqT X.K H b (ms.map V.str) ∧ Q (.bl (nLt ns ms)) H) := by
  intro pins s σ H x y v u Q I rx ry h
  obtain ⟨a, b, ns, ms, rfl, rfl, ha, hb, q⟩ := h
  obtain ⟨as, r1⟩ := Dp.reads I _ _ v (Dp.tup ha (dp_strs ns)) rx
  obtain ⟨bs, r2⟩ := Dp.reads I _ _ u (Dp.tup hb (dp_strs ms)) ry
  have hd : (PyData.tuple (ns.map PyData.str)).depth ≤ 2 := by
    have := depth_strs ns
    simp only [PyData.depth]
    omega
  have z := PySem.W.rcLt_alike _ _ X.A s v u as bs r1 r2 (by simp [PySem.W.alike, alike_strs]) (fun z => nomatch z) (by omega)
  rw [PySem.W.dataLt_tuple, nLt_data] at z
  exact z X.prog X.w X.xe _ ⟨.bl _, H, I, rfl, q⟩

/-! ### how often a truth value stands in a list of truth values -/
theorem vals_bls : ∀ {bs : List Bool} {its : List Value}, Vals (bs.map V.bl) its → its = bs.map Value.bool
  | [], _, .nil => rfl
  | b :: bs, _, .cons r t => by
    have := vals_bls (bs := bs) t
    rw [this, (show _ = Value.bool b from r)] <;> rfl
def eqB (k : Bool) : Value → Bool
  | .bool b => b == k
  | _ => false
theorem eqB_at {A : Around} {s : Shared} (k b : Bool) : SeqAt.EqAt A s (.bool b) (.bool k) (b == k) := by
  have q := eqAt_V (A := A) (s := s) (y := .bl b) (x := .bl k) (u := .bool b) (v := .bool k) rfl rfl rfl rfl
  have e : eqV (V.bl b) (V.bl k) = (b == k) := by cases b <;> cases k <;> rfl
  rw [e] at q
  exact q
theorem countB : ∀ (k : Bool) (bs : List Bool), (bs.map Value.bool).countP (eqB k) = bs.count k
  | k, [] => rfl
  | k, b :: bs => by
    rw [List.map_cons, List.countP_cons, countB k bs, List.count_cons]
    rfl
theorem mt_countB {X : Cx} : MtR X "list.count" (fun x xs H Q => ∃ (p : Addr) (bs : List Bool) (k : Bool), x = .ref p ∧ xs = [.bl k] ∧ SqL X.K H p (bs.map V.bl) ∧ Q (.int (bs.count k : Nat)) H) := by
  intro pins s σ H x xs v us Q I rx rxs h
  obtain ⟨p, bs, k, rfl, rfl, hs, q⟩ := h
  cases rx
  obtain ⟨u, rfl, ru⟩ := rxs.one
  cases (show u = Value.bool k from ru)
  obtain ⟨its, rv, ⟨⟨cls, dd, data, sl⟩, n, ho, hc, hdn, hd⟩, hlen⟩ := I.list hs
  simp only at hc hd
  subst hc hd
  have hi := vals_bls rv
  subst hi
  refine call_meets PySem.F.slot_list_count ⟨_, ho, rfl⟩ PySem.F.entry_list_count (PySem.F.args_list_count_2 _ _)
    (SeqAt.list_countAt p (bs.map Value.bool).toArray n dd sl (.bool k) (eqB k)) ⟨ho, fun y hy => ?_, ?_⟩
  · obtain ⟨b, _, rfl⟩ := List.mem_map.mp (by simpa using hy : y ∈ bs.map Value.bool)
    exact eqB_at k b
  · have ec : (bs.map Value.bool).toArray.toList.countP (eqB k) = bs.count k := countB k bs
    refine ⟨.int (bs.count k : Nat), H, I.tok _, ⟨s.toks, ?_⟩, q⟩
    show Value.int (((bs.map Value.bool).toArray.toList.countP (eqB k) : Nat) : Int) s.toks = Value.int ((bs.count k : Nat) : Int) s.toks
    rw [ec]
end NA

/-! Part D: heaps that grow, comprehensions by what each turn gives. -/
namespace NA
open PySem PySem.Spec PyProof.Rows L2

theorem Same.new {H : Hp} {p : Addr} {o : HO} (h : H p = none) : Same H (upd H p o) := fun a u e => by
  rw [upd_ne (ne_of_none e h)]
  exact e
theorem Same.mut {H H' : Hp} {p : Addr} {o : HO} (e : Same H H') (h : H p = none) : Same H (upd H' p o) := fun a u ha => by
  rw [upd_ne (ne_of_none ha h)]
  exact e a u ha
theorem Same.rd {H H' : Hp} {a : Addr} {u : HO} (e : Same H H') (h : Rd H a u) : Rd H' a u := by
  rcases h with h | ⟨o, h⟩
  · exact Or.inl (e a _ h)
  · exact Or.inr ⟨o, e a _ h⟩
theorem Same.tup {K : PySem.W.Frag} {H H' : Hp} {a : Addr} {xs : List V} (e : Same H H') (h : SqT K H a xs) : SqT K H' a xs := by
  rcases h with h | h
  · exact Or.inl (Same.rd e h)
  · exact Or.inr h
/-- all but the object at p is as it was -/
def Sam (p : Addr) (H H' : Hp) : Prop := ∀ a o, a ≠ p → H a = some o → H' a = some o
theorem Sam.refl {p : Addr} (H : Hp) : Sam p H H := fun _ _ _ h => h
theorem Sam.of {p : Addr} {H H' : Hp} (e : Same H H') : Sam p H H' := fun a o _ h => e a o h
theorem Sam.trans {p : Addr} {H H1 H2 : Hp} (a : Sam p H H1) (b : Sam p H1 H2) : Sam p H H2 := fun c o n h => b c o n (a c o n h)
theorem Sam.upd {p : Addr} {H H' : Hp} {o : HO} (e : Sam p H H') : Sam p H (L2.upd H' p o) := fun a u n h => by
  rw [upd_ne n]
  exact e a u n h
theorem Sam.new {p q : Addr} {H H' : Hp} {o : HO} (e : Sam p H H') (h : H' q = none) : Sam p H (L2.upd H' q o) := fun a u n ha => by
  rw [upd_ne (ne_of_none (e a u n ha) h)]
  exact e a u n ha
theorem Sam.mut {p q : Addr} {H H' : Hp} {o : HO} (e : Sam p H H') (h : H q = none) : Sam p H (L2.upd H' q o) := fun a u n ha => by
  rw [upd_ne (ne_of_none ha h)]
  exact e a u n ha

/-- a comprehension that only makes things: turn i is kept if b i, and gives what R i tells -/
theorem lc_flt {J : It} {n : Nat} {G : Hp → Prop} {Y : Nat → Hp → V → Hp → Prop} (w : Walk J n G Y) (R : Nat → V → Hp → Prop) (b : Nat → Bool) {g : TG} {tt : TT} {te : TE} {vs : List Nat} {σ : L2.St} {H1 : Hp} {D : Addr} {Qd : Hp → Prop} (hD : H1 D = none)
    (mono : ∀ i v H H' ys, H D = some (.lst ys) → Sam D H H' → R i v H → R i v H') (hG : ∀ H, Same H1 H → G H) (hn : n < sizeLine)
    (hs : ∀ i x H H', i < n → Same H1 H → Y i H x H' → Same H H' ∧ g x (wipe σ vs) H' fun σ2 H2 => wipe σ2 vs = wipe σ vs ∧ Same H' H2 ∧
      ∀ Q : Bool → Hp → Prop, (∀ H3, Same H2 H3 → (b i = true → ∀ Q' : VK, (∀ v H4, Same H3 H4 → R i v H4 → Q' v H4) → te σ2 H3 Q') → Q (b i) H3) → tt σ2 H2 Q)
    (hg : ∀ x σ' H' (Q Q' : L2.St → Hp → Prop), (∀ σ2 H2, Q σ2 H2 → Q' σ2 H2) → g x σ' H' Q → g x σ' H' Q')
    (hd : ∀ H ys, Same H1 H → H D = some (.lst ys) → ys.length = ((List.range n).filter b).length → (∀ (j i : Nat) v, ((List.range n).filter b)[j]? = some i → ys[j]? = some v → R i v H) → Qd H) :
    ∃ W : Nat → Nat → Hp → Prop, (∃ m, W 0 m (upd H1 D (.lst []))) ∧ ∀ i m H, W i m H →
      (J.stop i H ∧ Qd H) ∨ (J.go i H ∧ ∃ Nx : Hp → Prop, (∀ H', Nx H' → ∃ m', m' < m ∧ W (i + 1) m' H') ∧ ∀ x H', J.yld i H x H' → g x (wipe σ vs) H' fun σ2 H2 => wipe σ2 vs = wipe σ vs ∧ tt σ2 H2 fun b H3 =>
        if b = true then te σ2 H3 fun y H4 => ∃ acc, H4 D = some (.lst acc) ∧ acc.length < sizeLine ∧ Nx (upd H4 D (.lst (acc ++ [y]))) else Nx H3) := by
  refine lc_it w (fun i H => Same H1 H ∧ ∃ ys, H D = some (.lst ys) ∧ ys.length = ((List.range i).filter b).length ∧ ∀ (j k : Nat) v, ((List.range i).filter b)[j]? = some k → ys[j]? = some v → R k v H)
    ⟨Same.new hD, [], upd_same, rfl, fun j k v h1 h2 => by simp at h2⟩ (fun i H _ p => hG H p.1) (fun i x H H' hi p y => ?_) (fun H p => ?_)
  · obtain ⟨s1, ys, e1, e2, e3⟩ := p
    obtain ⟨s2, k⟩ := hs i x H H' hi s1 y
    refine hg x _ H' _ _ (fun σ2 H2 q => ?_) k
    obtain ⟨q1, q2, q3⟩ := q
    refine ⟨q1, q3 _ fun H3 s3 kk => ?_⟩
    have s13 : Same H1 H3 := (s1.trans s2).trans (q2.trans s3)
    have sH3 : Same H H3 := s2.trans (q2.trans s3)
    have hl : ((List.range i).filter b).length ≤ i := by
      have h := List.length_filter_le b (List.range i)
      rw [List.length_range] at h
      exact h
    cases hb : b i with
    | true =>
      rw [if_pos rfl]
      refine kk hb _ fun v H4 s4 r => ⟨ys, s4 _ _ (sH3 _ _ e1), by omega, Same.mut (s13.trans s4) hD, _, upd_same, ?_, ?_⟩
      · rw [List.range_succ, List.filter_append, List.length_append, List.length_append, e2]
        simp [hb]
      · intro j m v' h1 h2
        have hD4 : H4 D = some (.lst ys) := s4 _ _ (sH3 _ _ e1)
        have eF : (List.range (i + 1)).filter b = (List.range i).filter b ++ [i] := by
          rw [List.range_succ, List.filter_append]
          simp [hb]
        rw [eF] at h1
        by_cases hj : j < ys.length
        · rw [List.getElem?_append_left (by omega)] at h1
          rw [List.getElem?_append_left hj] at h2
          exact mono m v' H _ ys e1 (Sam.upd (Sam.of (sH3.trans s4))) (e3 j m v' h1 h2)
        · have hj2 : j = ys.length := by
            have := (List.getElem?_eq_some_iff.mp h2).1
            rw [List.length_append, List.length_singleton] at this
            omega
          rw [List.getElem?_append_right (by omega)] at h1 h2
          have z1 : j - ((List.range i).filter b).length = 0 := by omega
          have z2 : j - ys.length = 0 := by omega
          rw [z1] at h1
          rw [z2] at h2
          have hm : i = m := by simpa using h1
          have hv : v = v' := by simpa using h2
          subst hm hv
          exact mono _ _ _ _ ys hD4 (Sam.upd (Sam.refl H4)) r
    | false =>
      rw [if_neg (by decide)]
      have eF : (List.range (i + 1)).filter b = (List.range i).filter b := by
        rw [List.range_succ, List.filter_append]
        simp [hb]
      refine ⟨s13, ys, sH3 _ _ e1, by rw [eF]; exact e2, ?_⟩
      rw [eF]
      exact fun j m v' h1 h2 => mono m v' H H3 ys e1 (Sam.of sH3) (e3 j m v' h1 h2)
  · obtain ⟨s1, ys, e1, e2, e3⟩ := p
    exact hd H ys s1 e1 e2 e3
/-- .. each turn kept -/
theorem lc_all {J : It} {n : Nat} {G : Hp → Prop} {Y : Nat → Hp → V → Hp → Prop} (w : Walk J n G Y) (R : Nat → V → Hp → Prop) {g : TG} {te : TE} {vs : List Nat} {σ : L2.St} {H1 : Hp} {D : Addr} {Qd : Hp → Prop} (hD : H1 D = none)
    (mono : ∀ i v H H' ys, H D = some (.lst ys) → Sam D H H' → R i v H → R i v H') (hG : ∀ H, Same H1 H → G H) (hn : n < sizeLine)
    (hs : ∀ i x H H', i < n → Same H1 H → Y i H x H' → Same H H' ∧ g x (wipe σ vs) H' fun σ2 H2 => wipe σ2 vs = wipe σ vs ∧ Same H' H2 ∧ ∀ Q' : VK, (∀ v H4, Same H2 H4 → R i v H4 → Q' v H4) → te σ2 H2 Q')
    (hg : ∀ x σ' H' (Q Q' : L2.St → Hp → Prop), (∀ σ2 H2, Q σ2 H2 → Q' σ2 H2) → g x σ' H' Q → g x σ' H' Q')
    (hd : ∀ H ys, Same H1 H → H D = some (.lst ys) → ys.length = n → (∀ (i : Nat) v, ys[i]? = some v → R i v H) → Qd H) :
    ∃ W : Nat → Nat → Hp → Prop, (∃ m, W 0 m (upd H1 D (.lst []))) ∧ ∀ i m H, W i m H →
      (J.stop i H ∧ Qd H) ∨ (J.go i H ∧ ∃ Nx : Hp → Prop, (∀ H', Nx H' → ∃ m', m' < m ∧ W (i + 1) m' H') ∧ ∀ x H', J.yld i H x H' → g x (wipe σ vs) H' fun σ2 H2 => wipe σ2 vs = wipe σ vs ∧ tYes σ2 H2 fun b H3 =>
        if b = true then te σ2 H3 fun y H4 => ∃ acc, H4 D = some (.lst acc) ∧ acc.length < sizeLine ∧ Nx (upd H4 D (.lst (acc ++ [y]))) else Nx H3) := by
  have ef : (List.range n).filter (fun _ => true) = List.range n := by simp
  refine lc_flt w R (fun _ => true) hD mono hG hn (fun i x H H' hi s y => ?_) hg (fun H ys s e1 e2 e3 => ?_)
  · obtain ⟨s2, k⟩ := hs i x H H' hi s y
    refine ⟨s2, hg x _ H' _ _ (fun σ2 H2 q => ?_) k⟩
    obtain ⟨q1, q2, q3⟩ := q
    exact ⟨q1, q2, fun Q hQ => hQ H2 (Same.refl H2) fun _ => q3⟩
  · rw [ef] at e2 e3
    have hl : ys.length = n := by rw [e2, List.length_range]
    refine hd H ys s e1 hl fun i v h => e3 i i v ?_ h
    have := (List.getElem?_eq_some_iff.mp h).1
    rw [List.getElem?_range (by omega)]
theorem g_name_mono {i : Nat} : ∀ x σ' H' (Q Q' : L2.St → Hp → Prop), (∀ σ2 H2, Q σ2 H2 → Q' σ2 H2) → gName i x σ' H' Q → gName i x σ' H' Q' := fun _ _ _ _ _ h q => h _ _ q
/-- the new list is told by a function -/
theorem list_fn {n : Nat} {f : Nat → V} {ys : List V} (hl : ys.length = n) (h : ∀ (i : Nat) v, ys[i]? = some v → v = f i) : ys = (List.range n).map f := by
  apply List.ext_getElem?
  intro i
  by_cases hi : i < n
  · have : ys[i]? = some ys[i] := List.getElem?_eq_getElem (by omega)
    rw [this, List.getElem?_map, List.getElem?_range hi]
    exact congrArg some (h i _ this)
  · rw [List.getElem?_eq_none (by omega), List.getElem?_eq_none (by simp; omega)]
theorem range_getD {α : Type} (l : List α) (d : α) : (List.range l.length).map (fun i => l.getD i d) = l := by
  apply List.ext_getElem?
  intro i
  by_cases hi : i < l.length
  · rw [List.getElem?_map, List.getElem?_range hi, List.getElem?_eq_getElem hi]
    simp [List.getD_eq_getElem?_getD, List.getElem?_eq_getElem hi]
  · rw [List.getElem?_eq_none (by simp; omega), List.getElem?_eq_none (by omega)]
theorem range_map {α β : Type} (l : List α) (d : α) (f : α → β) : (List.range l.length).map (fun i => f (l.getD i d)) = l.map f := by
  have h := congrArg (List.map f) (range_getD l d)
  rw [List.map_map] at h
  exact h
/-- a if c else b, both written -/
theorem ite_c {a b : V} {c : Bool} {K : VK} {σ : L2.St} {H : Hp} (h : K (if c = true then a else b) H) : if c = true then tC a σ H K else tC b σ H K := by
  cases c
  · exact h
  · exact h
theorem iteT' {c : Bool} {A B : Prop} (e : c = true) (h : A) : if c = true then A else B := by rw [if_pos e]; exact h
theorem iteF' {c : Bool} {A B : Prop} (e : c = false) (h : B) : if c = true then A else B := by rw [e, if_neg (by decide)]; exact h
theorem sz {n : Nat} (h : n ≤ 1000000) : n ≤ sizeLine := Nat.le_trans h (by decide)
theorem szl {n : Nat} (h : n ≤ 1000000) : n < sizeLine := Nat.lt_of_le_of_lt h (by decide)
end NA

/-! Part E: tuples of texts, at the level of values. -/
namespace NA
open PySem PySem.Spec PyProof.Rows L2
abbrev Oks (ns : List Str) : Prop := ∀ n ∈ ns, PyData.strOk n = true
theorem canLay_strs : ∀ ns : List Str, Oks ns → PyData.canLayAll0 (ns.map PyData.str) = true
  | [], _ => by simp [PyData.canLayAll0]
  | a :: as, h => by
    simp only [List.map_cons, PyData.canLayAll0, PyData.canLay0, canLay_strs as fun n hn => h n (List.mem_cons_of_mem _ hn), h a (List.mem_cons_self ..), Bool.and_self]
theorem shaped_strs {ns : List Str} (h : Oks ns) : SeqAt.shaped (.tuple (ns.map PyData.str)) = true := by
  unfold SeqAt.shaped
  have := depth_strs ns
  rw [Bool.and_eq_true]
  exact ⟨by rw [PyData.canLay0]; exact canLay_strs ns h, decide_eq_true (by rw [PyData.depth]; omega)⟩
theorem eqvAll_strs : ∀ ns ms : List Str, PyData.eqvAll (ns.map PyData.str) (ms.map PyData.str) = decide (ns = ms)
  | [], [] => by simp [PyData.eqvAll]
  | [], _ :: _ => by simp [PyData.eqvAll]
  | _ :: _, [] => by simp [PyData.eqvAll]
  | a :: as, b :: bs => by
    simp only [List.map_cons, PyData.eqvAll, eqv_str, eqvAll_strs as bs]
    by_cases h1 : a = b <;> by_cases h2 : as = bs <;> simp [h1, h2]
theorem eqv_strs (ns ms : List Str) : PyData.eqv (.tuple (ns.map PyData.str)) (.tuple (ms.map PyData.str)) = decide (ns = ms) := by
  rw [PyData.eqv, eqvAll_strs]
section
variable {K : PySem.W.Frag} {H : Hp} {p q : Addr} {ns ms : List Str} {xs : List V} {Q : VK}
theorem c_eqT (o1 : Oks ns) (o2 : Oks ms) (hp : SqT K H p (ns.map V.str)) (hq : SqT K H q (ms.map V.str)) (k : Q (.bl (decide (ns = ms))) H) : rEqD K (.ref p) (.ref q) H Q :=
  ⟨_, _, .tup hp (dp_strs ns), .tup hq (dp_strs ms), shaped_strs o1, shaped_strs o2, by rw [eqv_strs]; exact k⟩
theorem c_neT (o1 : Oks ns) (o2 : Oks ms) (hp : SqT K H p (ns.map V.str)) (hq : SqT K H q (ms.map V.str)) (k : Q (.bl (!decide (ns = ms))) H) : rNeD K (.ref p) (.ref q) H Q :=
  ⟨_, _, .tup hp (dp_strs ns), .tup hq (dp_strs ms), shaped_strs o1, shaped_strs o2, by rw [eqv_strs]; exact k⟩
/-- t[:k], t[:-1] -/
theorem c_slT {k : Nat} (h : SqT K H p xs) (hk : k ≤ xs.length) (q : ∀ r H', Same H H' → SqT K H' r (xs.take k) → Q (.ref r) H') : rSlA K (.ref p) none (some (k : Int)) H Q := by
  have e : HT.sIx xs.length xs.length (some (k : Int)) = k := by rw [HT.sIx_nat, Nat.min_eq_left hk]
  refine ⟨p, xs, rfl, h, fun hw => ?_, fun _ r hr => ?_⟩
  · rw [e] at hw
    refine q p H (Same.refl H) ?_
    rw [hw.2, List.take_length]
    exact h
  · refine q r _ (Same.new hr) (SqT.of ?_)
    rw [upd_same]
    unfold cutV
    rw [e, HT.sIx_none, List.drop_zero, Nat.sub_zero]
theorem c_slT1 (h : SqT K H p xs) (hk : xs ≠ []) (q : ∀ r H', Same H H' → SqT K H' r xs.dropLast → Q (.ref r) H') : rSlA K (.ref p) none (some (-1)) H Q := by
  have hl : 0 < xs.length := List.length_pos_iff.mpr hk
  have e : HT.sIx xs.length xs.length (some (-1)) = xs.length - 1 := by
    show (if (-1 : Int) < 0 then ((-1 : Int) + (xs.length : Int)).toNat else min (-1 : Int).toNat xs.length) = _
    rw [if_pos (by decide)]; omega
  refine ⟨p, xs, rfl, h, fun hw => ?_, fun _ r hr => ?_⟩
  · rw [e] at hw; omega
  · refine q r _ (Same.new hr) (SqT.of ?_)
    rw [upd_same]
    unfold cutV
    rw [e, HT.sIx_none, List.drop_zero, Nat.sub_zero, List.dropLast_eq_take]
end
/-- a statement, then the rest, with a word between them -/
def tJn (t u : TS) : TS := fun D σ H => ∃ Mid : L2.St → Hp → Prop, t { D with nx := Mid } σ H ∧ ∀ σ' H', Mid σ' H' → u D σ' H'
theorem pss_jn {X : Cx} {st : Stmt} {rest : List Stmt} {t u : TS} (h1 : PS X st t) (h2 : PSs X rest u) : PSs X (st :: rest) (tJn t u) := by
  refine ⟨fun pins s σ H D I h => ?_⟩
  obtain ⟨Mid, hm, hu⟩ := h
  refine wpAny_execs_cons (thn (h1.run pins s σ H { D with nx := Mid } I hm) fun f s1 q => ?_)
  cases f with
  | next =>
    obtain ⟨σ', H', I', q⟩ := q
    exact h2.run pins s1 σ' H' D I' (hu σ' H' q)
  | ret v => exact q
  | brk => exact q
  | cont => exact q
section
variable {te : TE} {u : TS} {D : Ends} {σ : L2.St} {H : Hp} {i : Nat}
theorem q_set (h : te σ H fun v H1 => u D (σ.set i (some v)) H1) : tSeq (tAsg te (gName i)) u D σ H := h
theorem s_set (h : te σ H fun v H1 => D.nx (σ.set i (some v)) H1) : tAsg te (gName i) D σ H := h
theorem s_ret (h : te σ H D.rt) : tRet te D σ H := h
end
end NA

/-! Part F: own errors over ValueError whose __init__ says super().__init__(text), then self.f = p. -/
namespace NA
open PySem PySem.Spec PyProof.Rows L2
abbrev erFd (qual : Str) (params : Arguments) (body : List Stmt) (scope : Scope) (cc : Addr) (kV doc pm : Value) (an : Option Addr) (cdv ct : Value) : FuncData :=
  { PySem.W.fnOf "__init__" qual params body scope .none kV doc pm an cdv ct with closure := [("__class__", cc)] }
/-- the text of such an __init__ -/
def ErT (body : List Stmt) (txt f par : Str) : Prop := ∃ (p0 p1 p2 p3 p4 p5 p6 p7 p8 p9 : Pos) (j : Nat),
  body = [.Expr (.Call (.Attribute (.Call (.Name "super" p0) [] [] p1) "__init__" p2) [.Constant (.str txt) j p3] [] p4) p5, .Assign [.Attribute (.Name "self" p6) f p7] (.Name par p8) p9] ∧
  ∀ env : Env, ∃ pl : Sem Bool, eval (.Call (.Attribute (.Call (.Name "super" p0) [] [] p1) "__init__" p2) [.Constant (.str txt) j p3] [] p4) env = (do
    let ov ← attributeBase (.Call (.Name "super" p0) [] [] p1) "__init__" env (eval (.Call (.Name "super" p0) [] [] p1) env)
    standAt p2.atName
    let (f, first) ← holding [ov] (getMethod ov "__init__" pl)
    callWith p4 f first (backTo p4 (starEach [.Constant (.str txt) j p3] env)) [])
structure ErC (P : Program) (K : PySem.W.Frag) (mg : Str → Option Value) (C fI : Addr) (f par : Str) (st : Stmt) : Prop where
  ox : OexC K C
  init : PySem.W.findIn K (.ref C) "__init__" = some (some (.ref fI))
  ity : PySem.W.typeIn K (.ref fI) = some (.type "function")
  nof : PySem.W.findIn K (.ref C) f = some none
  opq : PySem.W.nsIn K cStatics "thirdparty.any" = some none
  sup : PySem.W.ks_superIn K C C "__init__" = some (some (.builtin "ValueError.__init__"))
  ve : PySem.W.subIn K (.ref C) (.type "ValueError") = some true
  slf : PySem.W.mroIn K C (.ref C) = some true
  ns : mg "super" = none
  top : (P.main.scope.names.lookup ("super" : Str)).isSome = false
  fn : ∃ (qual : Str) (cc cd : Addr) (kV doc pm ct oc : Value) (od an : Option Addr) (osl : Array (Option Value)), K.lookup fI = some ⟨oc, od, .func (erFd qual (defArgs st) (defBody st) (defScope st) cc kV doc pm an (.ref cd) ct), osl⟩ ∧ PySem.W.codeIn K (.ref cd) qual = true ∧
    (∃ (o : Value) (d : Option Addr) (sl : Array (Option Value)), K.lookup cc = some ⟨o, d, .cell (some (.ref C)), sl⟩) ∧
    ∃ (o : Value) (d : Option Addr) (vs : Array Value) (sl : Array (Option Value)) (file : Str) (tf : Tok), K.lookup cd = some ⟨o, d, .fields vs, sl⟩ ∧ vs[2]? = some (.str file tf) ∧ ((P.main.file : Str) == file) = true
  txt : ∃ t : Str, t.length ≤ 1000 ∧ ErT (defBody st) t f par
  hd : ((defArgs st).posonlyargs ++ (defArgs st).args).head?.map (·.arg) = some "self"
  kind : (defScope st).kind = .function
  co : (defScope st).isCoroutine = false
  gen : (defScope st).isGenerator = false
  l0 : (defScope st).names.lookup ("self" : Str) = some .local
  l1 : (defScope st).names.lookup par = some .local
  ls : (defScope st).names.lookup ("super" : Str) = some .globalImplicit
  lc : (defScope st).names.lookup ("__class__" : Str) = some .free
  fre : ∀ y ∈ (defScope st).names, y.2 = .free → y.1 = "__class__"
  noc : ∀ y ∈ (defScope st).names, y.2 ≠ .cell
  ne : par ≠ "self"
  pd : (par == ("__debug__" : Str)) = false
  pc : (par == ("__classdict__" : Str)) = false
  bnd : ∀ (qual : Str) (cc : Addr) (kV doc pm : Value) (an : Option Addr) (cdv ct x y : Value), bindArgs (erFd qual (defArgs st) (defBody st) (defScope st) cc kV doc pm an cdv ct) ⟨[x, y], []⟩ = pure ([("self", x), (par, y)] : List (Str × Value))
/-- the context of the __init__ -/
def erCx (P : Program) (w : World) (K : PySem.W.Frag) (mg : Str → Option Value) (base : Heap) (N : List Str) (fd : FuncData) (f : Addr) (A : Around) (outer : List Env) (s : Shared) (H : Hp) (xe : Value → Shared → Prop) : Cx where
  prog := P
  w := w
  K := K
  mg := mg
  base := base
  A := A.deeper (callEnv fd s.heap.objs.size f)
  N := N
  s_0 := s
  H_0 := H
  env := callEnv fd s.heap.objs.size f
  outer := outer
  stack := callEnv fd s.heap.objs.size f :: outer
  ex := []
  fn := fun _ => false
  calm := true
  pn := []
  xe := xe
section
variable {P : Program} {w : World} {K : PySem.W.Frag} {mg : Str → Option Value} {base : Heap} {C fI : Addr} {f par : Str} {st : Stmt}
theorem er_start {A : Around} {outer : List Env} {s : Shared} {H : Hp} {xe : Value → Shared → Prop} {qual : Str} {cc : Addr} {kV doc pm ct cdv u : Value} {an : Option Addr} {a : Addr} {v : V} {h1 : Heap} {tk : Nat}
    (R : ErC P K mg C fI f par st) (hcc : ∃ (o : Value) (d : Option Addr) (sl : Array (Option Value)), K.lookup cc = some ⟨o, d, .cell (some (.ref C)), sl⟩) (e0 : Env0 P w K mg base A outer s H) (hd : A.handled = none)
    (hns : h1.Ns s.heap.objs.size fun y => ([("self", Value.ref a), (par, u)] : List (Str × Value)).reverse.lookup y) (kp : ∀ b o, s.heap.get? b = some o → h1.get? b = some o) (rv : RelV v u) :
    Inv (erCx P w K mg base ["self", par] (erFd qual (defArgs st) (defBody st) (defScope st) cc kV doc pm an cdv ct) fI A outer s H xe) [] [some (.ref a), some v] H { s with heap := h1, toks := tk } := by
  obtain ⟨o, d, sl, hc⟩ := hcc
  have bc := e0.bs _ _ (e0.mod.kin _ _ hc)
  have one : ∀ {y : Str} {c : Addr}, ([("__class__", cc)] : List (Str × Addr)).lookup y = some c → y = "__class__" ∧ c = cc := fun {y c} e => by
    have := PySem.mem_of_lookup e
    simp only [List.mem_singleton, Prod.mk.injEq] at this
    exact this
  refine ⟨⟨e0.mod, R.kind, rfl, rfl, Nat.le_refl _, fun y z c e1 e2 => (one e1).1.trans (one e2).1.symm, fun y hy => ?_, fun y c z _ => ?_, fun _ => hd, Around.frames_deeper e0.frames, .inr ⟨rfl, rfl⟩, (fun b z => (List.not_mem_nil (show b ∈ ([] : List Addr) from z)).elim), e0.bs, e0.bsz, (fun b _ _ z => (List.not_mem_nil (show b ∈ ([] : List Addr) from z)).elim), (fun b z => (List.not_mem_nil (show b ∈ ([] : List Addr) from z)).elim), e0.funs, e0.frf⟩,
    rfl, e0.bare, Un.kept kp, ⟨_, hns, fun i y v' e1 e2 e3 => ?_⟩, fun y c e => ?_, e0.hok.fresh (Nat.le_refl _), fun y c e => ?_, (fun q hq => (List.not_mem_nil (show q ∈ ([] : List (Addr × Obj)) from hq)).elim), e0.hok.kept kp, rfl⟩
  · refine ⟨cc, ?_⟩
    have hy : (defScope st).names.lookup y = some .cell ∨ (defScope st).names.lookup y = some .free := hy
    rcases hy with k | k
    · exact (R.noc _ (PySem.mem_of_lookup k) rfl).elim
    · have e : y = "__class__" := R.fre _ (PySem.mem_of_lookup k) rfl
      rw [e]
      rfl
  · exact (Bool.false_ne_true (show false = true from z)).elim
  · have e1 : (["self", par] : List Str)[i]? = some y := e1
    match i, e1, e2 with
    | 0, e1, e2 =>
      have ey : "self" = y := by simpa using e1
      have ev : V.ref a = v' := by simpa using e2
      subst ey ev
      refine ⟨.ref a, rfl, .inl ⟨R.l0, ?_⟩⟩
      show ([(par, u), ("self", Value.ref a)] : List (Str × Value)).lookup ("self" : Str) = _
      rw [List.lookup_cons, show (("self" : Str) == par) = false from beq_eq_false_iff_ne.mpr (Ne.symm R.ne)]
      rfl
    | 1, e1, e2 =>
      have ey : par = y := by simpa using e1
      have ev : v = v' := by simpa using e2
      subst ey ev
      refine ⟨u, rv, .inl ⟨R.l1, ?_⟩⟩
      show ([(par, u), ("self", Value.ref a)] : List (Str × Value)).lookup par = _
      rw [List.lookup_cons, show (par == par) = true from beq_self_eq_true par]
    | n + 2, e1, e2 => simp at e2
  · obtain ⟨rfl, rfl⟩ := one e
    exact ⟨_, _, kp _ _ bc.1, rfl⟩
  · obtain ⟨rfl, rfl⟩ := one e
    exact bc.2
/-- the bound ValueError.__init__, called -/
theorem er_call {A : Around} {E : Value → Shared → Prop} {h : Heap} {g : Array GenState} {d : Drawn} {t : Nat} {os : OsState} {u e t0 : Addr} {rest : List Value} {Q : Value → Shared → Prop}
    {nm q : Str} {N : Addr} {bs bm sub : List Value} {hdct ab : Bool} {sn : List Str} {col : Option Bool} {dd : Option Addr} {k0 k1 k2 k3 k5 : Option Value}
    (hC : h.get? C = some (excClassObj nm q C N bs bm hdct sn sub ab col dd k0 k1 k2 k3 k5 "ValueError.__new__")) (he : h.get? e = some (PySem.HandSPX.excO C t0)) (hu : h.get? u = some (PySem.W.kxs_mw "ValueError.__init__" e)) (hz : rest.length ≤ sizeLine)
    (hq : ∀ h' t1, (∀ b o, b ≠ e → h.get? b = some o → h'.get? b = some o) → h'.get? e = some (PySem.HandSPX.excO C t1) → Q .none ⟨h', g, d, t, os⟩) :
    wpAny (model P w) A (call (.ref u) rest) Q E ⟨h, g, d, t, os⟩ := by
  have FB := PySem.F.excBase_ValueError
  refine wpAny_call (codeAny_of_tree (?_ : wpAny _ A.in1 (callAny (.ref u) ⟨rest, []⟩) _ _ _))
  simp only [callAny]
  refine wpAny_bind (wpAny_load hu ?_)
  have hw : (Value.type "method-wrapper" == Value.type "method" || Value.type "method-wrapper" == Value.type "builtin_function_or_method" || Value.type "method-wrapper" == Value.type "method-wrapper") = true := by decide
  simp only [PySem.W.kxs_mw, hw, if_true]
  refine PySem.W.KFB.if_so (by decide) (wpAny_bind (PySem.W.check_bound_init FB.toExcCallFacts hC he rfl ?_))
  refine wpAny_bind (wpAny_pure (wpAny_pure ⟨plainId_quiet FB.init.plain _, codeAny_builtin FB.initEntry ?_⟩))
  exact PySem.W.exc_init_tree (cls := .ref C) (t0 := t0) (dv := none) (c2 := .none) (c3 := .none) (b4 := .bool false) he hz fun h' k e' _ => hq h' _ k e'
def spErr (C : Addr) (f : Str) : Sp := fun vs H Q _ => ∃ a v, vs = [.ref a, v] ∧ H a = some (exo a C none) ∧ ∀ dx, H dx = none → dx ≠ a → Q .non (upd (upd H dx (exd dx [(f, v)])) a (exo a C (some dx)))
theorem ok_err (R : ErC P K mg C fI f par st) : ∃ fd, Binds K fd ["self", par] [] ∧ ∀ base, FnOk P w K mg base CX0 1 fI fd ["self", par] (spErr C f) := by
  obtain ⟨qual, cc, cd, kV, doc, pm, ct, oc, od, an, osl, lk, hcd, hcc, o, d, vs', sl, file, tf, hco, hvs, hfile⟩ := R.fn
  refine ⟨erFd qual (defArgs st) (defBody st) (defScope st) cc kV doc pm an (.ref cd) ct, Binds.all fun us hl => ?_, fun base => ⟨fun vs H Q E h => ?_, fun A outer s H args us vs Q E hr e0 hb hv hs => ?_⟩⟩
  · match us, hl with
    | [x, y], _ => exact R.bnd qual cc kV doc pm an (.ref cd) ct x y
  · obtain ⟨a, v, rfl, _⟩ := h; rfl
  · obtain ⟨a, v, rfl, ha, q⟩ := hs
    obtain ⟨u, rfl, rv⟩ : ∃ u, us = [.ref a, u] ∧ L2.RelV v u := by
      cases hv with
      | cons r1 r2 =>
        cases r2 with
        | cons r3 r4 =>
          cases r4
          cases r1
          exact ⟨_, rfl, r3⟩
    have KX : K.In s.heap := e0.mod.kin.keeps fun b o e => (e0.bs b o e).1
    have lim : s.heap.NoLimit := e0.mod.nolimit.keeps fun b o e => (e0.bs b o e).1
    refine PySem.ks_codeAny_call_defAt hr.depth (KX _ _ lk) rfl lim (PySem.W.codeRec_of KX hcd) rfl hb R.noc (fun x hx => ?_) (fun h1 hns kp => ?_) R.co R.gen R.kind
    · have hx : x ∈ ([("self", Value.ref a), (par, u)] : List (Str × Value)) := hx
      simp only [List.mem_cons, List.not_mem_nil, or_false] at hx
      rcases hx with rfl | rfl
      · exact R.l0
      · exact R.l1
    · obtain ⟨t, ht, p0, p1, p2, p3, p4, p5, p6, p7, p8, p9, j, hbody, hev⟩ := R.txt
      obtain ⟨env, henv⟩ : ∃ env, env = callEnv (erFd qual (defArgs st) (defBody st) (defScope st) cc kV doc pm an (.ref cd) ct) s.heap.objs.size fI := ⟨_, rfl⟩
      have I := er_start (xe := fun _ _ => False) (tk := s.toks + 2) (qual := qual) (kV := kV) (doc := doc) (pm := pm) (an := an) (cdv := .ref cd) (ct := ct) R hcc e0 hr.hd hns kp rv
      have key : ∀ body : List Stmt, body = [.Expr (.Call (.Attribute (.Call (.Name "super" p0) [] [] p1) "__init__" p2) [.Constant (.str t) j p3] [] p4) p5, .Assign [.Attribute (.Name "self" p6) f p7] (.Name par p8) p9] →
          PySem.wpAt (model P w) (A.deeper env) (.func body env) (execs body env) (fun fl s' => CR CX0 outer P w H s Q E (.ok (.ret (match fl with | .ret v => v | _ => .none))) s')
            (fun _ _ => False) { s with heap := h1, toks := s.toks + 2 } := by
        intro body hb
        subst hb
        obtain ⟨oc', dc', slc', hcl⟩ := id hcc
        have hself : ∃ ar : Arg, ((defArgs st).posonlyargs ++ (defArgs st).args).head? = some ar ∧ ar.arg = "self" := by
          have := R.hd
          cases q2 : ((defArgs st).posonlyargs ++ (defArgs st).args).head? with
          | none => rw [q2] at this; cases this
          | some ar => rw [q2] at this; exact ⟨ar, rfl, Option.some.inj this⟩
        obtain ⟨ar, har, earg⟩ := hself
        obtain ⟨nm, qn, N, bs, bm, sn, sub, ab, col, dd, k0, k1, k2, k3, k5, hC, hbm⟩ := R.ox.cls
        have KI : K.In h1 := KX.keeps kp
        have hclC : PySem.W.clsIn K C = some { name := nm, bases := bs, mro := .ref C :: bm, ns := N, qualname := qn, hasDict := true, slotNames := sn, subclasses := sub, abstract := ab, collection := col, hasDel := false } := by
          unfold PySem.W.clsIn
          rw [hC]
        obtain ⟨pl, hpl⟩ := hev env
        have hint : interactive env = false := by
          unfold interactive
          rw [show env.scope.kind = .function by rw [henv]; exact R.kind]
          rfl
        refine PySem.ks_wpAt_execs_cons (PySem.ks_wpAt_Expr_any (PySem.ks_wpAt_MethodCall (pl := pl) (PySem.ks_wpAt_super_base (f := fI) (cc := cd) (ar := ar) (fd := erFd qual (defArgs st) (defBody st) (defScope st) cc kV doc pm an (.ref cd) ct)
          (by rw [henv]; exact R.ls) (by rw [henv]; exact R.lc) (by decide) (by rw [henv]; rfl) (KI _ _ lk) rfl har (by rw [henv]; rfl) (KI _ _ hco) rfl hvs hfile R.top ?_) hpl) hint rfl)
        have hk : env.scope.kind = .function := by rw [henv]; exact R.kind
        obtain ⟨mb, hb1, hb2⟩ := e0.mod.blt
        have bk : ∀ b o, base.get? b = some o → h1.get? b = some o := fun b o e => kp b o (e0.bs b o e).1
        have hL : h1.get? a = _ := (exo_at (e0.hok.kept kp) ha).choose_spec
        obtain ⟨t0, ht0⟩ : ∃ t0, h1.get? a = some (PySem.HandSPX.excO C t0) := ⟨_, hL⟩
        rw [loadName_read hk (by rw [henv]; exact R.ls)]
        refine Calls.loadGlobal_builtin (mg := mg) (mb := mb) (v := .type "super") (by rw [henv]; exact e0.mod.glob.keeps bk) R.ns (by rw [henv]; exact hb1.keeps bk) ((hb2 "super" (by decide)).trans (by kernel_rfl)) ⟨rfl, ?_⟩
        refine wpAny_loadName_free (c := cc) (v := .ref C) hk (by rw [henv]; exact R.lc) (by rw [henv]; rfl) ⟨_, KI _ _ hcl, rfl⟩ ?_
        rw [earg]
        refine wpAny_loadName_local (v := .ref a) hk (by rw [henv]; exact R.l0) (by rw [henv]; exact hns) ?_ ?_
        · show ([(par, u), ("self", Value.ref a)] : List (Str × Value)).lookup ("self" : Str) = _
          rw [List.lookup_cons, show (("self" : Str) == par) = false from beq_eq_false_iff_ne.mpr (Ne.symm R.ne)]
          rfl
        refine PySem.ks_wpAny_isType_cls (KI _ _ hC) rfl ⟨rfl, ?_⟩
        refine PySem.ks_wpAny_call_super (KI _ _ hC) rfl ht0 rfl (fun c z => by cases z) (PySem.W.looks_mroIn KI R.slf) (fun h2 hso k2 => ?_)
        have K2 : K.In h2 := KI.keeps k2
        have J2 : PySem.W.InstAt h2 a (PySem.HandSPX.excO C t0) C none := ⟨k2 _ _ ht0, rfl, rfl, trivial⟩
        have hsup : PySem.W.alongIn K "__init__" (((Value.ref C :: bm).dropWhile (· != .ref C)).drop 1) = some (some (.builtin "ValueError.__init__")) := by
          have := R.sup
          unfold PySem.W.ks_superIn at this
          rw [hclC] at this
          exact this
        refine PySem.W.kxs_getMethod PySem.W.kxs_ValueError hso (PySem.W.looks_opaque K2 R.opq) (l₀ := .ref C :: bm) (fun A Q E s k q => wpAny_bind ((PySem.W.looks_clsIn K2 hclC) A _ E s k (wpAny_pure q))) rfl K2 hsup
          (J2.type.andThen (PySem.W.looks_subIn K2 R.ve)) (PySem.W.ks_ne K2 J2 hclC) (by decide) ?_
        show wpAny _ _ (callWith p4 (.ref h2.objs.size) [] ((false, eval (.Constant (.str t) j p3) env) :: backTo p4 (starEach [] env)) []) _ _ _
        refine PySem.W.kxs_callWith (i := "ValueError.__init__") (x := a) rfl (Calls.evalArgs_plain (Calls.spliced_cons (Calls.Constant_str (Calls.spliced_nil ⟨Heap.get?_push_size _ rfl, ?_⟩))))
        have k3 : ∀ b o, h1.get? b = some o → (h2.push (PySem.W.kxs_mw "ValueError.__init__" a)).get? b = some o := fun b o e => Heap.get?_push_of_some _ (k2 b o e)
        refine er_call (KI.keeps k3 _ _ hC) (k3 _ _ ht0) (Heap.get?_push_size _ rfl) (by show 1 ≤ sizeLine; decide) fun h4 t1 k4 e4 => ?_
        have I3 := (I.kept (h' := h2.push (PySem.W.kxs_mw "ValueError.__init__" a)) (t' := s.toks) k3).write (t' := s.toks + 2 + 1 + 1) (x := a) (e := a) (o := exo a C none) (by rw [ha]; exact True.intro) (.inl rfl) k4 ⟨_, e4⟩ (exo_ok e4)
        have eu : upd H a (exo a C none) = H := by
          funext b
          by_cases hb : b = a
          · rw [hb, upd_same, ha]
          · rw [upd_ne hb]
        rw [eu] at I3
        subst henv
        have hP := pss_one (ps_ost (pos := p9) (p' := p7) (f := f) (pe_var (pos := p6) (i := 0) (X := erCx P w K mg base ["self", par] (erFd qual (defArgs st) (defBody st) (defScope st) cc kV doc pm an (.ref cd) ct) fI A outer s H (fun _ _ => False)) (x := "self") rfl (.inl R.l0)) (pe_var (pos := p8) (i := 1) (x := par) rfl (.inl R.l1) R.pd R.pc))
        refine wpAt_of_wpAny (wpAny_mono (hP.run [] _ _ H { nx := fun _ H' => Q .non H', rt := fun _ _ => False } I3 ⟨v, rfl, .ref a, rfl, a, C, rfl, R.ox, R.nof, .inl ⟨ha, fun dx h1 h2 => q dx h1 h2⟩⟩) (fun fl s' hs => ?_) fun _ _ z => z)
        cases fl with
        | next =>
          obtain ⟨σ', H', J', q'⟩ := hs
          exact ⟨.non, H', J'.os, J'.bare, J'.base, J'.hok, rfl, q'⟩
        | ret u =>
          obtain ⟨_, _, _, _, _, q'⟩ := hs
          exact q'.elim
        | brk =>
          obtain ⟨_, _, _, q'⟩ := hs
          exact q'.elim
        | cont =>
          obtain ⟨_, _, _, q'⟩ := hs
          exact q'.elim
      refine PySem.ks_wpAt_mono (henv ▸ key _ hbody) (fun _ _ x => x) fun _ _ x => x.elim
end
end NA

/-! Part G: a caught error that is kept behind its suite. -/
namespace NA
open PySem PySem.Spec PyProof.Rows L2
def HeldO (cls : Value) (d : Option Addr) (a : Addr) : HO := .ext fun h => ∃ (oe : Obj) (vs : Array Value), h.get? a = some oe ∧ Zc cls d oe ∧ oe.data = .fields vs
theorem held_ok {P : Program} {w : World} {H : Hp} {h : Heap} {a : Addr} {cls : Value} {d : Option Addr} {oe : Obj} {vs : Array Value} (e : h.get? a = some oe) (z : Zc cls d oe) (hd : oe.data = .fields vs) : ObjOk P w H h a (HeldO cls d a) :=
  ⟨⟨oe, vs, e, z, hd⟩, ⟨oe, e⟩, fun h1 h2 ⟨o, v, e1, r⟩ k => ⟨o, v, k o e1, r⟩⟩
section
variable {X : Cx} {pins : List (Addr × Obj)} {σ : L2.St} {H : Hp} {s : Shared}
/-- an object that came since the entry and is not tracked may be tracked from now on -/
theorem inv_hold {a : Addr} {cls : Value} {d : Option Addr} {oe : Obj} {vs : Array Value} (I : Inv X pins σ H s) (h0 : X.s_0.heap.get? a = none) (hn : H a = none) (hp : ∀ p ∈ X.pn ++ pins, p.1 ≠ a) (hl : a ≠ X.env.locals)
    (ho : s.heap.get? a = some oe) (hz : Zc cls d oe) (hd : oe.data = .fields vs) : Inv X pins σ (upd H a (HeldO cls d a)) s := by
  have old : ∀ {b : Addr} {o : Obj}, X.s_0.heap.get? b = some o → b ≠ a := fun {b o} e z => by rw [z, h0] at e; cases e
  have nc : ∀ {y : Str} {c : Addr}, X.env.cells.lookup y = some c → c ≠ a := fun {y c} e z => by
    obtain ⟨v, o, e1, e2⟩ := I.cell y c e
    rw [z, ho] at e1
    cases e1
    rw [hd] at e2
    cases e2
  exact {
    ok := I.ok
    os := I.os
    bare := I.bare
    base := {
      keep := I.base.keep
      slot := I.base.slot
      free := fun b o e n x => by rw [upd_ne (old e)]; exact I.base.free b o e n x
      there := I.base.there
      tups := fun b xs e => by
        have q := I.base.tups b xs e
        rw [upd_ne (ne_of_none q hn)]; exact q
      frzs := fun b o xs e => by
        have q := I.base.frzs b o xs e
        rw [upd_ne (ne_of_none q hn)]; exact q
      tbls := fun b ps e => by
        obtain ⟨m, q⟩ := I.base.tbls b ps e
        exact ⟨m, by rw [upd_ne (ne_of_none q hn)]; exact q⟩ }
    loc := I.loc
    cell := I.cell
    free := by rw [upd_ne (Ne.symm hl)]; exact I.free
    freeC := fun y c e => by rw [upd_ne (nc e)]; exact I.freeC y c e
    pin := fun p hp' => by
      obtain ⟨e1, e2, r⟩ := I.pin p hp'
      exact ⟨e1, by rw [upd_ne (hp p hp')]; exact e2, r⟩
    hok := I.hok.laidN (fun _ _ e => e) hn (held_ok ho hz hd)
    len := I.len }
end
/-- what `except x as n: y = n` wishes: slot i is n's, slot j is y's -/
def wHold (K : PySem.W.Frag) (m : Nat) (c : Value) (i j : Nat) (Wout : WX) (D : Ends) : WX := fun cls d σ H =>
  ∃ b, PySem.W.exmOne K cls c = some b ∧ (b = true → ∀ a, H a = none → σ.length = m → D.nx (((σ.set i (some (.ref a))).set j (some (.ref a))).set i none) (upd H a (HeldO cls d a))) ∧ (b = false → Wout cls d σ H)
section
variable {X : Cx} {x n y : Str} {c : Value} {i j : Nat} {body : List Stmt} {np yp q1 q2 pos pos' : Pos} {tb : WX → TS} {Wout : WX}
/-- the catch -/
theorem hold_catch {pins : List (Addr × Obj)} {D : Ends} {u : Value} {s' : Shared} {xe' : Value → Shared → Prop} (ok : X.Ok) (hs : X.stack = X.env :: X.outer) (hf : X.env.frame = some X.env.locals) (hN : X.N.Nodup) (hi : X.N[i]? = some n) (hj : X.N[j]? = some y) (hln : X.env.kindOf n = some .local) (hly : X.env.kindOf y = some .local)
    (hex : X.ex = []) (hc : Names X x c) (tk : Takes X Wout) (hlen : i < X.N.length) (hdn : (n == ("__debug__" : Str)) = false) (hcn : (n == ("__classdict__" : Str)) = false) (xx : XE (X.tr (X.pn ++ pins) xe') (wHold X.K X.N.length c i j Wout D) u s') :
    wpAny (model X.prog X.w) X.A (noteFrame u X.env) (fun _ s2 => wpAny (model X.prog X.w) X.A (setFlight u none) (fun _ s3 =>
      wpAny (model X.prog X.w) X.A (handleBy u X.env [.ExceptHandler (some (.Name x np)) (some n) [.Assign [.Name y yp] (.Name n q1) q2] pos']) (SP X pins D) X.xe s3) X.xe s2) X.xe s' := by
  obtain ⟨a, B, sI, pins', σ', H', cls, d, rfl, J', nb, up, sky, na, os, ag, b, hb1, hyes, hno⟩ := xx
  have J : Inv X pins σ' H' sI := J'.ofTry ok
  have hfr : X.A.frames = some (X.env :: X.outer) := ok.frames.trans (congrArg some hs)
  refine Sky.land Zc.steady hfr hf (by rw [← hs]; exact sky) fun h3 fl3 up3 => ?_
  have lnd : ∀ h5, HandSPX.FlyingZ B (X.env :: X.outer) a (Zc cls d) h5 → s'.heap.UpToSlots h5 → Inv X pins σ' H' { s' with heap := h5 } := fun h5 fl5 up5 => J.landed nb fl5.1 (up.trans up5) os ag
  have J3 := lnd h3 fl3 up3
  obtain ⟨oe3, vs3, he3, hz3, hd3⟩ := fl3.there
  have nfr : a ∉ frs (X.env :: X.outer) := fun hm => by
    obtain ⟨_, o', e', hnf⟩ := fl3.2.2.1.mem hm
    rw [he3] at e'
    cases e'
    exact hnf _ hd3
  have nL : a ≠ X.env.locals := fun z => nfr (List.mem_filterMap.mpr ⟨X.env, List.mem_cons_self, by rw [hf, z]⟩)
  have nF : a ∉ X.fs := fun hm => nfr (by
    obtain ⟨e, he, q⟩ := List.mem_filterMap.mp hm
    exact List.mem_filterMap.mpr ⟨e, List.mem_cons_of_mem _ he, q⟩)
  -- it came since the entry
  have newI : sI.heap.get? a = none := by
    cases q : sI.heap.get? a with
    | none => rfl
    | some o =>
      have := nb a o q (by rw [hs]; exact nfr)
      rw [fl3.2.1] at this
      cases this
  have new0 : X.s_0.heap.get? a = none := by
    cases q : X.s_0.heap.get? a with
    | none => rfl
    | some o =>
      obtain ⟨o', e'⟩ := J.base.there a o q (by rw [hex]; exact List.not_mem_nil)
      rw [newI] at e'
      cases e'
  have newP : ∀ p ∈ X.pn ++ pins, p.1 ≠ a := fun p hp z => by
    have e := (J.pin p hp).1
    rw [z, newI] at e
    cases e
  have S3 := J3.suite he3 hd3 na nL nF
  refine wpAny_handleBy_cons (codeAny_handlers_test ?_) (by intro q; cases q)
  have LT : PySem.W.Looks (model X.prog X.w) h3 (typeOf (.ref a)) cls := fun _ _ _ _ k q => wpAny_typeOf_ref (k _ _ he3) (hz3.1.symm ▸ q)
  have test : ∀ {Q : Value → Shared → Prop} {E : Value → Shared → Prop}, Q c { s' with heap := h3 } →
      wpAny (model X.prog X.w) (X.A.mark (some (.ref a))) (eval (.Name x np) X.env) Q E { s' with heap := h3 } := fun {Q E} q => by
    obtain ⟨hg, hdbg, hm | ⟨hm, hv, hnn⟩⟩ := hc
    · exact ld_glob (X := X.suite a ((a, oe3) :: (X.pn ++ pins))) S3 hg hm q hdbg
    · exact ld_blt (X := X.suite a ((a, oe3) :: (X.pn ++ pins))) S3 hg hm hv q hnn hdbg
  refine test ((PySem.W.exm_one (M := model X.prog X.w) J3.kIn LT hb1).here ?_)
  cases b with
  | true =>
    refine codeAny_handlers_suite_as (HandSPX.lands_againZ fl3 fun h4 fl4 up4 => ?_)
    obtain ⟨oe4, vs4, he4, hz4, hd4⟩ := fl4.there
    have S4 := (lnd h4 fl4 (up3.trans up4)).suite he4 hd4 na nL nF
    refine store_ok (X := X.suite a ((a, oe4) :: (X.pn ++ pins))) (v := .ref a) S4 hN hi (.inl hln) rfl (fun s5 S5 => ?_) (.inr hln)
    have hP := pss_one (ps_set (pos := q2) (pos' := yp) (X := X.suite a ((a, oe4) :: (X.pn ++ pins))) (i := j) hN hj (.inl hly) (pe_var (i := i) (pos := q1) hi (.inl hln) hdn hcn) rfl (.inr hly))
    have hlt : i < σ'.length := by rw [J.len]; exact hlen
    refine wpAny_mono (hP.run [] s5 _ H' { nx := fun σ6 H6 => σ6 = (σ'.set i (some (.ref a))).set j (some (.ref a)) ∧ H6 = H', rt := fun _ _ => False } S5 ⟨.ref a, by rw [List.getElem?_set_self hlt], rfl, rfl⟩) (fun f s6 hsp => ?_) (fun _ _ z => z.elim)
    cases f with
    | next =>
      obtain ⟨σ6, H6, S6, rfl, rfl⟩ := hsp
      have J6 : Inv X ((a, oe4) :: pins) ((σ'.set i (some (.ref a))).set j (some (.ref a))) H6 s6 :=
        ⟨ok, S6.os, S6.bare, S6.base, S6.loc, S6.cell, S6.free, S6.freeC, fun p hp => S6.pin p (by
          rcases List.mem_append.mp hp with z | z
          · exact List.mem_append_left _ (List.mem_cons_of_mem _ (List.mem_append_left _ z))
          · rcases List.mem_cons.mp z with z | z
            · rw [z]; exact List.mem_append_left _ List.mem_cons_self
            · exact List.mem_append_left _ (List.mem_cons_of_mem _ (List.mem_append_right _ z))), S6.hok, S6.len⟩
      refine gone_ok J6 hN hi hln fun s7 J7 => ?_
      obtain ⟨hget, _⟩ := J7.pin (a, oe4) (List.mem_append_right _ List.mem_cons_self)
      have J8 : Inv X pins (((σ'.set i (some (.ref a))).set j (some (.ref a))).set i none) H6 s7 :=
        ⟨ok, J7.os, J7.bare, J7.base, J7.loc, J7.cell, J7.free, J7.freeC, fun p hp => J7.pin p (by
          rcases List.mem_append.mp hp with z | z
          · exact List.mem_append_left _ z
          · exact List.mem_append_right _ (List.mem_cons_of_mem _ z)), J7.hok, J7.len⟩
      exact ⟨_, _, inv_hold J8 new0 na newP nL hget hz4 hd4, hyes rfl a na J.len⟩
    | brk => obtain ⟨_, _, _, z⟩ := hsp; exact z.elim
    | cont => obtain ⟨_, _, _, z⟩ := hsp; exact z.elim
    | ret u => obtain ⟨_, _, _, _, _, z⟩ := hsp; exact z.elim
  | false =>
    refine wpAny_handleBy_nil ?_
    obtain ⟨k1, k2, k3, oe, vs, T, oT, ts', he, hz, hd, h1, hr⟩ := id fl3
    unfold PySem.passOn
    refine wpAny_bind (wpAny_field he hd h1 ?_)
    rw [if_neg (by simp)]
    have fin : wpAny (model X.prog X.w) X.A (setFlight (.ref a) X.env.frame) (fun _ s4 => wpAny (model X.prog X.w) X.A (throw (.ref a) : Sem Flow) (SP X pins D) X.xe s4) X.xe { s' with heap := h3 } := by
      rw [hf]
      exact HandSPX.setFlight_upZ fl3 fun h4 hh4 up4 => wpAny_throw (tk _ _ ⟨a, B, sI, pins, σ', H', cls, d, rfl, J, nb, (up.trans up3).trans up4, .inr (.inr (by rw [hs]; exact hh4)), na, os, ag, hno rfl⟩)
    first
      | exact wpAny_bind (wpAny_pure (wpAny_bind fin))
      | exact wpAny_bind fin
/-- try: body / except x as n: y = n -/
theorem ps_try_hold (hs : X.stack = X.env :: X.outer) (hf : X.env.frame = some X.env.locals) (hex : X.ex = []) (hN : X.N.Nodup) (hi : X.N[i]? = some n) (hj : X.N[j]? = some y) (hln : X.env.kindOf n = some .local) (hly : X.env.kindOf y = some .local) (hc : Names X x c) (tk : Takes X Wout)
    (hb : ∀ (W : WX) (pn : List (Addr × Obj)) (xe : Value → Shared → Prop), Takes (X.tr pn xe) W → PassesOwn (model X.prog X.w) X.A X.env xe → PSs (X.tr pn xe) body (tb W)) (hdn : (n == ("__debug__" : Str)) = false := by decide) (hcn : (n == ("__classdict__" : Str)) = false := by decide) :
    PS X (.Try body [.ExceptHandler (some (.Name x np)) (some n) [.Assign [.Name y yp] (.Name n q1) q2] pos'] [] [] pos) (fun D σ H => tb (wHold X.K X.N.length c i j Wout D) D σ H) := by
  refine ⟨fun pins s σ H D I h => wpAny_Try_except ?_⟩
  have ok := I.ok
  have hlen : i < X.N.length := (List.getElem?_eq_some_iff.mp hi).1
  have T := hb (wHold X.K X.N.length c i j Wout D) (X.pn ++ pins) (fun e s1 => wpAny (model X.prog X.w) X.A (noteFrame e X.env) (fun _ s2 => wpAny (model X.prog X.w) X.A (setFlight e none) (fun _ s3 =>
      wpAny (model X.prog X.w) X.A (handleBy e X.env [.ExceptHandler (some (.Name x np)) (some n) [.Assign [.Name y yp] (.Name n q1) q2] pos']) (SP X pins D) X.xe s3) X.xe s2) X.xe s1)
    (fun u s' xx => hold_catch ok hs hf hN hi hj hln hly hex hc tk hlen hdn hcn xx) PassesOwn.looking
  refine wpAny_mono (T.run [] s σ H D (I.toTry _) h) (fun f s1 hsp => ?_) (fun _ _ z => z)
  cases f with
  | next =>
    obtain ⟨σ', H', J', q⟩ := hsp
    exact wpAny_execs_nil ⟨σ', H', J'.ofTry ok, q⟩
  | brk =>
    obtain ⟨σ', H', J', q⟩ := hsp
    exact ⟨σ', H', J'.ofTry ok, q⟩
  | cont =>
    obtain ⟨σ', H', J', q⟩ := hsp
    exact ⟨σ', H', J'.ofTry ok, q⟩
  | ret u =>
    obtain ⟨v, σ', H', J', r, q⟩ := hsp
    exact ⟨v, σ', H', J'.ofTry ok, r, q⟩
end
end NA

/-! Part H: errors raised, kept errors looked at, lambdas. -/
namespace NA
open PySem PySem.Spec PyProof.Rows L2
/-! ### raise C(e) -/
abbrev tErr (C : Addr) (f : Str) (te : TE) : L2.St → Hp → XK → Prop := tMkO C (spErr C f) [] (tCons te tNil)
section
variable {X : Cx} {C fI : Addr} {f par x : Str} {st : Stmt} {e : Expr} {te : TE} {p pos : Pos}
theorem pmk_err (R : ErC X.prog X.K X.mg C fI f par st) (hr : Room 2 X.A) (hg : Gl X x) (hm : X.mg x = some (.ref C)) (he : PE X e te)
    (hdb : (x == ("__debug__" : Str)) = false := by decide) (hst : starEach [e] X.env = (false, eval e X.env) :: starEach [] X.env := by rfl) :
    PMk X (.Call (.Name x p) [e] [] pos) (tErr C f te) := by
  obtain ⟨fd, hb, F⟩ := ok_err (w := X.w) R
  exact pmk_oex (X := X) (p := p) (pos := pos) (ds := []) (dvs := []) R.ox R.init R.ity (F X.base) hr hb .nil (fun _ _ _ _ _ _ _ z => z.elim) hg hm (pa_cons he pa_nil hst) hdb hst rfl
theorem v_err {H1 : Hp} {v : V} {Q : XK} (k : ∀ d, H1 d = none → Q (.ref C) (some d) (upd H1 d (.xd [(f, v)]))) :
    ([v] : List V).length ≤ 1000 ∧ ∀ a, H1 a = none → spErr C f (.ref a :: ([v] ++ [])) (upd H1 a (exo a C none))
      (fun v H2 => v = .non ∧ ∃ (d : Addr) (fs : List (Str × V)), H2 a = some (exo a C (some d)) ∧ H2 d = some (exd d fs) ∧ H1 d = none ∧ Q (.ref C) (some d) (upd (del H2 a) d (.xd fs))) (fun _ _ _ => False) := by
  refine ⟨by show 1 ≤ 1000; omega, fun a ha => ⟨a, v, rfl, upd_same, fun dx h1 h2 => ⟨rfl, dx, [(f, v)], upd_same, ?_, ?_, ?_⟩⟩⟩
  · rw [upd_ne h2, upd_same]
  · rw [upd_ne h2] at h1; exact h1
  · rw [upd_ne h2] at h1
    have e : upd (del (upd (upd (upd H1 a (exo a C none)) dx (exd dx [(f, v)])) a (exo a C (some dx))) a) dx (.xd [(f, v)]) = upd H1 dx (.xd [(f, v)]) := by
      funext b
      by_cases hb : b = dx
      · rw [hb, upd_same, upd_same]
      · rw [upd_ne hb, upd_ne hb]
        by_cases hb2 : b = a
        · rw [hb2, del_same, ha]
        · rw [del_ne hb2, upd_ne hb2, upd_ne hb, upd_ne hb2]
    rw [e]
    exact k dx h1
end
/-! ### a kept error: its field, isinstance -/
section
variable {X : Cx} {C : Addr} {e : Expr} {te : TE} {pos : Pos} {n : Str}
def tHeld (C : Addr) (n : Str) (te : TE) : TE := fun σ H Q => te σ H fun x H1 => ∃ (a dd : Addr) (fs : List (Str × V)) (v : V), x = .ref a ∧ H1 a = some (HeldO (.ref C) (some dd) a) ∧ H1 dd = some (.xd fs) ∧ fs.lookup n = some v ∧ Q v H1
theorem held_at {pins : List (Addr × Obj)} {σ : L2.St} {H : Hp} {s : Shared} {a dd : Addr} {fs : List (Str × V)} (I : Inv X pins σ H s) (ha : H a = some (HeldO (.ref C) (some dd) a)) (hd : H dd = some (.xd fs)) :
    ∃ (oe od : Obj) (mA : Str → Option Value), PySem.W.InstAt s.heap a oe C (some od) ∧ (∀ name, PySem.W.lookIn name od = some (mA name)) ∧ ∀ f, RelO (fs.lookup f) (mA f) := by
  obtain ⟨⟨oe, vs, e1, hz, hdat⟩, _, _⟩ := (show ObjOk X.prog X.w H s.heap a (HeldO (.ref C) (some dd) a) from I.hok a _ ha)
  obtain ⟨mA, hns, hr⟩ := (show ObjOk X.prog X.w H s.heap dd (.xd fs) from I.hok dd _ hd)
  obtain ⟨od, ho, hl⟩ := lookIn_ns hns
  exact ⟨oe, od, mA, ⟨e1, hz.1, by unfold PySem.W.notCls; rw [hdat] <;> rfl, by rw [hz.2]; exact ho⟩, hl, hr⟩
theorem pe_held (T : XfC X.K C) (hno : PySem.W.findIn X.K (.ref C) n = some none) (he : PE X e te) (hb : attributeBase e n X.env (eval e X.env) = eval e X.env := by rfl) : PE X (.Attribute e n pos) (tHeld C n te) := by
  refine ⟨fun pins s σ H Q I h => attr_of hb (thn (he.run pins s σ H _ I h) fun u s1 hh => ?_)⟩
  obtain ⟨x, H1, I1, rx, a, dd, fs, v, rfl, ha, hd, l, q⟩ := hh
  obtain rfl : u = Value.ref a := rx
  obtain ⟨oe, od, mA, J, hl, hr⟩ := held_at I1 ha hd
  obtain ⟨u, hu, ru⟩ := RelO.some_of (v := v) (o := mA n) (by rw [← l]; exact hr n)
  exact HandSPX.exc_get I1.kIn J T.ga T.gg T.exC (PySem.W.findObj_own T.hdC hno rfl (by rw [hl, hu])) (handed_of ru) ⟨v, H1, I1.tok _, ru, q⟩
def rIsH (K : PySem.W.Frag) : List V → Hp → VK → Prop := fun xs H Q => ∃ (a D dd : Addr) (fs : List (Str × V)) (c : V) (cv : Value) (b : Bool), xs = [.ref a, c] ∧ ExcC K D ∧ H a = some (HeldO (.ref D) (some dd) a) ∧ H dd = some (.xd fs) ∧ (∀ u, L2.RelV c u → u = cv) ∧ PySem.W.kitOne K (.ref D) cv = some b ∧ Q (.bl b) H
theorem kitx_held {K : PySem.W.Frag} {x D : Addr} (T : ExcC K D) : PySem.W.KitX K (.ref x) (.ref D) (fun h => ∃ ox od, PySem.W.InstAt h x ox D od) where
  ty := fun _ _ _ ⟨_, _, I⟩ => I.type
  it := fun _ _ X _ => by
    obtain ⟨cd, hc, _⟩ := PySem.W.any_some T.hd
    unfold PySem.W.clsIn at hc
    split at hc
    · rename_i ho
      intro A' Q' E' s' k q
      unfold isType loadHead
      exact wpAny_bind (wpAny_loadPart (k _ _ (X _ _ ho)) (wpAny_pure q))
    · cases hc
  ne := fun h tp dd its n sl X htp => by
    obtain ⟨cd, hc, _⟩ := PySem.W.any_some T.hd
    refine Bool.eq_false_iff.mpr fun q => ?_
    have e : D = tp := Value.ref.inj (beq_iff_eq.mp q)
    subst e
    unfold PySem.W.clsIn at hc
    split at hc
    · rename_i ho
      have z := (X _ _ ho).symm.trans htp
      cases z
    · cases hc
  ca := fun {_ _ _ _ _ _} X ⟨ox, od, I⟩ k => by
    obtain ⟨cd, hc, _⟩ := PySem.W.any_some T.hd
    exact PySem.W.kx_classE X I T.hg T.hk T.hs (PySem.W.findObj_dataE (by rw [hc]; rfl) T.ha T.hn T.ht) T.hm k
theorem call_isH : CallR X (.builtin "isinstance") (rIsH X.K) := by
  intro pins s σ H xs us Q I r h
  obtain ⟨a, D, dd, fs, c, cv, b, rfl, T, ha, hd, hcv, e, q⟩ := h
  obtain ⟨u1, u2, rfl, r1, r2⟩ := vals2 r
  cases (show u1 = Value.ref a from r1)
  have ec := hcv _ r2
  subst ec
  obtain ⟨oe, od, mA, J, _, _⟩ := held_at I ha hd
  exact PySem.W.kia_one (kitx_held T) I.kIn ⟨_, _, J⟩ e (fun z => nomatch z) fun tk => ⟨.bl b, H, I.tok tk, rfl, q⟩
end
end NA

/-! Part I: class and static methods by keyword, defs that raise, defs that make lambdas. -/
namespace NA
open PySem PySem.Spec PyProof.Rows L2
section
variable {X : Cx} {CX : CXT} {k n : Nat} {C p g : Addr} {mc : Value} {sp : Sp} {E : XK} {m : Str} {ks : List Str} {o e : Expr} {es : List Expr} {kws : List Keyword} {ta : TE} {t tk : TA} {pos apos : Pos}
/-- C.m(k = v, ..), m a classmethod -/
def tCMthK (C : Addr) (ks : List Str) (sp : Sp) (E : XK) (ta : TE) (tk : TA) : TE := fun σ H Q => ta σ H fun x H1 => x = .ref C ∧ tk σ H1 fun zs H2 => zs.length = ks.length ∧ sp (.ref C :: zs) H2 Q E
theorem pe_cmethK {pl : Sem Bool} (he : PE X o ta) (r : ClX.CRead X.K C mc) (c : ClX.CMet X.K C mc m p g) (F : FnK X.prog X.w X.K X.mg X.base CX k g 1 ks sp) (hr : Room k X.A) (hx : Passes CX X E) (hkw : PK X kws tk)
    (hall : (backToKw pos (keywordEach kws X.env)).all (·.1.isSome) = true := by rfl) (hks : (backToKw pos (keywordEach kws X.env)).filterMap (·.1) = ks := by rfl)
    (hpl : ((backTo pos (starEach [] X.env)).any (·.1) || (backToKw pos (keywordEach kws X.env)).any (·.1.isNone)) = false := by rfl)
    (ht : eval (.Call (.Attribute o m apos) [] kws pos) X.env = (do
      let ov ← eval o X.env
      standAt apos.atName
      let (f, first) ← holding [ov] (getMethod ov m pl)
      callWith pos f first (backTo pos (starEach [] X.env)) (backToKw pos (keywordEach kws X.env))) := by rfl) :
    PE X (.Call (.Attribute o m apos) [] kws pos) (tCMthK C ks sp E ta tk) := by
  refine ⟨fun pins s σ H Q I h => PySem.W.methodCall_KW (pl := pl) (thn (he.run pins s σ H _ I h) fun u s1 ⟨x, H1, I1, rx, ex, q⟩ => ?_) ht⟩
  subst ex
  obtain rfl : u = Value.ref C := rx
  refine ClX.getmethcm_ok I1 r c fun s2 I2 => ?_
  refine PySem.W.callWith_of (P := PySem.W.MethP X.K s1.heap.objs.size g (.ref C)) hpl (PySem.W.keeps_M c.fi) (evalArgs_kw2_nil hall (thn (hkw.run pos _ s2 σ H1 _ I2 q) fun ws s3 ⟨zs, H2, I3, rz, l2, q2⟩ => ⟨⟨ClX.pin_at I3, I3.kIn⟩, ?_⟩))
  rw [hks]
  have z : wpAny (model X.prog X.w) X.A (call (.ref s1.heap.objs.size) [] (ks.zip ws)) (EP X ((s1.heap.objs.size, PySem.W.methodObj (.ref g) (.ref C)) :: pins) σ Q) X.xe s3 := by
    refine wpAny_call (PySem.W.method_call (ClX.pin_at I3) (codeAny_mono (F X.A X.stack s3 H2 [.ref C] ws (.ref C :: zs) Q E hr I3.env0 rfl (by rw [← rz.length]; exact l2) (.cons rfl rz) q2) fun r s' hq => ?_))
    cases r with
    | error e => exact hx _ σ H2 s3 e s' I3 hq
    | ok fl =>
      cases fl with
      | ret u => exact I3.after hq
      | next => exact False.elim hq
      | brk => exact False.elim hq
      | cont => exact False.elim hq
  exact thn z fun _ _ y => ClX.unpinE y
/-- C.m(..), m a staticmethod -/
structure SMet (K : PySem.W.Frag) (C : Addr) (mc : Value) (m : Str) (p g : Addr) : Prop where
  at_ : PySem.W.findCls K (.ref C) mc m = some (.get (.builtin "staticmethod.__get__") (.ref p) .none (.ref C))
  rc : ∃ rest, PySem.W.recIn K p "staticmethod" = some (.ref g :: rest)
  kp : PySem.W.keepIn K (.ref g) = true
theorem getmethsm_ok {pins : List (Addr × Obj)} {σ : L2.St} {H : Hp} {s : Shared} {A : Around} {E : Value → Shared → Prop} {pl : Sem Bool} {Q : Value × List Value → Shared → Prop} (I : Inv X pins σ H s) (r : ClX.CRead X.K C mc) (c : SMet X.K C mc m p g)
    (h : ∀ s', Inv X pins σ H s' → Q (.ref g, []) s') : wpAny (model X.prog X.w) A (getMethod (.ref C) m pl) Q E s := by
  obtain ⟨rest, hp⟩ := c.rc
  refine PySem.W.method_cls I.kIn r.ga (PySem.W.cls_bind I.kIn r.rd c.at_ (wpAny_call (PySem.W.sm_get (s := { s with toks := s.toks + 1 }) I.kIn hp (PySem.W.handed_on rfl ?_))))
  exact h _ (I.tok _)
def tSMth (C : Addr) (sp : Sp) (E : XK) (ta : TE) (t : TA) : TE := fun σ H Q => ta σ H fun x H1 => x = .ref C ∧ t σ H1 fun vs H2 => sp vs H2 Q E
theorem pe_smeth {pl : Sem Bool} (he : PE X o ta) (r : ClX.CRead X.K C mc) (c : SMet X.K C mc m p g) (F : FnR X.prog X.w X.K X.mg X.base CX k g sp) (hr : Room k X.A) (hx : Passes CX X E) (ha : PA X (e :: es) t)
    (hst : starEach (e :: es) X.env = (false, eval e X.env) :: starEach es X.env := by rfl) (hpl : (backTo pos (starEach es X.env)).any (·.1) = false := by rfl)
    (ht : eval (.Call (.Attribute o m apos) (e :: es) [] pos) X.env = (do
      let ov ← eval o X.env
      standAt apos.atName
      let (f, first) ← holding [ov] (getMethod ov m pl)
      callWith pos f first (backTo pos (starEach (e :: es) X.env)) (backToKw pos (keywordEach [] X.env))) := by rfl) :
    PE X (.Call (.Attribute o m apos) (e :: es) [] pos) (tSMth C sp E ta t) := by
  refine ⟨fun pins s σ H Q I h => PySem.W.methodCall_KW (pl := pl) (thn (he.run pins s σ H _ I h) fun u s1 ⟨x, H1, I1, rx, ex, q⟩ => ?_) ht⟩
  subst ex
  obtain rfl : u = Value.ref C := rx
  refine getmethsm_ok I1 r c fun s2 I2 => ?_
  exact PySem.W.callWith_K (h₀ := X.base) (first := []) I.ok.mod.kin c.kp (thn (ha.run pos pins s2 σ H1 _ I2 q) fun us s3 ⟨vs, H2, I3, rv, q2⟩ => ⟨I3.kIn, wpAny_call (run_fnR F hr hx I3 rv q2)⟩) hst hpl
def tSMthK (C : Addr) (ks : List Str) (sp : Sp) (E : XK) (ta : TE) (tk : TA) : TE := fun σ H Q => ta σ H fun x H1 => x = .ref C ∧ tk σ H1 fun zs H2 => zs.length = ks.length ∧ sp zs H2 Q E
theorem pe_smethK {pl : Sem Bool} (he : PE X o ta) (r : ClX.CRead X.K C mc) (c : SMet X.K C mc m p g) (F : FnK X.prog X.w X.K X.mg X.base CX k g 0 ks sp) (hr : Room k X.A) (hx : Passes CX X E) (hkw : PK X kws tk)
    (hall : (backToKw pos (keywordEach kws X.env)).all (·.1.isSome) = true := by rfl) (hks : (backToKw pos (keywordEach kws X.env)).filterMap (·.1) = ks := by rfl)
    (hpl : ((backTo pos (starEach [] X.env)).any (·.1) || (backToKw pos (keywordEach kws X.env)).any (·.1.isNone)) = false := by rfl)
    (ht : eval (.Call (.Attribute o m apos) [] kws pos) X.env = (do
      let ov ← eval o X.env
      standAt apos.atName
      let (f, first) ← holding [ov] (getMethod ov m pl)
      callWith pos f first (backTo pos (starEach [] X.env)) (backToKw pos (keywordEach kws X.env))) := by rfl) :
    PE X (.Call (.Attribute o m apos) [] kws pos) (tSMthK C ks sp E ta tk) := by
  refine ⟨fun pins s σ H Q I h => PySem.W.methodCall_KW (pl := pl) (thn (he.run pins s σ H _ I h) fun u s1 ⟨x, H1, I1, rx, ex, q⟩ => ?_) ht⟩
  subst ex
  obtain rfl : u = Value.ref C := rx
  refine getmethsm_ok I1 r c fun s2 I2 => ?_
  refine PySem.W.callWith_KW0 (first := []) (h₀ := X.base) I.ok.mod.kin c.kp hall (thn (hkw.run pos pins s2 σ H1 _ I2 q) fun ws s3 ⟨zs, H2, I3, rz, l2, q2⟩ => ⟨I3.kIn, ?_⟩) hpl
  rw [hks]
  exact run_fnK (us := []) (vs := zs) F hr hx I3 rfl (by rw [← rz.length]; exact l2) rz q2
end
section
variable {P : Program} {w : World} {K : PySem.W.Frag} {mg : Str → Option Value} {base : Heap} {k : Nat} {f : Addr} {sp : Sp}
/-- a def that may raise: its promise, and its promise by keywords -/
theorem fnx {x qual : Str} {st : Stmt} {N ps : List Str} (F : FunE K x qual st f) (S : FnScope N ps (defScope st))
    (hb : ∀ (kV doc pm : Value) (an : Option Addr) (cdv ct : Value) (us : List Value), us.length = ps.length → bindArgs (PySem.W.fnOf x qual (defArgs st) (defBody st) (defScope st) .none kV doc pm an cdv ct) ⟨us, []⟩ = pure (ps.zip us))
    (len : ∀ vs H Q E, sp vs H Q E → vs.length = ps.length)
    (hbody : ∀ (cdv : Value) (A : Around) (outer : List Env) (s : Shared) (H : Hp) (vs : List V) (Q : VK) (E : XK), Room k (A.deeper (envOfC qual (defScope st) s.heap.objs.size f cdv)) → sp vs H Q E →
      ∃ t, PSs (cxOf (L2.CX P w) P w K mg base N qual (defScope st) f cdv A outer s H E) (defBody st) t ∧ t { nx := fun _ H' => Q .non H', rt := Q } (start N vs) H) : FnR P w K mg base (L2.CX P w) (k + 1) f sp := by
  obtain ⟨fd, F⟩ := F
  exact fnr_of (F.okX S len hbody) (F.binds hb)
theorem fnxk {x qual : Str} {st : Stmt} {N ps ks : List Str} {n : Nat} (F : FunE K x qual st f) (S : FnScope N ps (defScope st))
    (hk : ∀ (kV doc pm : Value) (an : Option Addr) (cdv ct : Value) (us ws : List Value), us.length = n → ws.length = ks.length → bindArgs (PySem.W.fnOf x qual (defArgs st) (defBody st) (defScope st) .none kV doc pm an cdv ct) ⟨us, ks.zip ws⟩ = pure (ps.zip (us ++ ws)))
    (len : ∀ vs H Q E, sp vs H Q E → vs.length = ps.length)
    (hbody : ∀ (cdv : Value) (A : Around) (outer : List Env) (s : Shared) (H : Hp) (vs : List V) (Q : VK) (E : XK), Room k (A.deeper (envOfC qual (defScope st) s.heap.objs.size f cdv)) → sp vs H Q E →
      ∃ t, PSs (cxOf (L2.CX P w) P w K mg base N qual (defScope st) f cdv A outer s H E) (defBody st) t ∧ t { nx := fun _ H' => Q .non H', rt := Q } (start N vs) H) : FnK P w K mg base (L2.CX P w) (k + 1) f n ks sp := by
  obtain ⟨fd, F⟩ := F
  obtain ⟨oc, od, kV, doc, pm, an, cdv, ct, osl, e, lk, hcd⟩ := id F.ex
  refine fnk_of (F.okX S len hbody) fun us ws h1 h2 => ?_
  rw [e]
  exact hk kV doc pm an cdv ct us ws h1 h2
/-- in such a def, what is wished of an error -/
theorem takesX {N : List Str} {qual : Str} {sc : Scope} {cdv : Value} {A : Around} {outer : List Env} {s : Shared} {H : Hp} {E : XK} : Takes (cxOf (L2.CX P w) P w K mg base N qual sc f cdv A outer s H E) (fun cls d _ H' => E cls d H') :=
  takes_of rfl rfl rfl rfl
/-- a def whose code object is known -/
def FunK (K : PySem.W.Frag) (x qual : Str) (st : Stmt) (f c : Addr) : Prop := ∃ (kV doc pm ct oc : Value) (an od : Option Addr) (osl : Array (Option Value)), K.lookup f = some ⟨oc, od, .func (PySem.W.fnOf x qual (defArgs st) (defBody st) (defScope st) .none kV doc pm an (.ref c) ct), osl⟩ ∧ PySem.W.codeIn K (.ref c) qual = true
theorem fnrc {x qual : Str} {st : Stmt} {N ps : List Str} {c : Addr} (F : FunK K x qual st f c) (S : FnScope N ps (defScope st))
    (hb : ∀ (kV doc pm : Value) (an : Option Addr) (cdv ct : Value) (us : List Value), us.length = ps.length → bindArgs (PySem.W.fnOf x qual (defArgs st) (defBody st) (defScope st) .none kV doc pm an cdv ct) ⟨us, []⟩ = pure (ps.zip us))
    (len : ∀ vs H Q E, sp vs H Q E → vs.length = ps.length)
    (hbody : ∀ (A : Around) (outer : List Env) (s : Shared) (H : Hp) (vs : List V) (Q : VK) (E : XK), Room k (A.deeper (envOfC qual (defScope st) s.heap.objs.size f (.ref c))) → sp vs H Q E →
      ∃ t, PSs (cxOf CX0 P w K mg base N qual (defScope st) f (.ref c) A outer s H E).nox (defBody st) t ∧ t { nx := fun _ H' => Q .non H', rt := Q } (start N vs) H) :
    ∃ fd, FnOk P w K mg base CX0 (k + 1) f fd ps sp ∧ Binds K fd ps [] := by
  obtain ⟨kV, doc, pm, ct, oc, an, od, osl, lk, hcd⟩ := F
  refine ⟨_, fn_of lk hcd S len fun A outer s H vs Q E hr hsp => ?_, .all (hb kV doc pm an (.ref c) ct)⟩
  obtain ⟨t, h, q⟩ := hbody A outer s H vs Q E hr hsp
  exact ⟨t, h.nox, q⟩
end
end NA

/-! The end of a law whose promise is asked only where no repr is under way (guards empty). -/
namespace NA
open PySem PySem.Spec PyProof.Rows L2
/-- a promise where the guards are empty -/
def FnG (P : Program) (w : World) (K : PySem.W.Frag) (mg : Str → Option Value) (base : Heap) (CX : CXT) (k : Nat) (f : Addr) (sp : Sp) : Prop :=
  ∀ (A : Around) (outer : List Env) (s : Shared) (H : Hp) (us : List Value) (vs : List V) (Q : VK) (E : XK), Room k A → A.guards = some [] → Env0 P w K mg base A outer s H → Vals vs us → sp vs H Q E →
    codeAny (model P w) A (.call (.ref f) ⟨us, []⟩) (CR CX outer P w H s Q E) s
/-- the things that stand when the law is called -/
structure Stand (K : PySem.W.Frag) (mg mb : Str → Option Value) (cs : List (Addr × Addr)) (a : Addr) (vs : List Value) (s : Shared) : Prop where
  kin : K.In s.heap
  glob : s.heap.Ns mainGlobals mg
  blt : s.heap.Ns builtinsNs mb
  bb : ∀ x : Str, x ≠ "__name__" → mb x = bootBuiltins x
  lim : s.heap.NoLimit
  tab : ∀ p ∈ cs, s.heap.get? p.2 = some { cls := .none, data := .fields #[] }
  out : ∀ p ∈ cs, K.lookup p.2 = none
  hd : ∀ p ∈ cs, PySem.W.CodeHd s.heap p.1 p.2
  bm : ∃ (b : Addr) (ob : Obj), mg "__builtins__" = some (.ref b) ∧ b ≠ builtinsNs ∧ s.heap.get? b = some ob ∧ ob.cls = .type "module" ∧ ob.dict = some builtinsNs ∧ ob.data = .plain
  arg : s.heap.get? a = some { cls := .type "list", data := .seq vs.toArray }
section
variable {P : Program} {w : World} {K : PySem.W.Frag} {mg mb : Str → Option Value} {cs : List (Addr × Addr)} {a : Addr} {vs : List Value} {s : Shared} {H : Hp}
/-- only the script and the tables are tracked -/
def Few (cs : List (Addr × Addr)) (a : Addr) (H : Hp) : Prop := ∀ b, H b ≠ none → b = a ∨ ∃ p ∈ cs, p.2 = b
theorem Stand.clear (S : Stand K mg mb cs a vs s) (F : Few cs a H) {b : Addr} {o : Obj} (e : s.heap.get? b = some o) (n1 : ∀ us n, o.data ≠ .seq us n) (n2 : o.data ≠ .fields #[]) : H b = none := by
  cases q : H b with
  | none => rfl
  | some u =>
    rcases F b (by rw [q]; intro z; cases z) with rfl | ⟨p, hp, rfl⟩
    · rw [S.arg] at e; cases e; exact (n1 _ _ rfl).elim
    · rw [S.tab p hp] at e; cases e; exact (n2 rfl).elim
theorem Stand.ns (S : Stand K mg mb cs a vs s) (F : Few cs a H) {b : Addr} {m : Str → Option Value} (h : s.heap.Ns b m) : (hidT s.heap H).Ns b m := by
  obtain ⟨o, es, ep, e, d, r⟩ := h
  exact ⟨o, es, ep, hidT_get e (S.clear F e (by rw [d]; intro _ _ z; cases z) (by rw [d]; intro z; cases z)), d, r⟩
theorem Stand.k (S : Stand K mg mb cs a vs s) (F : Few cs a H) (hK : H a ≠ none → K.lookup a = none) : K.In (hidT s.heap H) := by
  intro b o e
  refine hidT_get (S.kin b o e) ?_
  cases q : H b with
  | none => rfl
  | some u =>
    have nn : H b ≠ none := by rw [q]; intro z; cases z
    rcases F b nn with rfl | ⟨p, hp, rfl⟩
    · rw [hK nn] at e; cases e
    · rw [S.out p hp] at e; cases e
theorem Stand.env (S : Stand K mg mb cs a vs s) (F : Few cs a H) (hK : H a ≠ none → K.lookup a = none) (hok : HOk P w H s.heap) (hg : s.gens = #[]) : Env0 P w K mg (hidT s.heap H) callerA [] s H := by
  obtain ⟨mc, l1, l2⟩ := S.lim
  exact { frames := rfl, mod := ⟨S.k F hK, S.ns F S.glob, ⟨mb, S.ns F S.blt, S.bb⟩, ⟨mc, S.ns F l1, l2⟩⟩, bs := fun _ _ e => of_hidT e, bsz := Nat.le_of_eq (hidT_size _ _), funs := trivial, frf := fun b hb => (List.not_mem_nil (show b ∈ ([] : List Addr) from hb)).elim, hok := hok, bare := .of_eq hg }
theorem Stand.tabs (S : Stand K mg mb cs a vs s) (F : Few cs a H) : ∀ p ∈ cs, LamX.TabB (hidT s.heap H) mg p.1 p.2 := by
  intro p hp
  have tp := S.tab p hp
  obtain ⟨og, es, ep, eg, dg, _⟩ := S.glob
  refine { code := ?_, bm := ?_, gP := fun z => ?_ }
  · obtain ⟨o, us, r1, r2, r3, r4, r5, r6, r7, e1, c1, c2, c3, rest⟩ := S.hd p hp
    refine ⟨o, us, r1, r2, r3, r4, r5, r6, r7, hidT_get e1 (S.clear F e1 (by rw [c2]; intro _ _ z; cases z) ?_), c1, c2, c3, rest⟩
    rw [c2]
    intro z
    cases z
    simp at c3
  · obtain ⟨b, ob, b1, b2, b3, b4, b5, b6⟩ := S.bm
    refine ⟨b, ob, b1, b2, fun z => ?_, fun z => ?_, hidT_get b3 (S.clear F b3 (by rw [b6]; intro _ _ z; cases z) (by rw [b6]; intro z; cases z)), b4, b5, b6⟩
    · rw [z, eg] at b3; cases b3; rw [dg] at b6; cases b6
    · rw [z, tp] at b3; cases b3; cases b6
  · rw [z, tp] at eg; cases eg; cases dg
/-- behind the call all is as it was, but the tables, which may have grown -/
theorem Stand.old {s' : Shared} {H' : Hp} (S : Stand K mg mb cs a vs s) (F : Few cs a H) (hT : ∀ p ∈ cs, H p.2 = some (.tbl #[])) (hZ : H a = none ∨ ∃ o xs, H a = some (.frz o (.lst xs))) (hok : HOk P w H s.heap) (hok' : HOk P w H' s'.heap) (un : Un [] [] H H' s.heap s'.heap) : OldK s.heap s'.heap := by
  have kept : ∀ b o, (∀ p ∈ cs, p.2 ≠ b) → s.heap.get? b = some o → s'.heap.get? b = some o := fun b o nb e => by
    have go : H b = none → s'.heap.get? b = some o := fun q => un.keep b o e q List.not_mem_nil List.not_mem_nil
    by_cases q : H b = none
    · exact go q
    · rcases F b q with rfl | ⟨p, hp, z⟩
      · rcases hZ with z | ⟨ob, xs, z⟩
        · exact (q z).elim
        · have e1 := (hok _ _ z).1
          have e2 := (hok' _ _ (un.frzs _ _ _ z)).1
          rw [e] at e1
          cases e1
          exact e2
      · exact (nb p hp z).elim
  have more : ∀ p ∈ cs, ∃ m : Array Value, s'.heap.get? p.2 = some { cls := .none, data := .fields m } := fun p hp => by
    obtain ⟨m, z⟩ := un.tbls p.2 #[] (hT p hp)
    exact ⟨_, hok' _ _ z⟩
  refine ⟨fun b o e => ?_, fun b o e => ?_⟩
  · by_cases hb : ∃ p ∈ cs, p.2 = b
    · obtain ⟨p, hp, rfl⟩ := hb
      obtain ⟨m, hm⟩ := more p hp
      rw [S.tab p hp] at e
      cases e
      refine .inr (.inl ⟨((S.hd p hp).tab (S.tab p hp)).isCodeTable, rfl, #[], m, rfl, ?_⟩)
      rw [Array.empty_append]
      exact hm
    · exact .inl (kept b o (fun p hp z => hb ⟨p, hp, z⟩) e)
  · by_cases hb : ∃ p ∈ cs, p.2 = b
    · obtain ⟨p, hp, rfl⟩ := hb
      obtain ⟨m, hm⟩ := more p hp
      exact ⟨_, hm⟩
    · exact ⟨o, kept b o (fun p hp z => hb ⟨p, hp, z⟩) e⟩
theorem Stand.run {CX : CXT} {k : Nat} {fa : Addr} {sp : Sp} {ns : List Int} (S : Stand K mg mb cs a vs s) (F : Few cs a H) (hT : ∀ p ∈ cs, H p.2 = some (.tbl #[])) (hZ : H a = none ∨ ∃ o xs, H a = some (.frz o (.lst xs))) (hok : HOk P w H s.heap) (hK : H a ≠ none → K.lookup a = none) (hg : s.gens = #[]) (hr : Room k callerA)
    (G : ∀ base : Heap, K.In base → base.Ns mainGlobals mg → (∀ p ∈ cs, LamX.TabB base mg p.1 p.2) → FnG P w K mg base CX k fa sp) (hsp : sp [.ref a] H (fun v _ => v = .bl true) fun _ _ _ => False) (hCX : ∀ e s', CX [] H s (fun _ _ _ => False) e s' → False) :
    codeAny (model P w) callerA (.call (.ref fa) ⟨[.ref a], []⟩) (fun r s' => r = .ok (.ret (.bool true)) ∧ OldK s.heap s'.heap ∧ s'.os = s.os ∧ AllBare s'.gens) s := by
  have R := G (hidT s.heap H) (S.k F hK) (S.ns F S.glob) (S.tabs F) callerA [] s H [.ref a] [.ref a] _ _ hr rfl (S.env F hK hok hg) (.cons rfl .nil) hsp
  refine codeAny_mono R fun r s' h => ?_
  match r, h with
  | .error e, h => exact (hCX e s' h).elim
  | .ok (.ret u), h =>
    obtain ⟨v, H', os, bare, un, hok', rv, q⟩ := h
    have q : v = .bl true := q
    subst q
    cases rv
    exact ⟨rfl, S.old F hT hZ hok hok' un, os, bare⟩
theorem Stand.call {CX : CXT} {k : Nat} {fa : Addr} {sp : Sp} {ns : List Int} (S : Stand K mg mb cs a vs s) (hg : s.gens = #[]) (hi : IntsAre vs ns) (hl : ns.length ≤ sizeLine) (hr : Room k callerA)
    (G : ∀ base : Heap, K.In base → base.Ns mainGlobals mg → (∀ p ∈ cs, LamX.TabB base mg p.1 p.2) → FnG P w K mg base CX k fa sp)
    (hsp : ∀ H : Hp, (∀ p ∈ cs, H p.2 = some (.tbl #[])) → SqL K H a (ns.map V.int) → sp [.ref a] H (fun v _ => v = .bl true) fun _ _ _ => False) (hCX : ∀ H e s', CX [] H s (fun _ _ _ => False) e s' → False) :
    codeAny (model P w) callerA (.call (.ref fa) ⟨[.ref a], []⟩) (fun r s' => r = .ok (.ret (.bool true)) ∧ OldK s.heap s'.heap ∧ s'.os = s.os ∧ AllBare s'.gens) s := by
  have na : ∀ p ∈ cs, p.2 ≠ a := fun p hp z => by
    have e := S.tab p hp
    rw [z, S.arg] at e
    have e' := congrArg (Option.map Obj.data) e
    simp at e'
  have rv := vals_ints hi
  let T : Hp := fun b => if b ∈ cs.map (·.2) then some (.tbl #[]) else none
  have Tin : ∀ p ∈ cs, T p.2 = some (.tbl #[]) := fun p hp => if_pos (List.mem_map.mpr ⟨p, hp, rfl⟩)
  have Tof : ∀ b, T b ≠ none → ∃ p ∈ cs, p.2 = b := fun b h => by
    by_cases hb : b ∈ cs.map (·.2)
    · exact List.mem_map.mp hb
    · exact (h (if_neg hb)).elim
  have Tok : ∀ b u, T b = some u → ObjOk P w T s.heap b u ∧ u = .tbl #[] ∧ ∃ p ∈ cs, p.2 = b := fun b u h => by
    obtain ⟨p, hp, rfl⟩ := Tof b (by rw [h]; intro z; cases z)
    rw [Tin p hp] at h
    cases h
    exact ⟨S.tab p hp, rfl, p, hp, rfl⟩
  have Ta : T a = none := if_neg fun h => by
    obtain ⟨p, hp, z⟩ := List.mem_map.mp h
    exact na p hp z
  cases hk : K.lookup a with
  | some o =>
    have e := S.kin a o hk
    rw [S.arg] at e
    cases e
    refine S.run (H := T) (ns := ns) (fun b h => .inr (Tof b h)) Tin (.inl Ta) (fun b u h => (Tok b u h).1) (fun h => (h Ta).elim) hg hr G (hsp T Tin (.inr ⟨_, vs.toArray, _, hk, rfl, rfl, rfl, ?_, by simpa using rv⟩)) (hCX T)
    rw [List.size_toArray, hi.length]
    exact hl
  | none =>
    let H : Hp := fun b => if b = a then some (.frz { cls := .type "list", data := .seq vs.toArray } (.lst (ns.map V.int))) else T b
    have Ha : H a = some (.frz { cls := .type "list", data := .seq vs.toArray } (.lst (ns.map V.int))) := if_pos rfl
    have Hb : ∀ b, b ≠ a → H b = T b := fun b h => if_neg h
    refine S.run (H := H) (ns := ns) (fun b h => ?_) (fun p hp => by rw [Hb _ (na p hp)]; exact Tin p hp) (.inr ⟨_, _, Ha⟩) (fun b u h => ?_) (fun _ => hk) hg hr G (hsp H (fun p hp => by rw [Hb _ (na p hp)]; exact Tin p hp) (.inl (.inr ⟨_, Ha⟩))) (hCX H)
    · by_cases hb : b = a
      · exact .inl hb
      · rw [Hb b hb] at h; exact .inr (Tof b h)
    · by_cases hb : b = a
      · subst hb
        rw [Ha] at h
        cases h
        exact ⟨S.arg, by rw [List.length_map]; exact hl, vs, _, rv, S.arg⟩
      · rw [Hb b hb] at h
        obtain ⟨_, rfl, p, hp, rfl⟩ := Tok b u h
        exact S.tab p hp
end
/-- the end of a law row -/
theorem walk_G {l : PySem.W.OpenLaw} {n k : Nat} {q : Program} {loose : List Str} {XP : (Str → Option Value) → Heap → Prop} {YP : World → Heap → Prop} {d : DefRec} {K : Params → PySem.W.Frag} (hn : l.most = some n) (hn2 : n ≤ sizeLine) (hdf : d.params.defaults = []) (hr : Room k callerA) (hY : ∀ (w : World) (h : Heap), YP w h → (K w.params).In h)
    (F : ∀ (w : World) (mg : Str → Option Value) (fa : Addr) (h : Heap), YP w h → (K w.params).In h → h.Ns mainGlobals mg → mg d.name = some (.ref fa) →
      ∃ (cs : List (Addr × Addr)) (sp : Sp), (∀ p ∈ cs, h.get? p.2 = some { cls := .none, data := .fields #[] }) ∧ (∀ p ∈ cs, (K w.params).lookup p.2 = none) ∧ (∀ p ∈ cs, PySem.W.codeHdIn (K w.params) p.1 p.2 = true) ∧
        (∀ (H : Hp) (a : Addr) (ns : List Int), ns.length ≤ n → (∀ z ∈ ns, Builtin.Int.intBits z ≤ 1048576) → (∀ p ∈ cs, H p.2 = some (.tbl #[])) → SqL (K w.params) H a (ns.map V.int) → sp [.ref a] H (fun v _ => v = .bl true) fun _ _ _ => False) ∧
        ∀ base : Heap, (K w.params).In base → base.Ns mainGlobals mg → (∀ p ∈ cs, LamX.TabB base mg p.1 p.2) → FnG l.prog w (K w.params) mg base CX0 k fa sp) :
    PySem.W.WalkO q loose XP YP l.row.toRowW d [] (fun f vs => PySem.call f vs) := by
  refine Att.attach_callB hn hdf fun w s₀ s₁ mg mb fa o pm cd doc a vs ns G Y ho hd hcd hmg hobj hints hlen hbits hg => ?_
  have KX := hY w _ Y
  obtain ⟨cs, sp, h1, h2, h3, h4, h5⟩ := F w mg fa _ Y KX G.T.g hmg
  have S : Stand (K w.params) mg mb cs a vs s₁ := ⟨KX, G.T.g, G.T.b, G.T.builtins, G.T.nolimit, h1, h2, fun p hp => PySem.W.codeHd_of_K KX (h3 p hp), G.T.bmain, hobj⟩
  exact S.call hg hints (Nat.le_trans hlen hn2) hr h5 (fun H hT hS => h4 H a ns hlen hbits hT hS) fun _ _ _ z => z
end NA

/-! Part J: defs called where no repr is under way; repr of data. -/
namespace NA
open PySem PySem.Spec PyProof.Rows L2
section
variable {P : Program} {w : World} {K : PySem.W.Frag} {mg : Str → Option Value} {base : Heap} {k : Nat} {f : Addr} {sp : Sp}
theorem fng {x qual : Str} {st : Stmt} {N ps : List Str} {c : Addr} (F : FunK K x qual st f c) (S : FnScope N ps (defScope st))
    (hb : ∀ (kV doc pm : Value) (an : Option Addr) (cdv ct : Value) (us : List Value), us.length = ps.length → bindArgs (PySem.W.fnOf x qual (defArgs st) (defBody st) (defScope st) .none kV doc pm an cdv ct) ⟨us, []⟩ = pure (ps.zip us))
    (len : ∀ vs H Q E, sp vs H Q E → vs.length = ps.length)
    (hbody : ∀ (A : Around) (outer : List Env) (s : Shared) (H : Hp) (vs : List V) (Q : VK) (E : XK), Room k (A.deeper (envOfC qual (defScope st) s.heap.objs.size f (.ref c))) → A.guards = some [] → sp vs H Q E →
      ∃ t, PSs (cxOf CX0 P w K mg base N qual (defScope st) f (.ref c) A outer s H E).nox (defBody st) t ∧ t { nx := fun _ H' => Q .non H', rt := Q } (start N vs) H) :
    FnG P w K mg base CX0 (k + 1) f sp := by
  obtain ⟨kV, doc, pm, ct, oc, an, od, osl, lk, hcd⟩ := F
  intro A outer s H us vs Q E hr hg e0 r hs
  have hl := len vs H Q E hs
  refine LamX.run_ofS lk hcd S hr e0 (.of_eq (hb kV doc pm an (.ref c) ct us (by rw [← r.length]; exact hl))) r hl fun hr' => ?_
  obtain ⟨t, h, q⟩ := hbody A outer s H vs Q E hr' hg hs
  exact ⟨t, h.nox, q⟩
end
section
variable {X : Cx} {CX : CXT} {k : Nat} {f : Addr} {sp : Sp} {E : XK} {x : Str} {e : Expr} {es : List Expr} {t : TA} {p pos : Pos}
theorem pe_clG (F : FnG X.prog X.w X.K X.mg X.base CX k f sp) (hr : Room k X.A) (hgd : X.A.guards = some []) (hg : Gl X x) (hm : X.mg x = some (.ref f)) (hk : PySem.W.keepIn X.K (.ref f) = true) (hx : Passes CX X E)
    (ha : PA X (e :: es) t) (hdb : (x == ("__debug__" : Str)) = false := by decide) (he : starEach (e :: es) X.env = (false, eval e X.env) :: starEach es X.env := by rfl) (hpl : (backTo pos (starEach es X.env)).any (·.1) = false := by rfl) :
    PE X (.Call (.Name x p) (e :: es) [] pos) (tCl sp E t) := by
  refine ⟨fun pins s σ H Q I h => ?_⟩
  refine wpAny_Call_Name_kw (ld_glob I hg hm ?_ hdb)
  refine PySem.W.callWith_K (h₀ := X.base) I.ok.mod.kin hk (thn (ha.run pos pins s σ H _ I h) fun us s1 ⟨vs, H1, I1, r, q⟩ => ⟨I1.kIn, ?_⟩) he hpl
  refine wpAny_call (codeAny_mono (F X.A X.stack s1 H1 us vs Q E hr hgd I1.env0 r q) fun r s' hq => ?_)
  match r, hq with
  | .error e, hq => exact hx pins σ H1 s1 e s' I1 hq
  | .ok (.ret u), hq => exact I1.after hq
end
/-! ### data that repr tells, dicts among them -/
mutual
inductive Dq (K : PySem.W.Frag) (H : Hp) : V → PyData → Prop
  | non : Dq K H .non .none
  | bl (b : Bool) : Dq K H (.bl b) (.bool b)
  | int (i : Int) : Dq K H (.int i) (.int i)
  | str (x : Str) : Dq K H (.str x) (.str x)
  | lst {a : Addr} {xs : List V} {ds : List PyData} : H a = some (.lst xs) → a ≠ sysModules → DqAll K H xs ds → Dq K H (.ref a) (.list ds)
  | tup {a : Addr} {xs : List V} {ds : List PyData} : H a = some (.tup xs) → DqAll K H xs ds → Dq K H (.ref a) (.tuple ds)
  | dic0 {a : Addr} : H a = some (.dK []) → Dq K H (.ref a) (.dict [])
  | dic1 {a : Addr} {z y : Str} : H a = some (.dK [(.inr z, .str y)]) → Dq K H (.ref a) (.dict [(.str z, .str y)])
inductive DqAll (K : PySem.W.Frag) (H : Hp) : List V → List PyData → Prop
  | nil : DqAll K H [] []
  | cons {v : V} {vs : List V} {d : PyData} {ds : List PyData} : Dq K H v d → DqAll K H vs ds → DqAll K H (v :: vs) (d :: ds)
end
section
variable {X : Cx} {pins : List (Addr × Obj)} {σ : L2.St} {H : Hp} {s : Shared}
mutual
theorem Dq.reads (I : Inv X pins σ H s) : ∀ (d : PyData) (v : V) (u : Value), Dq X.K H v d → L2.RelV v u → ∃ as, Reads s.heap u d as ∧ sysModules ∉ as
  | .none, _, _, h, r => by cases h; cases r; exact ⟨_, .none, List.not_mem_nil⟩
  | .bool b, _, _, h, r => by cases h; cases r; exact ⟨_, .bool b, List.not_mem_nil⟩
  | .int i, _, _, h, r => by cases h; obtain ⟨t, rfl⟩ := r; exact ⟨_, .int i t, List.not_mem_nil⟩
  | .str x, _, _, h, r => by cases h; obtain ⟨t, rfl⟩ := r; exact ⟨_, .str x t, List.not_mem_nil⟩
  | .list ds, _, u, h, r => by
    cases h with
    | lst e na hs =>
      rename_i a xs
      cases (show u = Value.ref a from r)
      obtain ⟨_, its, n, rv, ho⟩ := (show ObjOk X.prog X.w H s.heap a (.lst xs) from I.hok a _ e)
      obtain ⟨as, ra, nas⟩ := DqAll.reads I ds xs its hs rv
      refine ⟨a :: as, .list ho rfl rfl ra, fun z => ?_⟩
      rcases List.mem_cons.mp z with z | z
      · exact na z.symm
      · exact nas z
  | .tuple ds, _, u, h, r => by
    cases h with
    | tup e hs =>
      rename_i a xs
      cases (show u = Value.ref a from r)
      obtain ⟨_, its, rv, o, ho, hc, n, hn⟩ := (show ObjOk X.prog X.w H s.heap a (.tup xs) from I.hok a _ e)
      obtain ⟨as, ra, nas⟩ := DqAll.reads I ds xs its hs rv
      exact ⟨as, .tuple ho hc hn ra, nas⟩
  | .dict kvs, _, u, h, r => by
    cases h with
    | dic0 e =>
      rename_i a
      cases (show u = Value.ref a from r)
      obtain ⟨_, ns, vs, rv, o, es, ep, ho, hx, hd, hko, hp, hnd⟩ := (show ObjOk X.prog X.w H s.heap a (.dK []) from I.hok a _ e)
      cases rv
      have he : es.toList = [] := by generalize es.toList = l at hp; cases hp; rfl
      refine ⟨_, .dict ho hx.1 hd (as := []) (bs := []) (by rw [he]; exact .nil) (by rw [he]; exact .nil), fun z => ?_⟩
      have z : sysModules ∈ [a] := z
      rw [List.mem_singleton.mp z] at ns
      simp at ns
    | dic1 e =>
      rename_i a z y
      cases (show u = Value.ref a from r)
      obtain ⟨_, ns, vs, rv, o, es, ep, ho, hx, hd, hko, hp, hnd⟩ := (show ObjOk X.prog X.w H s.heap a (.dK [(.inr z, .str y)]) from I.hok a _ e)
      cases rv with
      | cons r1 r2 =>
        cases r2
        rename_i q
        obtain ⟨e1, t2, e2⟩ := r1
        obtain ⟨en, he, hk, hv⟩ : ∃ en, es.toList = [en] ∧ keyIs q.1 en.key = true ∧ en.val = q.2 := by
          generalize es.toList = l at hp
          cases hp with
          | cons h1 h2 h3 => cases h3; exact ⟨_, rfl, h1, h2⟩
        rw [← e1] at hk
        obtain ⟨t1, ek⟩ : ∃ t, en.key = .str z t := by
          rcases keyIs_shape hk with ⟨i, t, z1, _⟩ | ⟨x, t, z1, z2⟩
          · cases z1
          · cases z1; exact ⟨t, z2⟩
        refine ⟨_, .dict ho hx.1 hd (as := []) (bs := []) (by rw [he]; show ReadsAll _ [en.key] _ _; rw [ek]; exact .cons (.str z t1) .nil) (by rw [he]; show ReadsAll _ [en.val] _ _; rw [hv, e2]; exact .cons (.str y t2) .nil), fun w => ?_⟩
        have w : sysModules ∈ [a] := w
        rw [List.mem_singleton.mp w] at ns
        simp at ns
theorem DqAll.reads (I : Inv X pins σ H s) : ∀ (ds : List PyData) (vs : List V) (us : List Value), DqAll X.K H vs ds → Vals vs us → ∃ as, ReadsAll s.heap us ds as ∧ sysModules ∉ as
  | [], _, _, h, r => by cases h; cases r; exact ⟨_, .nil, List.not_mem_nil⟩
  | d :: ds, _, _, h, r => by
    cases h with
    | cons h1 h2 =>
      cases r with
      | cons r1 r2 =>
        obtain ⟨as, a1, a2⟩ := Dq.reads I d _ _ h1 r1
        obtain ⟨bs, b1, b2⟩ := DqAll.reads I ds _ _ h2 r2
        exact ⟨as ++ bs, .cons a1 b1, fun z => (List.mem_append.mp z).elim a2 b2⟩
end
end
section
variable {X : Cx} {es : List Expr} {t : TA} {pos : Pos}
def rReprD (K : PySem.W.Frag) : List V → Hp → VK → Prop := fun xs H Q => ∃ (a : Addr) (d : PyData), xs = [.ref a] ∧ Dq K H (.ref a) d ∧ d.showable = true ∧ d.depth ≤ 40 ∧ d.shown.length ≤ sizeLine ∧ Q (.str d.shown) H
theorem call_reprD (hg : X.A.guards = some []) (hu : X.A.units + 64 < cLine) : CallR X (.builtin "repr") (rReprD X.K) := by
  intro pins s σ H xs us Q I r h
  obtain ⟨a, d, rfl, hd, hs, hdp, hz, q⟩ := h
  obtain ⟨u, rfl, ru⟩ := vals1 r
  cases (show u = Value.ref a from ru)
  obtain ⟨as, hr, hn⟩ := hd.reads I d _ _ rfl
  exact repr_of_reads' hr hs (fun _ => hn) hg (by omega) (fun _ _ e => e) (fun h' u tk hk => ⟨.str d.shown, H, I.kept hk, ⟨_, rfl⟩, q⟩) hz
/-- [..], the new list told not to be sys.modules -/
def tLstN (t : TA) : TE := fun σ H Q => t σ H fun xs H1 => xs.length ≤ sizeLine ∧ ∀ p, H1 p = none → p ≠ sysModules → Q (.ref p) (upd H1 p (.lst xs))
theorem pe_lstN (h : PA X es t) : PE X (.List es pos) (tLstN t) := by
  refine ⟨fun pins s σ H Q I hq => wpAny_List_spliced (thn (h.run pos pins s σ H _ I hq) fun us s1 hh => ?_)⟩
  obtain ⟨xs, H1, I1, r, z, q⟩ := hh
  refine ⟨by rw [← r.length]; exact z, .ref s1.heap.objs.size, _, I1.laid (t' := s1.toks) (o := .lst xs) (fun b u e => Heap.get?_push_of_some _ e) (Nat.le_refl _) ⟨z, us, 0, r, Heap.get?_push_size _ rfl⟩, rfl, q _ (I1.hok.fresh (Nat.le_refl _)) fun e => ?_⟩
  obtain ⟨o, _, _, ho, _⟩ := I1.mod.glob.keeps I1.bk
  have := Heap.lt_size ho
  rw [e] at this
  exact absurd this (by decide)
end
end NA

/-! Part L: repr of a tuple of a text and an own object. -/
namespace NA
open PySem PySem.Spec PyProof.Rows L2
section
variable {prog : Program} {w : World} {A : Around} {E : Value → Shared → Prop} {s : Shared} {K : PySem.W.Frag} {x C f : Addr} {ox : Obj} {od : Option Obj}
theorem reprUnder_own {b : Nat} {Q : Str → Shared → Prop} (X : K.In s.heap) (I : PySem.W.InstAt s.heap x ox C od) (hr : PySem.W.findIn K (.ref C) "__repr__" = some (some (.ref f))) (hf : PySem.W.isFn K (.ref f) = true) (hu : A.units < cLine) (hb : b ≤ sizeLine)
    (h : wpAny (model prog w) A (call (.ref f) [.ref x]) (fun v s' => ∃ m u, v = .str m u ∧ Q m s') E s) : wpAny (model prog w) A (pyReprUnder b (.ref x)) Q E s := by
  refine wpAny_pyReprUnder_ref hb ?_
  unfold pyReprObjUnder pyReprObjBy
  refine wpAny_bind (wpAny_cRoomFor hu (wpAny_bind (wpAny_bind (I.type.here ((PySem.W.looks_findIn X hr).here ?_)))))
  show wpAny _ _ (if (some (Value.ref f)).isNone = true then _ else _) _ _ _
  rw [if_neg (by simp)]
  refine wpAny_bind (m := callSpecialIfBoundBy? _ (.ref x) (Str.ofString "__repr__")) ?_
  simp only [callSpecialIfBoundBy?, bindSpecialIfBound?]
  refine wpAny_holding (wpAny_bind (wpAny_bind (wpAny_bind (I.type.here ((PySem.W.looks_findIn X hr).here ?_)))))
  refine wpAny_bind (wpAny_askSetting (wpAny_ite ?_))
  have fin : wpAny (model prog w) A (call (.ref f) ([.ref x] ++ []) >>= fun v => pure (some v)) (fun r s' => ∃ m u, r = some (.str m u) ∧ Q m s') E s :=
    wpAny_bind (wpAny_mono h (fun v s' h' => wpAny_pure (by obtain ⟨m, u, rfl, q⟩ := h'; exact ⟨m, u, rfl, q⟩)) fun _ _ h' => h')
  have fin2 := wpAny_mono fin (Q' := fun r s' => wpAny (model prog w) A (match r with
    | some r => (do if ← isInstance r (.type "str") then pure r else raiseError "TypeError" s!"__repr__ returned non-string (type {← typeNameOf r})")
    | none => unsupported "repr:special-get-raises") (fun v s' => ∃ x u, v = .str x u ∧ Q x s') E s') (fun r s' hr => by
      obtain ⟨m, u, rfl, q⟩ := hr
      exact wpAny_bind (wpAny_isInstance (T := "str") (b := true) (typeIs_str _ _ _) isSubtype_str_str (wpAny_pure ⟨m, u, rfl, q⟩))) fun _ _ h' => h'
  split
  · exact wpAny_bind ((PySem.W.bind_fn X _ (beq_iff_eq.mp hf)).here (wpAny_pure (by exact fin2)))
  · exact wpAny_tryCatch (wpAny_bind ((PySem.W.bind_fn X _ (beq_iff_eq.mp hf)).here (wpAny_pure (by exact fin2))))
/-- repr((text, own object)) -/
theorem repr_pairO {t : Addr} {o : Obj} {z : Str} {tk : Tok} {n : Nat} {Q : Value → Shared → Prop} (ht : s.heap.get? t = some o) (hc : o.cls = .type "tuple") (hd : o.data = .seq #[.str z tk, .ref x] n) (hg : A.guards = some []) (hu : A.units + 8 < cLine) (hz : (reprText z).length ≤ 1000000)
    (X : K.In s.heap) (I : PySem.W.InstAt s.heap x ox C od) (hr : PySem.W.findIn K (.ref C) "__repr__" = some (some (.ref f))) (hf : PySem.W.isFn K (.ref f) = true)
    (h : ∀ (A' : Around) (k : Nat), A'.frames = A.frames → A'.handled = A.handled → A'.depth ≤ A.depth + 1 → A'.units ≤ A.units + 4 →
      wpAny (model prog w) A' (call (.ref f) [.ref x]) (fun v s' => ∃ m u, v = .str m u ∧ m.length ≤ 1000000 ∧ ∀ u' k', Q (.str (tupleText [reprText z, m]) u') { s' with toks := k' }) E { s with toks := k }) :
    wpAny (model prog w) A (call (.builtin "repr") [.ref t]) Q E s := by
  refine call_repr_slot (by omega) ⟨o, ht, hc⟩ F.slot_tuple_repr ?_
  refine wpAny_call (codeAny_call_builtin_own (Code.quiet_builtin _ (by decide +kernel)) F.entry_tuple_repr (F.slot_tuple_repr.check _ _ _ _ _ _ _ _ ⟨o, ht, hc⟩ (F.args_tuple_repr_1 _) ?_))
  show wpOwn _ _ _ (Builtin.tupleReprAt 0 ⟨[.ref t], []⟩) _ _ s
  rw [tuple_repr_tree, tupleReprUnderWay_eq]
  refine wpOwn_bind (wpOwn_stackTailAny (g := []) hg (tupGuardF_off _) (tupGuardF_pos _) (wpOwn_of_wpAny ?_))
  show wpAny _ _ (tupleReprRest 0 (.ref t)) _ _ s
  unfold tupleReprRest Builtin.Tuple.tupleItemsOf
  refine wpAny_bind (wpAny_bind (wpAny_seqItems ht hd (wpAny_pure ?_)))
  rw [← Array.forIn_toList]
  have hzl : (reprText z).length ≤ sizeLine := sz hz
  have big : 3000000 ≤ sizeLine := by decide
  have hw : (A.in1.under (.builtin "tuple.__repr__" ⟨[.ref t], []⟩)).depth ≤ A.depth + 1 := by
    show A.depth + Code.weight (.builtin "tuple.__repr__" ⟨[.ref t], []⟩) ≤ A.depth + 1
    have : Code.weight (.builtin "tuple.__repr__" ⟨[.ref t], []⟩) = 1 := by first | kernel_rfl | rfl
    omega
  have un := units_under_tuple_repr A.in1 ⟨[.ref t], []⟩
  refine wpAny_bind ?_
  show wpAny _ _ (forIn [Value.str z tk, Value.ref x] (⟨#[], 0⟩ : (Array Str × Nat)) tupBody) _ _ s
  rw [List.forIn_cons]
  refine wpAny_bind (wpAny_bind (ReprIs.str z tk hzl (0 + 1) (by omega) _ _ _ _ fun k1 => wpAny_pure ?_))
  show wpAny _ _ (forIn [Value.ref x] _ tupBody) _ _ _
  rw [List.forIn_cons]
  refine wpAny_bind (wpAny_bind (reprUnder_own (s := { s with toks := k1 }) X I hr hf (by rw [un]; show A.units + 1 + 1 < cLine; omega) (by omega) ?_))
  refine wpAny_mono (h _ k1 rfl rfl hw (by rw [un]; show A.units + 1 + 1 ≤ _; omega)) (fun v s2 hv => ?_) fun _ _ z => z
  obtain ⟨m, u, rfl, hm, q⟩ := hv
  refine ⟨m, u, rfl, wpAny_pure ?_⟩
  show wpAny _ _ (forIn ([] : List Value) _ tupBody) _ _ s2
  simp only [List.forIn_nil]
  refine wpAny_pure ?_
  have hl : (tupleText [reprText z, m]).length ≤ sizeLine := by
    have e : tupleText [reprText z, m] = ("(" : Str) ++ (reprText z ++ ", " ++ m) ++ ")" := rfl
    rw [e, strLen_append, strLen_append, strLen_append, strLen_append]
    have e1 : (("(" : String) : Str).length = 1 := rfl
    have e2 : ((")" : String) : Str).length = 1 := rfl
    have e3 : ((", " : String) : Str).length = 2 := rfl
    rw [e1, e2, e3]
    omega
  refine wpAny_bind (wpAny_mkStr (wpAny_pure ?_) hl)
  exact ⟨_, _, rfl, q _ _⟩
end
section
variable {X : Cx} {CX : CXT} {n : Nat} {C f : Addr} {sp : Sp} {E : XK}
def rReprPO (C : Addr) (sp : Sp) (E : XK) : List V → Hp → VK → Prop := fun xs H Q => ∃ (t : Addr) (z : Str) (a dx : Addr) (fs : List (Str × V)), xs = [.ref t] ∧ H t = some (.tup [.str z, .ref a]) ∧ (reprText z).length ≤ 1000000 ∧ H a = some (.ins C dx fs) ∧
  sp [.ref a] H (fun v H' => ∃ m : Str, v = .str m ∧ m.length ≤ 1000000 ∧ Q (.str (tupleText [reprText z, m])) H') E
theorem call_reprPO (S : Spc X.K C "__repr__" f) (F : FnR X.prog X.w X.K X.mg X.base CX n f sp) (hr : Room (n + 1) X.A) (hg : X.A.guards = some []) (hx : Passes CX X E) : CallR X (.builtin "repr") (rReprPO C sp E) := by
  intro pins s σ H xs us Q I r h
  obtain ⟨t, z, a, dx, fs, rfl, ht, hz, ha, q⟩ := h
  obtain ⟨u, rfl, ru⟩ := vals1 r
  cases (show u = Value.ref t from ru)
  obtain ⟨_, its, rv, o, ho, hc, k, hk⟩ := (show ObjOk X.prog X.w H s.heap t (.tup [.str z, .ref a]) from I.hok t _ ht)
  obtain ⟨tk, rfl⟩ : ∃ tk, its = [.str z tk, .ref a] := by
    cases rv with
    | cons r1 r2 =>
      cases r2 with
      | cons r3 r4 =>
        cases r4
        obtain ⟨tk, rfl⟩ := r1
        cases r3
        exact ⟨tk, rfl⟩
  obtain ⟨od, J⟩ := inst_of I ha
  refine repr_pairO (K := X.K) ho hc hk hg (by have := hr.un; omega) hz I.kIn J S.at_ S.fn fun A' k' e1 e2 e3 e4 => ?_
  have hr' : Room n A' := ⟨e2.trans hr.hd, by have := hr.dp; omega, by have := hr.un; omega⟩
  refine wpAny_mono (run_sub (vs := [.ref a]) F hr' e1 hx (I.tok k') (.cons rfl .nil) q) (fun w s' y => ?_) fun _ _ y => y
  obtain ⟨v, H', I', rw', m, rfl, hm, q'⟩ := y
  obtain ⟨u, rfl⟩ := rw'
  exact ⟨m, u, rfl, hm, fun u' k2 => ⟨.str _, H', I'.tok k2, ⟨_, rfl⟩, q'⟩⟩
/-- str(a), a's class with an own __str__ -/
def rStrC (C : Addr) (sp : Sp) (E : XK) : List V → Hp → VK → Prop := fun xs H Q => ∃ (a dx : Addr) (fs : List (Str × V)), xs = [.ref a] ∧ H a = some (.ins C dx fs) ∧ sp [.ref a] H (fun v H' => ∃ m : Str, v = .str m ∧ Q (.str m) H') E
theorem call_strC (S : Spc X.K C "__str__" f) (F : FnR X.prog X.w X.K X.mg X.base CX n f sp) (hr : Room (n + 1) X.A) (hx : Passes CX X E) : CallR X (.type "str") (rStrC C sp E) := by
  intro pins s σ H xs us Q I r h
  obtain ⟨a, dx, fs, rfl, ha, q⟩ := h
  obtain ⟨u, rfl, ru⟩ := vals1 r
  cases (show u = Value.ref a from ru)
  obtain ⟨od, J⟩ := inst_of I ha
  have hr' : Room n X.A.in1.in1 := ⟨hr.hd, by have := hr.dp; show X.A.depth + 3 * n + 5 < _; omega, by have := hr.un; show X.A.units + 1 + 1 + 16 * n + 200 < _; omega⟩
  refine PySem.W.kso_call (by have := hr.un; show X.A.units + 1 + 1 < _; omega) I.kIn J S.at_ S.fn ?_
  refine wpAny_mono (run_sub (vs := [.ref a]) F hr' rfl hx I (.cons rfl .nil) q) (fun w s' y => ?_) fun _ _ y => y
  obtain ⟨v, H', I', rw', m, rfl, q'⟩ := y
  obtain ⟨u, rfl⟩ := rw'
  exact ⟨.str m, H', I', ⟨_, rfl⟩, q'⟩
end
end NA

/-! Part M: repr of lists and tuples with own objects in them. -/
namespace NA
open PySem PySem.Spec PyProof.Rows L2
open Builtin.List in
/-- v's repr is t while G stands: room n, none of the containers as being printed already -/
def Rp (X : Cx) (n : Nat) (as : List Addr) (G : Hp → Prop) (v : V) (t : Str) : Prop :=
  ∀ (pins : List (Addr × Obj)) (σ : L2.St) (H : Hp) (s : Shared) (u : Value) (base : Nat) (A : Around) (g : List Code) (Q : Str → Shared → Prop), Inv X pins σ H s → L2.RelV v u → G H → base + t.length ≤ sizeLine → A.guards = some g → (∀ b ∈ as, Clear g b) → A.frames = X.A.frames → Room n A →
    (∀ H' s', Inv X pins σ H' s' → Same H H' → Q t s') → wpAny (model X.prog X.w) A (pyReprUnder base u) Q X.xe s
section
variable {X : Cx} {CX : CXT} {n : Nat} {C f : Addr} {sp : Sp} {E : XK} {as : List Addr} {G : Hp → Prop}
theorem Rp.is {v : V} {t : Str} (h : ∀ u, L2.RelV v u → ReprIs X.prog X.w u t) : Rp X n as G v t := fun pins σ H s u base A g Q I r hG hb _ _ _ _ hQ =>
  h u r base hb A X.xe s Q fun tk => hQ H _ (I.tok tk) (Same.refl H)
theorem Rp.non : Rp X n as G .non "None" := .is fun u r => by cases r; exact ReprIs.none
theorem Rp.bl (b : Bool) : Rp X n as G (.bl b) (if b then "True" else "False" : String) := .is fun u r => by
  cases r
  have := ReprIs.bool (prog := X.prog) (w := X.w) b
  cases b <;> exact this
theorem Rp.int {i : Int} (h : i.natAbs.log2 < 1920) : Rp X n as G (.int i) (toString i) := .is fun u r => by
  obtain ⟨t, rfl⟩ := r; exact ReprIs.int t h
theorem Rp.str {z : Str} (h : (reprText z).length ≤ sizeLine) : Rp X n as G (.str z) (reprText z) := .is fun u r => by
  obtain ⟨t, rfl⟩ := r; exact ReprIs.str z t h
theorem Rp.mono {m : Nat} {as' : List Addr} {v : V} {t : Str} (h : Rp X n as G v t) (hm : n ≤ m) (ha : ∀ b ∈ as, b ∈ as') : Rp X m as' G v t := fun pins σ H s u base A g Q I r hG hb hg hc fr hr hQ =>
  h pins σ H s u base A g Q I r hG hb hg (fun b hb => hc b (ha b hb)) fr (hr.mono hm) hQ
theorem Rp.imp {G' : Hp → Prop} {v : V} {t : Str} (h : Rp X n as G v t) (hG' : ∀ H, G' H → G H) : Rp X n as G' v t := fun pins σ H s u base A g Q I r hG hb hg hc fr hr hQ =>
  h pins σ H s u base A g Q I r (hG' H hG) hb hg hc fr hr hQ
/-- an own object with its own __repr__ -/
theorem Rp.own {a : Addr} {t : Str} (S : Spc X.K C "__repr__" f) (F : FnR X.prog X.w X.K X.mg X.base CX n f sp) (hx : Passes CX X E)
    (h : ∀ H, G H → (∃ dx fs, H a = some (.ins C dx fs)) ∧ ∀ Q : VK, (∀ H', Same H H' → Q (.str t) H') → sp [.ref a] H Q E) : Rp X n as G (.ref a) t := by
  intro pins σ H s u base A g Q I r hG hb _ _ fr hr hQ
  cases (show u = Value.ref a from r)
  obtain ⟨⟨dx, fs, ea⟩, hsp⟩ := h H hG
  obtain ⟨od, J⟩ := inst_of I ea
  refine reprUnder_own I.kIn J S.at_ S.fn hr.units0 (by omega) ?_
  refine wpAny_mono (run_sub (vs := [.ref a]) (Q := fun v H' => v = .str t ∧ Same H H') F hr fr hx I (.cons rfl .nil) (hsp _ fun H' e => ⟨rfl, e⟩)) (fun w s' y => ?_) fun _ _ y => y
  obtain ⟨v, H', I', rw', rfl, e⟩ := y
  obtain ⟨tk, rfl⟩ := rw'
  exact ⟨t, tk, rfl, hQ H' s' I' e⟩
/-- texts as values -/
theorem vals_strs : ∀ {ts : List Str} {its : List Value}, Vals (ts.map V.str) its → ∃ done : List (Str × Tok), its = strValues done ∧ done.map (·.1) = ts
  | [], _, .nil => ⟨[], rfl, rfl⟩
  | t :: ts, _, .cons r q => by
    obtain ⟨tk, rfl⟩ := r
    obtain ⟨done, rfl, e⟩ := vals_strs (ts := ts) q
    exact ⟨(t, tk) :: done, rfl, by rw [List.map_cons, e]⟩
end
section
variable {X : Cx} {n : Nat} {as : List Addr} {G : Hp → Prop} {A : Around} {R : Result → Shared → Prop} {pins : List (Addr × Obj)} {σ : L2.St}
theorem w_list (args : Args) : Code.weight (.builtin "list.__repr__.loop" args) = 1 := by first | kernel_rfl | rfl
theorem w_tup (args : Args) : Code.weight (.builtin "tuple.__repr__" args) = 1 := by first | kernel_rfl | rfl
theorem w_tupU (args : Args) : Code.weight (.builtin "tuple.__repr__.under" args) = 1 := by first | kernel_rfl | rfl
theorem under_room {A : Around} {id : String} {args : Args} (hr : Room (n + 1) A) (hu : (A.under (.builtin id args)).units = A.units + 1) (hw : Code.weight (.builtin id args) ≤ 1) (hh : (A.under (.builtin id args)).handled = A.handled := by rfl) : Room n (A.under (.builtin id args)) :=
  ⟨hh.trans hr.hd, by have := hr.dp; show A.depth + Code.weight (.builtin id args) + 3 * n + 5 < _; omega, by have := hr.un; rw [hu]; omega⟩
open Builtin Builtin.List in
theorem rp_loop {a P : Addr} {xs : List V} {ts : List Str} {base : Nat} {g : List Code} {H0 : Hp} (hg : A.guards = some g) (hcl : ∀ b ∈ as, Clear g b) (fr : A.frames = X.A.frames) (hr : Room (n + 1) A) (hna : a ∉ as) (hP0 : H0 P = none) (hlen : ts.length = xs.length)
    (hG : ∀ H, G H → H a = some (.lst xs)) (mono : ∀ H, Same H0 H → G H) (hT : ∀ (i : Nat) (x : V), xs[i]? = some x → ∃ t, ts[i]? = some t ∧ Rp X n as G x t) (hsz : base + (listText ts).length ≤ sizeLine)
    (hR : ∀ H' s' u, Inv X pins σ H' s' → Same H0 H' → R (.ok (.ret (.str (listText ts) u))) s') (hE : ∀ e s', X.xe e s' → R (.error e) s') :
    ∀ (k i : Nat) (s : Shared) (H : Hp), xs.length - i = k → i ≤ xs.length → Inv X pins σ H s → Same H0 H → H P = some (.lst ((ts.take i).map V.str)) →
    codeAny (model X.prog X.w) A (.builtin "list.__repr__.loop" ⟨[.ref a, rawInt i, .ref P, rawInt ((base + piled (ts.take i) : Nat) : Int)], []⟩) R s := by
  have hX : (listText ts).length = (textFrom 0 "[" ts).length + 1 := by
    show (textFrom 0 "[" ts ++ "]").length = _
    rw [strLen_append]; rfl
  have hL := textFrom_len ts 0 "["
  have hsz1 : xs.length ≤ sizeLine := by
    have h1 := hL.1
    rw [if_neg (Nat.lt_irrefl 0)] at h1
    omega
  have hsz2 : ∀ t ∈ ts, t.length ≤ sizeLine := fun t ht => by
    have h2 := hL.2.1 t ht
    omega
  have hsz3 : (listText ts).length ≤ sizeLine := by omega
  have hp3 := piled_le_listText ts
  intro k
  induction k with
  | zero =>
    intro i s H hk hi I e0 hP
    have hin : i = xs.length := by omega
    obtain ⟨_, its, na, rv, hl, ha⟩ := I.lstM (hG H (mono H e0))
    obtain ⟨_, acc, c, rvP, hlP, hP'⟩ := I.lstM hP
    obtain ⟨done, rfl, hdone⟩ := vals_strs rvP
    refine codeAny_builtin F.entry_list_repr_loop ?_
    show wpAny _ _ («list.__repr__.loop» ⟨[.ref a, .int i 0, .ref P, .int ((base + piled (ts.take i) : Nat) : Int) 0], []⟩) _ _ s
    rw [repr_loop_tree]
    refine wpAny_bind (wpAny_listItems ha rfl ?_)
    have hnone : its.toArray[(i : Int).toNat]? = none := by simp; omega
    simp only [hnone]
    unfold reprEnd
    refine wpAny_bind (wpAny_listItems hP' rfl ?_)
    rw [List.toList_toArray, repr_fold]
    refine wpAny_bind (wpAny_pure ?_)
    have hall : done.map (·.1) = ts := by rw [hdone, hin, ← hlen, List.take_length]
    rw [hall]
    refine wpAny_bind (wpAny_mkStr (wpAny_pure ?_) hsz3)
    exact hR H _ _ (I.tok _) e0
  | succ k ih =>
    intro i s H hk hi I e0 hP
    have hlt : i < xs.length := by omega
    obtain ⟨t, ht, hrep⟩ := hT i xs[i] (List.getElem?_eq_getElem hlt)
    have hp1 := piled_take_succ ht
    have hp2 := piled_take_le ts (i + 1)
    obtain ⟨_, its, na, rv, hl, ha⟩ := I.lstM (hG H (mono H e0))
    refine codeAny_builtin F.entry_list_repr_loop ?_
    show wpAny _ _ («list.__repr__.loop» ⟨[.ref a, .int i 0, .ref P, .int ((base + piled (ts.take i) : Nat) : Int) 0], []⟩) _ _ s
    rw [repr_loop_tree]
    refine wpAny_bind (wpAny_listItems ha rfl ?_)
    obtain ⟨u, hu, ru⟩ := rv.get (i := i) (x := xs[i]) (List.getElem?_eq_getElem hlt)
    have hsome : its.toArray[(i : Int).toNat]? = some u := by simpa using hu
    simp only [hsome]
    rw [Int.toNat_natCast]
    refine wpAny_bind (wpAny_holding (wpAny_mono (hrep pins σ H s u (base + piled (ts.take i) + 1) _ _ (fun t' s' => t' = t ∧ ∃ H', Inv X pins σ H' s' ∧ Same H H') I ru (mono H e0) (by omega) (guards_under_guard (isGuard_list_loop _) hg)
      (fun b hb => (hcl b hb).cons (a := a) fun e => hna (e ▸ hb)) fr (under_room hr (units_under_list_loop _ _) (Nat.le_of_eq (w_list _))) fun H' s' I' e' => ⟨rfl, H', I', e'⟩) (fun t' s2 h2 => ?_) fun e s2 h2 => hE e s2 h2))
    obtain ⟨rfl, H', I', e'⟩ := h2
    have hP2 := e' _ _ hP
    obtain ⟨zP, acc, c, rvP, hlP, hP'⟩ := I'.lstM hP2
    refine wpAny_bind (wpAny_mkStr ?_ (hsz2 t' (List.mem_of_getElem? ht)))
    refine wpAny_bind ?_
    show wpAny _ _ (updateSeq P _) _ _ _
    have hasz : acc.toArray.size ≤ sizeLine := by rw [List.size_toArray, ← hlP]; exact zP
    refine wpAny_updateSeq hP' rfl (wpAny_pure ⟨F.quiet_list_repr_loop _, ?_⟩) hasz
    have e1 : ((i : Int) + 1) = ((i + 1 : Nat) : Int) := by omega
    have e2 : base + piled (ts.take i) + (t'.length + 2) = base + piled (ts.take (i + 1)) := by omega
    rw [e1, e2]
    have eT : (ts.take (i + 1)).map V.str = (ts.take i).map V.str ++ [V.str t'] := by rw [List.take_add_one, ht]; simp
    have hlen2 : ((ts.take i).map V.str ++ [V.str t']).length ≤ sizeLine := by
      rw [List.length_append, List.length_map, List.length_take, List.length_singleton]; omega
    refine ih (i + 1) _ (upd H' P (.lst ((ts.take i).map V.str ++ [V.str t']))) (by omega) hlt ?_ (Same.mut (e0.trans e') hP0) (by rw [upd_same, eT])
    exact I'.lset (its' := acc ++ [.str t' s2.toks]) hP2 hP' (by simp) (rvP.append (.cons (show L2.RelV (.str t') (.str t' s2.toks) from ⟨_, rfl⟩) .nil)) hlen2
open Builtin Builtin.List in
theorem rp_listAt {a : Addr} {xs : List V} {ts : List Str} {base : Nat} {g : List Code} {s : Shared} {H : Hp} (I : Inv X pins σ H s) (hg : A.guards = some g) (hcl : ∀ b ∈ a :: as, Clear g b) (fr : A.frames = X.A.frames) (hr : Room (n + 1) A) (hna : a ∉ as) (hlen : ts.length = xs.length) (h0 : xs ≠ [])
    (hG : ∀ H, G H → H a = some (.lst xs)) (mono : ∀ H', Same H H' → G H') (hT : ∀ (i : Nat) (x : V), xs[i]? = some x → ∃ t, ts[i]? = some t ∧ Rp X n as G x t) (hsz : base + (listText ts).length ≤ sizeLine)
    (hR : ∀ H' s' u, Inv X pins σ H' s' → Same H H' → R (.ok (.ret (.str (listText ts) u))) s') (hE : ∀ e s', X.xe e s' → R (.error e) s') :
    wpAny (model X.prog X.w) A.in1 (Builtin.listReprAt base ⟨[.ref a], []⟩) (fun fin s' => match fin with | .done f => R (.ok f) s' | .again c' => c'.quiet = true ∧ codeAny (model X.prog X.w) A c' R s') (fun e s' => R (.error e) s') s := by
  have hca : Clear g a := hcl a (.head _)
  obtain ⟨_, its, na, rv, hl, ha⟩ := I.lstM (hG H (mono H (Same.refl H)))
  obtain ⟨y, l, rfl⟩ : ∃ y l, its = y :: l := by
    cases its with
    | nil => exact (h0 (List.length_eq_zero_iff.mp (by simpa using hl))).elim
    | cons y l => exact ⟨y, l, rfl⟩
  refine wpAny_list_repr_head (A := A.in1) hg (fun v rest kw hm => listSameRef_of_ne (hca _ _ _ _ hm)) ha rfl ?_
  refine wpAny_bind (m := newList []) (wpAny_newObj_type ?_)
  refine wpAny_pure ⟨F.quiet_list_repr_loop _, ?_⟩
  have I1 := I.lnew (ys := []) (its := []) (t' := s.toks) .nil (Nat.zero_le _)
  have hf := I.fresh
  have := rp_loop (X := X) (R := R) (H0 := H) (P := s.heap.objs.size) (pins := pins) (σ := σ) hg (fun b hb => hcl b (.tail _ hb)) fr hr hna hf hlen hG mono hT hsz hR hE _ 0 _ _ rfl (Nat.zero_le _) I1 (Same.new hf) upd_same
  simpa [piled] using this
open Builtin Builtin.List in
theorem Rp.lst {a : Addr} {xs : List V} {ts : List Str} (hna : a ∉ as) (hlen : ts.length = xs.length)
    (hG : ∀ H, G H → H a = some (.lst xs)) (mono : ∀ H H', Same H H' → G H → G H') (hT : ∀ (i : Nat) (x : V), xs[i]? = some x → ∃ t, ts[i]? = some t ∧ Rp X n as G x t) : Rp X (n + 1) (a :: as) G (.ref a) (listText ts) := by
  intro pins σ H s u base A g Q I r g0 hb hg hcl fr hr hQ
  cases (show u = Value.ref a from r)
  obtain ⟨_, its, na, rv, hl, ha⟩ := I.lstM (hG H g0)
  by_cases h0 : xs = []
  · subst h0
    have et : ts = [] := List.length_eq_zero_iff.mp (by simpa using hlen)
    subst et
    have ei : its = [] := List.length_eq_zero_iff.mp (by simpa using hl.symm)
    subst ei
    exact wpAny_pyReprUnder_ref (by omega) (wpAny_pyReprObjUnder_list_empty ⟨_, ha, rfl⟩ hr.units0 ha rfl ⟨_, _, rfl, hQ H _ (I.tok _) (Same.refl H)⟩)
  · refine wpAny_pyReprUnder_ref (by omega) (wpAny_pyReprObjUnder_twin (twin := "list.__repr__.under") ⟨_, ha, rfl⟩ F.slot_list_repr.toG rfl hr.units0 ?_)
    refine call_twin_plain F.plain_list_repr_under F.entry_list_repr_under F.check_list_repr_under ⟨_, ha, rfl⟩ F.slot_list_repr.toG (F.args_list_repr_1 _) ?_
    exact rp_listAt (R := callEnd _ _) I hg hcl fr hr hna hlen h0 hG (fun H' e => mono H H' e g0) hT hb (fun H' s' u I' e' => ⟨⟨_, _, rfl⟩, _, _, rfl, hQ H' s' I' e'⟩) fun e s' h => h
open Builtin Builtin.List in
theorem rp_tupFold {g : List Code} {H0 : Hp} {s0 : Shared} (hg : A.guards = some g) (hcl : ∀ b ∈ as, Clear g b) (fr : A.frames = X.A.frames) (hr : Room n A) (mono : ∀ H, Same H0 H → G H) :
    ∀ (l : List Value) (xs : List V) (ts : List Str) (acc : Array Str) (m : Nat) (s : Shared) (H : Hp) (Q : (Array Str × Nat) → Shared → Prop), Vals xs l → ts.length = xs.length → (∀ (i : Nat) (x : V), xs[i]? = some x → ∃ t, ts[i]? = some t ∧ Rp X n as G x t) → m + piled ts ≤ sizeLine →
    Inv X pins σ H s → Same H0 H → (∀ H' s', Inv X pins σ H' s' → Same H0 H' → Q ⟨acc ++ ts.toArray, m + piled ts⟩ s') →
    wpAny (model X.prog X.w) A (forIn l (⟨acc, m⟩ : (Array Str × Nat)) tupBody) Q X.xe s := by
  intro l
  induction l with
  | nil =>
    intro xs ts acc m s H Q rv hl hT _ I e0 h
    cases rv
    have et : ts = [] := List.length_eq_zero_iff.mp (by simpa using hl)
    subst et
    have h0 := h H s I e0
    simp only [List.forIn_nil]
    exact wpAny_pure (by simpa [piled] using h0)
  | cons u l ih =>
    intro xs ts acc m s H Q rv hl hT hn I e0 h
    cases rv with
    | cons r rv =>
      rename_i x xs'
      cases ts with
      | nil => simp at hl
      | cons t ts' =>
        obtain ⟨t', ht', hx⟩ := hT 0 x rfl
        have et : t = t' := by simpa using ht'
        subst et
        rw [piled_cons] at hn
        rw [List.forIn_cons]
        refine wpAny_bind (wpAny_bind (hx pins σ H s u (m + 1) A g _ I r (mono H e0) (by omega) hg hcl fr hr fun H' s' I' e' => wpAny_pure ?_))
        refine ih xs' ts' (acc.push t) (m + (t.length + 2)) s' H' Q rv (by simpa using hl) (fun i x hi => by
          obtain ⟨t2, q1, q2⟩ := hT (i + 1) x (by simpa using hi)
          exact ⟨t2, by simpa using q1, q2⟩) (by omega) I' (e0.trans e') fun H'' s'' I'' e'' => ?_
        have h1 := h H'' s'' I'' e''
        have e : m + piled (t :: ts') = m + (t.length + 2) + piled ts' := by rw [piled_cons]; omega
        rw [e] at h1
        simpa using h1
open Builtin Builtin.List in
theorem rp_tupAt {a : Addr} {xs : List V} {ts : List Str} {base : Nat} {g : List Code} {s : Shared} {H : Hp} {id : String} {rest : List Value} (I : Inv X pins σ H s) (hcg : (Code.builtin id ⟨.ref a :: rest, []⟩).isGuard = true) (hcu : (A.under (.builtin id ⟨.ref a :: rest, []⟩)).units = A.units + 1) (hcw : Code.weight (.builtin id ⟨.ref a :: rest, []⟩) ≤ 1)
    (hg : A.guards = some g) (hcl : ∀ b ∈ a :: as, Clear g b) (fr : A.frames = X.A.frames) (hr : Room (n + 1) A) (hna : a ∉ as) (hlen : ts.length = xs.length)
    (hG : ∀ H, G H → H a = some (.tup xs)) (mono : ∀ H', Same H H' → G H') (hT : ∀ (i : Nat) (x : V), xs[i]? = some x → ∃ t, ts[i]? = some t ∧ Rp X n as G x t) (hsz : base + (tupleText ts).length ≤ sizeLine)
    (hR : ∀ H' s' u, Inv X pins σ H' s' → Same H H' → R (.ok (.ret (.str (tupleText ts) u))) s') (hE : ∀ e s', X.xe e s' → R (.error e) s')
    (hfr : (A.under (.builtin id ⟨.ref a :: rest, []⟩)).frames = A.frames := by rfl) :
    wpOwn (model X.prog X.w) A (.builtin id ⟨.ref a :: rest, []⟩) (Builtin.tupleReprAt base ⟨[.ref a], []⟩) (fun fin s' => match fin with | .done f => R (.ok f) s' | .again c' => c'.quiet = true ∧ codeAny (model X.prog X.w) A c' R s') (fun e s' => R (.error e) s') s := by
  have hca : Clear g a := hcl a (.head _)
  have hp := piled_le_tupleText ts
  have hsz0 : (tupleText ts).length ≤ sizeLine := by omega
  obtain ⟨_, its, rv, o, ho, hc, k, hk⟩ := (show ObjOk X.prog X.w H s.heap a (.tup xs) from I.hok a _ (hG H (mono H (Same.refl H))))
  rw [tuple_repr_tree, tupleReprUnderWay_eq]
  refine wpOwn_bind (wpOwn_stackTailAny hg (tupGuardF_off _) (tupGuardF_pos _) ?_)
  have hn : (g.any fun c => tupGuardF (.ref a) (c, default)) = false := by
    rw [List.any_eq_false]
    intro c hcm
    rw [tupGuardF_of_clear hca c hcm]
    exact Bool.false_ne_true
  rw [hn]
  refine wpOwn_of_wpAny ?_
  show wpAny _ _ (tupleReprRest base (.ref a)) _ _ s
  unfold tupleReprRest Builtin.Tuple.tupleItemsOf
  refine wpAny_bind (wpAny_bind (wpAny_seqItems ho hk (wpAny_pure ?_)))
  rw [← Array.forIn_toList]
  have hlen2 : ts.length = its.length := by rw [hlen, rv.length]
  refine wpAny_bind (wpAny_mono (rp_tupFold (X := X) (G := G) (H0 := H) (pins := pins) (σ := σ) (s0 := s) (guards_under_guard hcg hg) (fun b hb => (hcl b (.tail _ hb)).cons (a := a) fun e => hna (e ▸ hb)) (hfr.trans fr) (under_room hr hcu hcw) mono its.toArray.toList xs ts #[] base s H
    (fun r s' => r = ⟨#[] ++ ts.toArray, base + piled ts⟩ ∧ ∃ H', Inv X pins σ H' s' ∧ Same H H') (by simpa using rv) hlen hT (by omega) I (Same.refl H) fun H' s' I' e' => ⟨rfl, H', I', e'⟩) (fun r s' h => ?_) fun e s' h => hE e s' h)
  obtain ⟨rfl, H', I', e'⟩ := h
  refine wpAny_bind (wpAny_mkStr (wpAny_pure ?_) (by simpa [tupleText, hlen2] using hsz0))
  have h1 := hR H' _ s'.toks (I'.tok (s'.toks + 1)) e'
  simpa [tupleText, hlen2] using h1
open Builtin Builtin.List in
theorem Rp.tup {a : Addr} {xs : List V} {ts : List Str} (hna : a ∉ as) (hlen : ts.length = xs.length)
    (hG : ∀ H, G H → H a = some (.tup xs)) (mono : ∀ H H', Same H H' → G H → G H') (hT : ∀ (i : Nat) (x : V), xs[i]? = some x → ∃ t, ts[i]? = some t ∧ Rp X n as G x t) : Rp X (n + 1) (a :: as) G (.ref a) (tupleText ts) := by
  intro pins σ H s u base A g Q I r g0 hb hg hcl fr hr hQ
  cases (show u = Value.ref a from r)
  obtain ⟨_, its, rv, o, ho, hc, k, hk⟩ := (show ObjOk X.prog X.w H s.heap a (.tup xs) from I.hok a _ (hG H g0))
  refine wpAny_pyReprUnder_ref (by omega) (wpAny_pyReprObjUnder_twin (twin := "tuple.__repr__.under") ⟨o, ho, hc⟩ F.slot_tuple_repr rfl hr.units0 ?_)
  refine call_twin_own (F.quiet_tuple_repr_under _) F.entry_tuple_repr_under F.check_tuple_repr_under ⟨o, ho, hc⟩ F.slot_tuple_repr (F.args_tuple_repr_1 _) ?_
  exact rp_tupAt (R := callEnd _ _) I (isGuard_tuple_repr_under _) (units_under_tuple_repr_under _ _) (Nat.le_of_eq (w_tupU _)) hg hcl fr hr hna hlen hG (fun H' e => mono H H' e g0) hT hb (fun H' s' u I' e' => ⟨⟨_, _, rfl⟩, _, _, rfl, hQ H' s' I' e'⟩) fun e s' h => h
end
/-! ### repr(x) -/
section
variable {X : Cx} {n : Nat}
/-- what repr(x) tells: x a list or a tuple of things that are told -/
def rReprG (X : Cx) (n : Nat) : List V → Hp → VK → Prop := fun vs H Q => ∃ (a : Addr) (as : List Addr) (xs : List V) (ts : List Str) (G : Hp → Prop) (t : Str), vs = [.ref a] ∧ a ∉ as ∧ ts.length = xs.length ∧ G H ∧ (∀ H H', Same H H' → G H → G H') ∧
  ((t = listText ts ∧ xs ≠ [] ∧ ∀ H, G H → H a = some (.lst xs)) ∨ (t = tupleText ts ∧ ∀ H, G H → H a = some (.tup xs))) ∧ (∀ (i : Nat) (x : V), xs[i]? = some x → ∃ t, ts[i]? = some t ∧ Rp X n as G x t) ∧ t.length ≤ sizeLine ∧ ∀ H', Same H H' → Q (.str t) H'
open Builtin Builtin.List in
theorem call_reprG (hr : Room (n + 2) X.A) (hg : X.A.guards = some []) : CallR X (.builtin "repr") (rReprG X n) := by
  intro pins s σ H vs us Q I r h
  obtain ⟨a, as, xs, ts, G, t, rfl, hna, hlen, g0, mono, hk, hT, hsz, q⟩ := h
  obtain ⟨u, rfl, ru⟩ := vals1 r
  cases (show u = Value.ref a from ru)
  have hr1 : Room (n + 1) X.A := hr.mono (by omega)
  have hr' : Room (n + 1) X.A.in1 := hr.in1
  have hu : X.A.units + 1 < cLine := by have := hr.un; omega
  have fin : ∀ H' s' u, Inv X pins σ H' s' → Same H H' → ∃ x tk, Value.str t u = .str x tk ∧ EP X pins σ Q (Value.str t u) s' := fun H' s' u I' e' => ⟨t, u, rfl, .str t, H', I', ⟨_, rfl⟩, q H' e'⟩
  rcases hk with ⟨rfl, h0, hG⟩ | ⟨rfl, hG⟩
  · obtain ⟨_, its, na, rv, hl, ha⟩ := I.lstM (hG H g0)
    refine call_repr_slot hu ⟨_, ha, rfl⟩ F.slot_list_repr.toG ?_
    refine wpAny_call (codeAny_call_builtin F.slot_list_repr.plain F.entry_list_repr (F.slot_list_repr.check _ _ _ _ _ _ _ _ ⟨_, ha, rfl⟩ (F.args_list_repr_1 _) ?_))
    exact rp_listAt (n := n) (as := as) (base := 0) (g := []) (A := X.A.in1) (R := callEnd _ _) I hg (fun b _ => Clear.nil b) rfl hr' hna hlen h0 hG (fun H' e => mono H H' e g0) hT (by omega) fin fun e s' h => h
  · obtain ⟨_, its, rv, o, ho, hc, k, hk⟩ := (show ObjOk X.prog X.w H s.heap a (.tup xs) from I.hok a _ (hG H g0))
    refine call_repr_slot hu ⟨o, ho, hc⟩ F.slot_tuple_repr ?_
    refine wpAny_call (codeAny_call_builtin_own (Code.quiet_builtin _ (by decide +kernel)) F.entry_tuple_repr (F.slot_tuple_repr.check _ _ _ _ _ _ _ _ ⟨o, ho, hc⟩ (F.args_tuple_repr_1 _) ?_))
    exact rp_tupAt (n := n) (as := as) (base := 0) (g := []) (A := X.A.in1) (R := callEnd _ _) I (isGuard_tuple_repr _) (units_under_tuple_repr _ _) (Nat.le_of_eq (w_tup _)) hg (fun b _ => Clear.nil b) rfl hr' hna hlen hG (fun H' e => mono H H' e g0) hT (by omega) fin fun e s' h => h
end
end NA

/-! Part P: == between an own object and what is no such thing. -/
namespace NA
open PySem PySem.Spec PyProof.Rows L2
section
variable {prog : Program} {w : World} {A : Around} {E : Value → Shared → Prop} {s : Shared} {K : PySem.W.Frag} {x C f : Addr} {ox : Obj} {od : Option Obj}
/-- u == x, where u's type declines and x has an own == -/
theorem rc_rightOwn {u : Value} {T id : String} {Q : Value → Shared → Prop} (hu : A.units < cLine) (ha : s.TypeIs u T) (X : K.In s.heap) (I : PySem.W.InstAt s.heap x ox C od) (hsub : PySem.W.subIn K (.ref C) (.type T) = some false) (h1 : Slot T (cmpInfo .Eq).2.1 id)
    (hc : ∀ Q' : Value → Shared → Prop, Q' .notImplemented s → wpAny (model prog w) A (call (.builtin id) [u, .ref x]) Q' E s) (hs : PySem.W.findIn K (.ref C) "__eq__" = some (some (.ref f))) (hf : PySem.W.isFn K (.ref f) = true)
    (h : wpAny (model prog w) A (call (.ref f) [.ref x, u]) (PySem.W.CmpBack Q) E s) : wpAny (model prog w) A (richCompare .Eq u (.ref x)) Q E s := by
  have one : wpAny (model prog w) A (tryCompare (.ref x) (cmpInfo .Eq).2.2 u) (fun r s' => ∃ v, r = some v ∧ Q v s') E s := by
    unfold tryCompare
    refine wpAny_bind (PySem.W.ifBound_K X I hs hf (wpAny_mono h (fun v s' hv => ?_) fun _ _ e => e))
    cases v <;> first | exact hv.elim | exact wpAny_pure ⟨_, rfl, hv⟩
  simp only [richCompare, ha.oneThing_none]
  refine wpAny_holding (wpAny_bind (wpAny_cRoomFor hu ?_))
  refine wpAny_bind (wpAny_typeOf ha (wpAny_bind (I.type.here ?_)))
  rw [if_pos (by rfl)]
  refine wpAny_bind ((PySem.W.looks_subIn X hsub).here ?_)
  simp only [Bool.false_eq_true, if_false, Bool.not_false, if_true]
  refine wpAny_bind (m := tryCompare u _ (.ref x)) (wpAny_tryCompare_declines ha h1 (hc _ ⟨rfl, ?_⟩))
  refine wpAny_bind (m := tryCompare (.ref x) _ u) (wpAny_mono one (fun r s' z => ?_) fun _ _ e => e)
  obtain ⟨v, rfl, hq⟩ := z
  exact wpAny_pure hq
end
section
open SeqAt
open AutoSeq1 (wpAny_loadPart')
theorem int_decl_ins (b : Int) (u : Tok) (l : Addr) (o : Obj) (ho : o.data = .plain) :
    Meets (Builtin.«int.__eq__» ⟨[.int b u, .ref l], []⟩) (fun _ R s => s.heap.get? l = some o ∧ R (.ok (.ret .notImplemented)) s) :=
  .of_wp fun prog w A R s h => by obtain ⟨oc, odd, oda, osl⟩ := o; simp only at ho; subst ho; obtain ⟨hp, g, d, tk, os⟩ := s; obtain ⟨hl, h⟩ := h; wp_walk using wpAny_loadPart' hl, wpAny_load hl; exact ⟨_, rfl, h⟩
theorem bool_decl_ins (b : Bool) (l : Addr) (o : Obj) (ho : o.data = .plain) :
    Meets (Builtin.«int.__eq__» ⟨[.bool b, .ref l], []⟩) (fun _ R s => s.heap.get? l = some o ∧ R (.ok (.ret .notImplemented)) s) :=
  .of_wp fun prog w A R s h => by obtain ⟨oc, odd, oda, osl⟩ := o; simp only at ho; subst ho; obtain ⟨hp, g, d, tk, os⟩ := s; obtain ⟨hl, h⟩ := h; wp_walk using wpAny_loadPart' hl, wpAny_load hl; exact ⟨_, rfl, h⟩
theorem str_decl_ins (b : Str) (u : Tok) (l : Addr) (o : Obj) (ho : o.data = .plain) :
    Meets (Builtin.«str.__eq__» ⟨[.str b u, .ref l], []⟩) (fun _ R s => s.heap.get? l = some o ∧ R (.ok (.ret .notImplemented)) s) :=
  .of_wp fun prog w A R s h => by obtain ⟨oc, odd, oda, osl⟩ := o; simp only at ho; subst ho; obtain ⟨hp, g, d, tk, os⟩ := s; obtain ⟨hl, h⟩ := h; wp_walk using wpAny_loadPart' hl, wpAny_load hl; exact ⟨_, rfl, h⟩
/-- what isinstance(x, T) tells of x -/
def NotInst (prog : Program) (w : World) (x : Addr) (T : String) (h : Heap) : Prop := ∀ (A : Around) (E : Value → Shared → Prop) (Q : Bool → Shared → Prop) (g : Array GenState) (d : Drawn) (tk : Nat) (os : OsState), Q false ⟨h, g, d, tk, os⟩ → wpAny (model prog w) A (isInstance (.ref x) (.type T)) Q E ⟨h, g, d, tk, os⟩
theorem list_decl_ins {prog : Program} {w : World} {A : Around} {R : Result → Shared → Prop} {s : Shared} (a l : Addr) (items : Array Value) (n : Nat) (hl : s.heap.get? a = some { cls := .type "list", data := .seq items n }) (hi : NotInst prog w l "list" s.heap) (h : R (.ok (.ret .notImplemented)) s) :
    wpAny (model prog w) A.in1 (Builtin.«list.__eq__» ⟨[.ref a, .ref l], []⟩) (GQ.FinOf prog w A R) (fun e s' => R (.error e) s') s := by
  obtain ⟨hp, g, d, tk, os⟩ := s
  have hi := hi A.in1 (fun e s' => R (.error e) s')
  wp_walk using wpAny_loadPart' hl, hi
  exact h
theorem tup_decl_ins {prog : Program} {w : World} {A : Around} {R : Result → Shared → Prop} {s : Shared} (a l : Addr) (hi : NotInst prog w l "tuple" s.heap) (h : R (.ok (.ret .notImplemented)) s) :
    wpAny (model prog w) A.in1 (Builtin.«tuple.__eq__» ⟨[.ref a, .ref l], []⟩) (GQ.FinOf prog w A R) (fun e s' => R (.error e) s') s := by
  obtain ⟨hp, g, d, tk, os⟩ := s
  have hi := hi A.in1 (fun e s' => R (.error e) s')
  wp_walk using hi
  exact h
theorem dict_decl_ins {prog : Program} {w : World} {A : Around} {R : Result → Shared → Prop} {s : Shared} (a l : Addr) (hi : NotInst prog w l "dict" s.heap) (h : R (.ok (.ret .notImplemented)) s) :
    wpAny (model prog w) A.in1 (Builtin.«dict.__eq__» ⟨[.ref a, .ref l], []⟩) (GQ.FinOf prog w A R) (fun e s' => R (.error e) s') s := by
  obtain ⟨hp, g, d, tk, os⟩ := s
  have hi := hi A.in1 (fun e s' => R (.error e) s')
  wp_walk using hi
  exact h
end
/-! ### over the layer -/
/-- a value that is no own object, and its type -/
inductive Knd (H : Hp) : V → String → Prop
  | non : Knd H .non "NoneType"
  | bl (b : Bool) : Knd H (.bl b) "bool"
  | int (i : Int) : Knd H (.int i) "int"
  | str (z : Str) : Knd H (.str z) "str"
  | lst {a : Addr} {xs : List V} : H a = some (.lst xs) → Knd H (.ref a) "list"
  | tup {a : Addr} {xs : List V} : H a = some (.tup xs) → Knd H (.ref a) "tuple"
  | dic {a : Addr} {kvs : List (Key × V)} : H a = some (.dK kvs) → Knd H (.ref a) "dict"
theorem Knd.ty {K : PySem.W.Frag} {H : Hp} {x : V} {T : String} (h : Knd H x T) : TyX K H x (.type T) := by
  cases h with
  | non => exact .base .non
  | bl b => exact .base (.bl b)
  | int i => exact .base (.int i)
  | str z => exact .base (.str z)
  | lst e => exact .base (.lst e)
  | tup e => exact .base (.tup e)
  | dic e => exact .base (.dK e)
def kinds : List String := ["NoneType", "bool", "int", "str", "list", "tuple", "dict"]
theorem Knd.mem {H : Hp} {x : V} {T : String} (h : Knd H x T) : T ∈ kinds := by cases h <;> simp [kinds]
/-- the class at C is apart from these types -/
structure Apart (K : PySem.W.Frag) (C : Addr) : Prop where
  dn : ∀ T ∈ kinds, PySem.W.subIn K (.ref C) (.type T) = some false
  up : ∀ T ∈ kinds, PySem.W.subIn K (.type T) (.ref C) = some false
section
variable {X : Cx} {CX : CXT} {C f : Addr} {n : Nat} {sp : Sp} {E : XK} {pins : List (Addr × Obj)} {σ : L2.St} {H : Hp} {s : Shared}
theorem ins_obj {a dx : Addr} {fs : List (Str × V)} (I : Inv X pins σ H s) (h : H a = some (.ins C dx fs)) : ∃ od, PySem.W.InstAt s.heap a (PySem.W.instObj C dx) C (some od) := inst_of I h
theorem Knd.typeIs {x : V} {T : String} {u : Value} (I : Inv X pins σ H s) (r : L2.RelV x u) (h : Knd H x T) : s.TypeIs u T := by
  cases h with
  | non => cases r; rfl
  | bl b => cases r; rfl
  | int i => obtain ⟨t, rfl⟩ := r; rfl
  | str z => obtain ⟨t, rfl⟩ := r; rfl
  | lst e =>
    rename_i a xs
    cases (show u = Value.ref a from r)
    obtain ⟨_, its, k, rv, ho⟩ := (show ObjOk X.prog X.w H s.heap a (.lst xs) from I.hok a _ e)
    exact ⟨_, ho, rfl⟩
  | tup e =>
    rename_i a xs
    cases (show u = Value.ref a from r)
    obtain ⟨_, its, rv, o, ho, hc, k, hk⟩ := (show ObjOk X.prog X.w H s.heap a (.tup xs) from I.hok a _ e)
    exact ⟨o, ho, hc⟩
  | dic e =>
    rename_i a kvs
    cases (show u = Value.ref a from r)
    obtain ⟨_, ns, vs, rv, o, es, ep, ho, hx, hd, hko, hp, hnd⟩ := (show ObjOk X.prog X.w H s.heap a (.dK kvs) from I.hok a _ e)
    exact ⟨o, ho, hx.1⟩
theorem looks_typeIs {M : Model} {u : Value} {T : String} (h : s.TypeIs u T) : PySem.W.Looks M s.heap (typeOf u) (.type T) := by
  intro A Q E s' k q
  cases u with
  | ref a =>
    obtain ⟨o, ho, hc⟩ := h
    exact wpAny_typeOf_ref (k _ _ ho) (by rw [hc]; exact q)
  | _ => exact wpAny_typeOf (s := s') (T := T) (by exact h) q
/-- own == x, own != x -/
def rEqK (C : Addr) (sp : Sp) (E : XK) (neg : Bool) : R2 := fun x y H Q => ∃ a dx fs T, x = .ref a ∧ H a = some (.ins C dx fs) ∧ Knd H y T ∧ sp [x, y] H (fun v H' => ∃ r, v = .bl r ∧ Q (.bl (if neg then !r else r)) H') E
theorem notFirst_K {K : PySem.W.Frag} {T : String} (D : Apart K C) (h : T ∈ kinds) : PySem.W.notFirst K C (.type T) = true := by
  unfold PySem.W.notFirst
  rw [D.up T h]
  simp
theorem op_eqK (S : Spc X.K C "__eq__" f) (D : Apart X.K C) (F : FnR X.prog X.w X.K X.mg X.base CX n f sp) (hr : Room n X.A) (hx : Passes CX X E) : OpR X (compareOp .Eq) (rEqK C sp E false) := by
  intro pins s σ H x y v u Q I rx ry h
  obtain ⟨a, dx, fs, T, rfl, ha, hk, q⟩ := h
  cases (show v = Value.ref a from rx)
  obtain ⟨od, J⟩ := inst_of I ha
  obtain ⟨m, hF⟩ := I.fr
  show wpAny (model X.prog X.w) X.A (richCompare .Eq (.ref a) u) (EP X pins σ Q) X.xe s
  refine PySem.W.cmp_K (op := .Eq) (tb := .type T) hr.units0 hF I.ok.mod.kin J (looks_typeIs (hk.typeIs I ry)) (notFirst_K D hk.mem) S.at_ S.fn ?_
  refine wpAny_mono (run_sub (vs := [.ref a, y]) F hr rfl hx I (.cons rfl (.cons ry .nil)) q) (fun w s' z => ?_) fun _ _ x => x
  obtain ⟨z', H', I', rz, r, rfl, qz⟩ := z
  cases (show w = Value.bool r from rz)
  exact ⟨.bl r, H', I', rfl, qz⟩
theorem op_neK (S : Spc X.K C "__eq__" f) (Ne : NeC X.K C) (D : Apart X.K C) (F : FnR X.prog X.w X.K X.mg X.base CX n f sp) (hr : Room (n + 1) X.A) (hx : Passes CX X E) : OpR X (compareOp .NotEq) (rEqK C sp E true) := by
  intro pins s σ H x y v u Q I rx ry h
  obtain ⟨a, dx, fs, T, rfl, ha, hk, q⟩ := h
  cases (show v = Value.ref a from rx)
  obtain ⟨od, J⟩ := inst_of I ha
  show wpAny (model X.prog X.w) X.A (richCompare .NotEq (.ref a) u) (EP X pins σ Q) X.xe s
  refine ne_K (tb := .type T) (hu_of hr) I.kIn J (looks_typeIs (hk.typeIs I ry)) (notFirst_K D hk.mem) Ne.ob Ne.ne S.at_ S.fn ?_
  refine wpAny_mono (run_sub (vs := [.ref a, y]) F hr.in1 rfl hx I (.cons rfl (.cons ry .nil)) q) (fun w s' z => ?_) fun _ _ x => x
  obtain ⟨z', H', I', rz, r, rfl, qz⟩ := z
  cases (show w = Value.bool r from rz)
  exact ⟨r, rfl, .bl (!r), H', I', rfl, qz⟩
/-- x == own -/
def rEqR (C : Addr) (sp : Sp) (E : XK) : R2 := fun x y H Q => ∃ b dy gs T, y = .ref b ∧ H b = some (.ins C dy gs) ∧ Knd H x T ∧ sp [y, x] H (fun v H' => ∃ r, v = .bl r ∧ Q (.bl r) H') E
theorem op_eqR (S : Spc X.K C "__eq__" f) (D : Apart X.K C) (F : FnR X.prog X.w X.K X.mg X.base CX n f sp) (hr : Room n X.A) (hx : Passes CX X E) : OpR X (compareOp .Eq) (rEqR C sp E) := by
  intro pins s σ H x y v u Q I rx ry h
  obtain ⟨b, dy, gs, T, rfl, hb, hk, q⟩ := h
  cases (show u = Value.ref b from ry)
  obtain ⟨od, J⟩ := inst_of I hb
  have ni : ∀ T ∈ kinds, NotInst X.prog X.w b T s.heap := fun T hT A E Q g d tk os q' => wpAny_bind (J.type A _ E ⟨s.heap, g, d, tk, os⟩ (fun _ _ e => e) (PySem.W.looks_subIn I.kIn (D.dn T hT) A Q E ⟨s.heap, g, d, tk, os⟩ (fun _ _ e => e) q'))
  have hrun : wpAny (model X.prog X.w) X.A (call (.ref f) [.ref b, v]) (PySem.W.CmpBack (EP X pins σ Q)) X.xe s := by
    refine wpAny_mono (run_sub (vs := [.ref b, x]) F hr rfl hx I (.cons rfl (.cons rx .nil)) q) (fun w s' z => ?_) fun _ _ x => x
    obtain ⟨z', H', I', rz, r, rfl, qz⟩ := z
    cases (show w = Value.bool r from rz)
    exact ⟨.bl r, H', I', rfl, qz⟩
  have hty := hk.typeIs I rx
  have hdn := D.dn T hk.mem
  show wpAny (model X.prog X.w) X.A (richCompare .Eq v (.ref b)) (EP X pins σ Q) X.xe s
  cases hk with
  | non =>
    cases rx
    exact rc_rightOwn hr.units0 hty I.kIn J hdn PySem.F.slot_NoneType_eq (fun Q' hQ => call_gives PySem.F.slot_NoneType_eq hty PySem.F.entry_NoneType_eq (PySem.F.args_NoneType_eq_2 _ _) (SeqAt.NoneType___eq___none_ref_0 b) hQ) S.at_ S.fn hrun
  | bl k =>
    cases rx
    exact rc_rightOwn hr.units0 hty I.kIn J hdn PySem.F.slot_bool_eq (fun Q' hQ => call_meets PySem.F.slot_bool_eq hty PySem.F.entry_int_eq (PySem.F.args_int_eq_2 _ _) (bool_decl_ins k b _ rfl) ⟨J.at_, hQ⟩) S.at_ S.fn hrun
  | int k =>
    obtain ⟨t, rfl⟩ := rx
    exact rc_rightOwn hr.units0 hty I.kIn J hdn PySem.F.slot_int_eq (fun Q' hQ => call_meets PySem.F.slot_int_eq hty PySem.F.entry_int_eq (PySem.F.args_int_eq_2 _ _) (int_decl_ins k t b _ rfl) ⟨J.at_, hQ⟩) S.at_ S.fn hrun
  | str k =>
    obtain ⟨t, rfl⟩ := rx
    exact rc_rightOwn hr.units0 hty I.kIn J hdn PySem.F.slot_str_eq (fun Q' hQ => call_meets PySem.F.slot_str_eq hty PySem.F.entry_str_eq (PySem.F.args_str_eq_2 _ _) (str_decl_ins k t b _ rfl) ⟨J.at_, hQ⟩) S.at_ S.fn hrun
  | lst e =>
    rename_i a xs
    cases (show v = Value.ref a from rx)
    obtain ⟨_, its, k, rv, ho⟩ := (show ObjOk X.prog X.w H s.heap a (.lst xs) from I.hok a _ e)
    exact rc_rightOwn hr.units0 hty I.kIn J hdn PySem.F.slot_list_eq (fun Q' hQ => GQ.call_here PySem.F.slot_list_eq hty PySem.F.entry_list_eq (PySem.F.args_list_eq_2 _ _) (list_decl_ins (R := wants Q' X.xe) a b _ _ ho (ni _ (by simp [kinds])) hQ)) S.at_ S.fn hrun
  | tup e =>
    rename_i a xs
    cases (show v = Value.ref a from rx)
    exact rc_rightOwn hr.units0 hty I.kIn J hdn PySem.F.slot_tuple_eq (fun Q' hQ => GQ.call_here PySem.F.slot_tuple_eq hty PySem.F.entry_tuple_eq (PySem.F.args_tuple_eq_2 _ _) (tup_decl_ins (R := wants Q' X.xe) a b (ni _ (by simp [kinds])) hQ)) S.at_ S.fn hrun
  | dic e =>
    rename_i a kvs
    cases (show v = Value.ref a from rx)
    exact rc_rightOwn hr.units0 hty I.kIn J hdn PySem.F.slot_dict_eq (fun Q' hQ => GQ.call_here PySem.F.slot_dict_eq hty PySem.F.entry_dict_eq (PySem.F.args_dict_eq_2 _ _) (dict_decl_ins (R := wants Q' X.xe) a b (ni _ (by simp [kinds])) hQ)) S.at_ S.fn hrun
end
/-! ### dicts told -/
section
variable {X : Cx} {n : Nat} {as : List Addr} {G : Hp → Prop}
theorem Rp.ofK {v : V} {t : Str} {d : Nat} (hd : d ≤ 100) (h : ∀ (pins : List (Addr × Obj)) (σ : L2.St) (H : Hp) (s : Shared) (u : Value), Inv X pins σ H s → L2.RelV v u → G H → ReprK X.prog X.w as s.heap d u t) : Rp X n as G v t := fun pins σ H s u base A g Q I r hG hb hg hc fr hr hQ =>
  h pins σ H s u I r hG base hb A g X.xe s Q hg hc (by have := hr.un; omega) (fun _ _ e => e) fun h' tk k => hQ H _ (I.kept k) (Same.refl H)
theorem Rp.dic0 {a : Addr} (hG : ∀ H, G H → H a = some (.dK [])) : Rp X n [a] G (.ref a) (dictText []) := .ofK (d := 1) (by omega) fun pins σ H s u I r g => by
  cases (show u = Value.ref a from r)
  obtain ⟨_, ns, vs, rv, o, es, ep, ho, hx, hd, hko, hp, hnd⟩ := (show ObjOk X.prog X.w H s.heap a (.dK []) from I.hok a _ (hG H g))
  cases rv
  have he : es.toList = [] := by generalize es.toList = l at hp; cases hp; rfl
  exact ReprK.dict ho hx.1 hd ns List.not_mem_nil (by rw [he]; exact .nil)
theorem Rp.dic1 {a : Addr} {z y : Str} (hG : ∀ H, G H → H a = some (.dK [(.inr z, .str y)])) (h1 : (reprText z).length ≤ sizeLine) (h2 : (reprText y).length ≤ sizeLine) : Rp X n [a] G (.ref a) (dictText [reprText z ++ ": " ++ reprText y]) := .ofK (d := 1) (by omega) fun pins σ H s u I r g => by
  cases (show u = Value.ref a from r)
  obtain ⟨_, ns, vs, rv, o, es, ep, ho, hx, hd, hko, hp, hnd⟩ := (show ObjOk X.prog X.w H s.heap a (.dK [(.inr z, .str y)]) from I.hok a _ (hG H g))
  cases rv with
  | cons r1 r2 =>
    cases r2
    rename_i q
    obtain ⟨e1, t2, e2⟩ := r1
    obtain ⟨en, he, hk, hv⟩ : ∃ en, es.toList = [en] ∧ keyIs q.1 en.key = true ∧ en.val = q.2 := by
      generalize es.toList = l at hp
      cases hp with
      | cons h1 h2 h3 => cases h3; exact ⟨_, rfl, h1, h2⟩
    rw [← e1] at hk
    obtain ⟨t1, ek⟩ : ∃ t, en.key = .str z t := by
      rcases keyIs_shape hk with ⟨i, t, z1, _⟩ | ⟨x, t, z1, z2⟩
      · cases z1
      · cases z1; exact ⟨t, z2⟩
    refine ReprK.dict ho hx.1 hd ns List.not_mem_nil (by rw [he]; exact .cons (.of_is (by rw [ek]; exact ReprIs.str z t1 h1) _ _ _) (.of_is (by rw [hv, e2]; exact ReprIs.str y t2 h2) _ _ _) .nil)
end
/-! ### a def where no repr is under way, its code object unknown -/
section
variable {P : Program} {w : World} {K : PySem.W.Frag} {mg : Str → Option Value} {base : Heap} {k : Nat} {f : Addr} {sp : Sp}
theorem fnge {x qual : Str} {st : Stmt} {N ps : List Str} (F : FunE K x qual st f) (S : FnScope N ps (defScope st))
    (hb : ∀ (kV doc pm : Value) (an : Option Addr) (cdv ct : Value) (us : List Value), us.length = ps.length → bindArgs (PySem.W.fnOf x qual (defArgs st) (defBody st) (defScope st) .none kV doc pm an cdv ct) ⟨us, []⟩ = pure (ps.zip us))
    (len : ∀ vs H Q E, sp vs H Q E → vs.length = ps.length)
    (hbody : ∀ (cdv : Value) (A : Around) (outer : List Env) (s : Shared) (H : Hp) (vs : List V) (Q : VK) (E : XK), Room k (A.deeper (envOfC qual (defScope st) s.heap.objs.size f cdv)) → A.guards = some [] → sp vs H Q E →
      ∃ t, PSs (cxOf CX0 P w K mg base N qual (defScope st) f cdv A outer s H E).nox (defBody st) t ∧ t { nx := fun _ H' => Q .non H', rt := Q } (start N vs) H) :
    FnG P w K mg base CX0 (k + 1) f sp := by
  obtain ⟨fd, F⟩ := F
  obtain ⟨oc, od, kV, doc, pm, an, cdv, ct, osl, e, lk, hcd⟩ := id F.ex
  subst e
  intro A outer s H us vs Q E hr hg e0 r hs
  have hl := len vs H Q E hs
  refine LamX.run_ofS lk hcd S hr e0 (.of_eq (hb kV doc pm an cdv ct us (by rw [← r.length]; exact hl))) r hl fun hr' => ?_
  obtain ⟨t, h, q⟩ := hbody cdv A outer s H vs Q E hr' hg hs
  exact ⟨t, h.nox, q⟩
end
end NA

/-! Part Q: own op x, where x is no own object. -/
namespace PySem.W
open PySem PySem.Spec PyProof.Rows
section
variable {prog : Program} {w : World} {A : Around} {E : Value → Shared → Prop} {s : Shared} {K : Frag} {x C L f : Addr} {h₀ : Heap} {m : Str → Option Value} {ox : Obj} {od : Option Obj} {T : String}
theorem na_binT {op : Operator} {b : Value} {fo ro rc : Option Value} {Q : Value → Shared → Prop} (F : Fr h₀ L s.heap m) (X₀ : K.In h₀) (I : InstAt s.heap x ox C od) (hb : Looks (model prog w) s.heap (typeOf b) (.type T)) (hc : selfFirst K C = true)
    (hs : findIn K (.ref C) (PySem.dunder op.info.2) = some (some (.ref f))) (hf : isFn K (.ref f) = true) (hr : findIn K (.ref C) (dunderR op.info.2) = some rc) (hp : rc = none ∨ ∃ g : Addr, rc = some (.ref g))
    (h1 : findIn K (.type T) (PySem.dunder op.info.2) = some fo) (h2 : findIn K (.type T) (dunderR op.info.2) = some ro) (hsub : subIn K (.type T) (.ref C) = some false)
    (h : wpAny (model prog w) A (call (.ref f) [.ref x, b]) (CmpBack Q) E s) : wpAny (model prog w) A (binaryOp op (.ref x) b) Q E s := by
  have X := X₀.keeps F.keep
  obtain ⟨cd, rest, hcd, hm⟩ := ksp_first hc
  rcases hi : op.info with ⟨sym, nm'⟩
  rw [hi] at hs hr h1 h2
  dsimp only at hs hr h1 h2
  have one := ksp_try X I hs hf h
  obtain ⟨hh, g, d, tt, os⟩ := s
  have L1 : Looks (model prog w) hh (typeOf (.ref x)) (.ref C) := I.type
  have L2 : Looks (model prog w) hh (typeOf b) (.type T) := hb
  have L3 : Looks (model prog w) hh (fillsNumberSlot (.ref C) nm') true := fills_K X hcd hm hs
  have L4 : Looks (model prog w) hh (fillsNumberSlot (.type T) nm') ((fo.isSome && !isSeqSlot fo) || (ro.isSome && !isSeqSlot ro)) := ksp_fillsT X h1 h2
  have L5 : Looks (model prog w) hh (isSubtype (.type T) (.ref C)) false := looks_subIn X hsub
  have L6 : Looks (model prog w) hh (numberSlotInPython (.ref C) nm') true := ksp_inPy X hs hr hp
  have L7 : Looks (model prog w) hh (numberSlotInPython (.type T) nm') false := Looks.of_pure rfl
  have L8 : Looks (model prog w) hh (typeLookup (.type T) (dunderR nm')) ro := looks_findIn X h2
  generalize ((fo.isSome && !isSeqSlot fo) || (ro.isSome && !isSeqSlot ro)) = right at L4
  have hne : (Value.ref C == Value.type T) = false := Bool.eq_false_iff.mpr fun q => by cases beq_iff_eq.mp q
  simp only [binaryOp, hi]
  refine wpAny_holding (wpAny_bind ?_)
  unfold binaryOp1
  refine wpAny_bind (L1.at (wpAny_bind (L2.at (wpAny_bind (L3.at ?_)))))
  simp only [hne, Bool.false_eq_true, if_false]
  cases right with
  | false =>
    ksp_lk
    refine wpAny_mono one (fun r s' hr' => ?_) fun _ _ e => e
    obtain ⟨v, rfl, hq⟩ := hr'
    ksp_lk
    exact hq
  | true =>
    ksp_lk
    refine wpAny_mono one (fun r s' hr' => ?_) fun _ _ e => e
    obtain ⟨v, rfl, hq⟩ := hr'
    ksp_lk
    exact hq
end
end PySem.W
namespace NA
open PySem PySem.Spec PyProof.Rows L2
/-- what the text says of the operator nm between the class at C and the built-in kinds -/
structure BinF (K : PySem.W.Frag) (C : Addr) (nm : String) : Prop where
  r : ∃ rc, PySem.W.findIn K (.ref C) (dunderR nm) = some rc ∧ (rc = none ∨ ∃ g : Addr, rc = some (.ref g))
  t : ∀ T ∈ kinds, ∃ fo, PySem.W.findIn K (.type T) (PySem.dunder nm) = some fo
  tr : ∀ T ∈ kinds, ∃ ro, PySem.W.findIn K (.type T) (dunderR nm) = some ro
section
variable {X : Cx} {CX : CXT} {C f : Addr} {n : Nat} {sp : Sp} {E : XK}
def rBinK (C : Addr) (sp : Sp) (E : XK) : R2 := fun x y H Q => ∃ a dx fs T, x = .ref a ∧ H a = some (.ins C dx fs) ∧ Knd H y T ∧ sp [x, y] H Q E
theorem op_binK {op : Operator} (S : Spc X.K C (PySem.dunder op.info.2) f) (B : BinF X.K C op.info.2) (D : Apart X.K C) (hc : PySem.W.selfFirst X.K C = true) (F : FnR X.prog X.w X.K X.mg X.base CX n f sp) (hr : Room n X.A) (hx : Passes CX X E) : OpR X (binaryOp op) (rBinK C sp E) := by
  intro pins s σ H x y v u Q I rx ry h
  obtain ⟨a, dx, fs, T, rfl, ha, hk, q⟩ := h
  cases (show v = Value.ref a from rx)
  obtain ⟨od, J⟩ := inst_of I ha
  obtain ⟨m, hF⟩ := I.fr
  obtain ⟨rc, h1, h2⟩ := B.r
  obtain ⟨fo, h3⟩ := B.t T hk.mem
  obtain ⟨ro, h4⟩ := B.tr T hk.mem
  refine PySem.W.na_binT (T := T) hF I.ok.mod.kin J (looks_typeIs (hk.typeIs I ry)) hc S.at_ S.fn h1 h2 h3 h4 (D.up T hk.mem) ?_
  refine wpAny_mono (run_sub (vs := [.ref a, y]) F hr rfl hx I (.cons rfl (.cons ry .nil)) q) (fun w s' z => ?_) fun _ _ x => x
  obtain ⟨z', H', I', rz, qz⟩ := z
  exact SlX.cmpback rz ⟨z', H', I', rz, qz⟩
/-- own op x, x of either sort -/
theorem op_binA {op : Operator} (S : Spc X.K C (PySem.dunder op.info.2) f) (B : BinF X.K C op.info.2) (D : Apart X.K C) (hc : PySem.W.selfFirst X.K C = true) (F : FnR X.prog X.w X.K X.mg X.base CX n f sp) (hr : Room n X.A) (hx : Passes CX X E) :
    OpR X (binaryOp op) (fun x y H Q => rBinC C sp E x y H Q ∨ rBinK C sp E x y H Q) := by
  intro pins s σ H x y v u Q I rx ry h
  rcases h with h | h
  · exact op_binC S hc F hr hx pins s σ H x y v u Q I rx ry h
  · exact op_binK S B D hc F hr hx pins s σ H x y v u Q I rx ry h
end
end NA

/-! Texts of places, in plain Lean. -/
namespace NK
open PySem PySem.Spec PyProof.Rows L2 NA TL
def sgn : Str := "abcdefghijklmnopqrstuvwxyz0123456789"
def isNm (z : Str) : Bool := decide (1 ≤ z.length) && decide (z.length ≤ 8) && z.cps.toList.all fun c => decide (c ∈ sgn.cps.toList)
def Sx (l : List Nat) : Str := ⟨l.toArray⟩
theorem tl_Sx (l : List Nat) : tl (Sx l) = l := rfl
theorem Sx_tl (z : Str) : Sx (tl z) = z := ext_tl rfl
theorem Sx_len (l : List Nat) : (Sx l).length = l.length := by rw [len_tl]; rfl
theorem Sx_app (a b : List Nat) : Sx (a ++ b) = Sx a ++ Sx b := ext_tl (by rw [tl_append]; rfl)
/-- a row of signs cut at each slash -/
def spt : List Nat → List (List Nat)
  | [] => [[]]
  | c :: r => if c = 47 then [] :: spt r else match spt r with
    | [] => [[c]]
    | x :: xs => (c :: x) :: xs
theorem spt_ne : ∀ r, spt r ≠ []
  | [] => by simp [spt]
  | c :: r => by
    unfold spt
    split
    · simp
    · split <;> simp
theorem spt_none : ∀ {r : List Nat}, 47 ∉ r → spt r = [r]
  | [], _ => rfl
  | c :: r, h => by
    have h1 : c ≠ 47 := fun e => h (by simp [e])
    have h2 : 47 ∉ r := fun e => h (by simp [e])
    unfold spt
    rw [if_neg h1, spt_none h2]
theorem spt_some : ∀ {a b : List Nat}, 47 ∉ a → spt (a ++ 47 :: b) = a :: spt b
  | [], b, _ => by simp [spt]
  | c :: r, b, h => by
    have h1 : c ≠ 47 := fun e => h (by simp [e])
    have h2 : 47 ∉ r := fun e => h (by simp [e])
    show (if c = 47 then [] :: spt (r ++ 47 :: b) else match spt (r ++ 47 :: b) with
      | [] => [[c]]
      | x :: xs => (c :: x) :: xs) = _
    rw [if_neg h1, spt_some h2]
theorem slash_tl : tl ("/" : Str) = [47] := by decide +kernel
theorem slash_Sx : ("/" : Str) = Sx [47] := ext_tl slash_tl
theorem part_none {r : List Nat} (h : 47 ∉ r) : Txt.partition (Sx r) "/" = (Sx r, Str.empty, Str.empty) := partition_none slash_tl (a := Sx r) h
theorem part_some {a b : List Nat} (h : 47 ∉ a) : Txt.partition (Sx (a ++ 47 :: b)) "/" = (Sx a, ("/" : Str), Sx b) := by
  have e : Sx (a ++ 47 :: b) = Sx a ++ "/" ++ Sx b := ext_tl (by rw [tl_append, tl_append, slash_tl]; simp [tl_Sx])
  rw [e]
  exact partition_app slash_tl (a := Sx a) h
theorem first_slash {r : List Nat} (h : 47 ∈ r) : ∃ a b, r = a ++ 47 :: b ∧ 47 ∉ a := by
  obtain ⟨a, b, e, h⟩ := List.eq_append_cons_of_mem h
  exact ⟨a, b, e, h⟩
/-- what names_in gives -/
def namesIn (z : Str) : List Str := if z = "/" then [] else (spt ((tl z).drop 1)).map Sx
/-- the text of names -/
def txt (ns : List Str) : Str := "/" ++ Txt.join "/" ns
def isTx (z : Str) : Bool := decide ((tl z).take 1 = [47]) && decide ((namesIn z).length ≤ 8) && (namesIn z).all isNm
/-- good names: what a place holds -/
def Good (ns : List Str) : Prop := ns.length ≤ 8 ∧ ∀ n ∈ ns, isNm n = true
theorem sgn_tl : tl sgn = [97, 98, 99, 100, 101, 102, 103, 104, 105, 106, 107, 108, 109, 110, 111, 112, 113, 114, 115, 116, 117, 118, 119, 120, 121, 122, 48, 49, 50, 51, 52, 53, 54, 55, 56, 57] := by decide +kernel
theorem isNm_iff {z : Str} : isNm z = true ↔ 1 ≤ z.length ∧ z.length ≤ 8 ∧ ∀ c ∈ tl z, c ∈ tl sgn := by
  unfold isNm
  simp only [Bool.and_eq_true, decide_eq_true_eq, List.all_eq_true]
  constructor
  · rintro ⟨⟨a, b⟩, c⟩; exact ⟨a, b, c⟩
  · rintro ⟨a, b, c⟩; exact ⟨⟨a, b⟩, c⟩
theorem isNm_slash {z : Str} (h : isNm z = true) : 47 ∉ tl z := fun e => by
  have := (isNm_iff.mp h).2.2 _ e
  rw [sgn_tl] at this
  revert this
  decide
theorem join_tl (ns : List Str) : tl (Txt.join "/" ns) = joinL [47] (ns.map tl) := by rw [join_eq, tl_join, slash_tl]
theorem txt_tl (ns : List Str) : tl (txt ns) = 47 :: joinL [47] (ns.map tl) := by
  unfold txt
  rw [tl_append, slash_tl, join_tl]
  rfl
theorem spt_join : ∀ {ps : List (List Nat)}, ps ≠ [] → (∀ p ∈ ps, 47 ∉ p) → spt (joinL [47] ps) = ps
  | [], h, _ => absurd rfl h
  | [p], _, hp => by
    rw [show joinL [47] [p] = p from by simp [joinL]]
    exact spt_none (hp p (by simp))
  | p :: q :: r, _, hp => by
    rw [show joinL [47] (p :: q :: r) = p ++ 47 :: joinL [47] (q :: r) from by simp [joinL]]
    rw [spt_some (hp p (by simp)), spt_join (by simp) fun z hz => hp z (List.mem_cons_of_mem _ hz)]
theorem joinL_nil : joinL [47] [] = [] := by simp [joinL]
theorem joinL_len : ∀ ps : List (List Nat), (∀ p ∈ ps, p.length ≤ 8) → (joinL [47] ps).length ≤ 9 * ps.length
  | [], _ => by simp [joinL]
  | [p], h => by
    have := h p (by simp)
    simp [joinL]; omega
  | p :: q :: r, h => by
    have h1 := h p (by simp)
    have h2 := joinL_len (q :: r) fun z hz => h z (List.mem_cons_of_mem _ hz)
    rw [show joinL [47] (p :: q :: r) = p ++ 47 :: joinL [47] (q :: r) from by simp [joinL]]
    simp only [List.length_append, List.length_cons] at *
    omega
theorem joinL_ne : ∀ {ps : List (List Nat)}, ps ≠ [] → (∀ p ∈ ps, p ≠ []) → joinL [47] ps ≠ []
  | [], h, _ => absurd rfl h
  | [p], _, hp => by
    rw [show joinL [47] [p] = p from by simp [joinL]]
    exact hp p (by simp)
  | p :: q :: r, _, hp => by
    rw [show joinL [47] (p :: q :: r) = p ++ 47 :: joinL [47] (q :: r) from by simp [joinL]]
    simp
theorem names_txt {ns : List Str} (h : ∀ n ∈ ns, isNm n = true) : namesIn (txt ns) = ns := by
  unfold namesIn
  by_cases hn : ns = []
  · subst hn
    rw [if_pos (ext_tl (by rw [txt_tl, slash_tl]; simp [joinL_nil]))]
  · have hp : ∀ p ∈ ns.map tl, p ≠ [] ∧ 47 ∉ p := fun p hp => by
      obtain ⟨n, hn, rfl⟩ := List.mem_map.mp hp
      have := (isNm_iff.mp (h n hn)).1
      rw [len_tl] at this
      exact ⟨fun e => by rw [e] at this; simp at this, isNm_slash (h n hn)⟩
    have hne : ns.map tl ≠ [] := fun e => hn (List.map_eq_nil_iff.mp e)
    rw [if_neg, txt_tl]
    · show (spt (joinL [47] (ns.map tl))).map Sx = ns
      rw [spt_join hne fun p h => (hp p h).2, List.map_map]
      have : ∀ l : List Str, l.map (Sx ∘ tl) = l := fun l => by
        induction l with
        | nil => rfl
        | cons a l ih => rw [List.map_cons, ih]; rfl
      exact this ns
    · intro e
      have e2 := congrArg tl e
      rw [txt_tl, slash_tl] at e2
      exact joinL_ne hne (fun p h => (hp p h).1) (by simpa using e2)
theorem txt_len {ns : List Str} (h : Good ns) : (txt ns).length ≤ 73 := by
  rw [len_tl, txt_tl]
  have := joinL_len (ns.map tl) fun p hp => by
    obtain ⟨n, hn, rfl⟩ := List.mem_map.mp hp
    rw [← len_tl]
    exact (isNm_iff.mp (h.2 n hn)).2.1
  rw [List.length_map] at this
  have := h.1
  simp only [List.length_cons]
  omega
theorem isTx_txt {ns : List Str} (h : Good ns) : isTx (txt ns) = true := by
  unfold isTx
  rw [names_txt h.2, txt_tl]
  simp only [Bool.and_eq_true, decide_eq_true_eq, List.all_eq_true]
  exact ⟨⟨rfl, h.1⟩, h.2⟩
theorem good_nil : Good [] := ⟨by simp, fun _ h => nomatch h⟩
theorem Good.take {ns : List Str} (h : Good ns) (k : Nat) : Good (ns.take k) := ⟨by have := h.1; rw [List.length_take]; omega, fun n hn => h.2 n (List.mem_of_mem_take hn)⟩
theorem Good.snoc {ns : List Str} (h : Good ns) (hl : ns.length < 8) {n : Str} (hn : isNm n = true) : Good (ns ++ [n]) := ⟨by rw [List.length_append, List.length_singleton]; omega, fun m hm => by
  rcases List.mem_append.mp hm with e | e
  · exact h.2 m e
  · rw [List.mem_singleton.mp e]; exact hn⟩
theorem cut_from (z : Str) (k : Nat) : cutS z (some (k : Int)) none = Sx ((tl z).drop k) := by
  apply ext_tl
  show (((tl z).drop (HT.sIx z.length 0 (some (k : Int)))).take (HT.sIx z.length z.length none - HT.sIx z.length 0 (some (k : Int)))) = (tl z).drop k
  rw [HT.sIx_nat, HT.sIx_none, len_tl]
  by_cases h : k ≤ (tl z).length
  · rw [Nat.min_eq_left h, List.take_of_length_le (by rw [List.length_drop]; exact Nat.le_refl _)]
  · rw [Nat.min_eq_right (by omega), List.drop_of_length_le (Nat.le_refl _), List.drop_of_length_le (by omega)]
    simp
theorem cut_to (z : Str) (k : Nat) : cutS z none (some (k : Int)) = Sx ((tl z).take k) := by
  apply ext_tl
  show (((tl z).drop (HT.sIx z.length 0 none)).take (HT.sIx z.length z.length (some (k : Int)) - HT.sIx z.length 0 none)) = (tl z).take k
  rw [HT.sIx_nat, HT.sIx_none, len_tl, List.drop_zero, Nat.sub_zero]
  by_cases h : k ≤ (tl z).length
  · rw [Nat.min_eq_left h]
  · rw [Nat.min_eq_right (by omega), List.take_of_length_le (Nat.le_refl _), List.take_of_length_le (by omega)]
end NK
namespace NK
open PySem PySem.Spec PyProof.Rows L2 NA TL
theorem isNm_ok {z : Str} (h : isNm z = true) : PyData.strOk z = true := by
  unfold PyData.strOk
  rw [← Array.all_toList, List.all_eq_true]
  intro c hc
  have h1 := (isNm_iff.mp h).2.2 c hc
  rw [sgn_tl] at h1
  have : ∀ c ∈ [97, 98, 99, 100, 101, 102, 103, 104, 105, 106, 107, 108, 109, 110, 111, 112, 113, 114, 115, 116, 117, 118, 119, 120, 121, 122, 48, 49, 50, 51, 52, 53, 54, 55, 56, 57], decide (c < 0x110000) = true := by decide
  exact this c h1
theorem Good.oks {ns : List Str} (h : Good ns) : Oks ns := fun n hn => isNm_ok (h.2 n hn)
/-- the names that both begin with -/
def com : List Str → List Str → List Str
  | a :: as, b :: bs => if a = b then a :: com as bs else []
  | _, _ => []
end NK

namespace NK
open PySem PySem.Spec PyProof.Rows L2 NA
/-! ### the text by places -/
def top (i : Nat) : Stmt := PySem.Challenge.pw_nearestsays_k03_places_above_and_below.main.body.getD i (.Pass ⟨0, 0, 0, 0⟩)
abbrev s_is_name : Stmt := top 4
abbrev s_BadName_init : Stmt := inClass (top 7) 0
abbrev s_BadPlace_init : Stmt := inClass (top 8) 0
abbrev s_TooMany_init : Stmt := inClass (top 9) 0
abbrev s_is_text : Stmt := top 12
abbrev s_names_in : Stmt := top 13
abbrev s_text_of : Stmt := top 14
abbrev s_Place_init : Stmt := inClass (top 15) 1
abbrev s_Place_names : Stmt := inClass (top 15) 4
abbrev s_Place_text : Stmt := inClass (top 15) 5
abbrev s_Place_add : Stmt := inClass (top 15) 9
abbrev s_Place_contains : Stmt := inClass (top 15) 10
abbrev s_Place_and : Stmt := inClass (top 15) 11
abbrev s_Place_str : Stmt := inClass (top 15) 14
abbrev s_Place_repr : Stmt := inClass (top 15) 15
abbrev s_law_pen : Stmt := top 17
abbrev s_law_draw : Stmt := top 18
abbrev s_law_pick : Stmt := top 19
abbrev s_law_names : Stmt := top 20
abbrev s_law_near : Stmt := top 21
abbrev s_law_made : Stmt := top 22
abbrev s_law_heard : Stmt := top 23
abbrev s_law_common : Stmt := top 24
abbrev s_law_pair_right : Stmt := top 25
abbrev s_law_refused_right : Stmt := top 26
abbrev s_law : Stmt := top 27
theorem sc_is_name : FnScope ["value", "sign"] ["value"] (defScope s_is_name) := ⟨rfl, rfl, rfl, by decide +kernel, rfl, by decide +kernel, by decide +kernel⟩
theorem sc_is_text : FnScope ["value", "names", "name"] ["value"] (defScope s_is_text) := ⟨rfl, rfl, rfl, by decide +kernel, rfl, by decide +kernel, by decide +kernel⟩
theorem sc_names_in : FnScope ["text", "names", "left", "slash", "name"] ["text"] (defScope s_names_in) := ⟨rfl, rfl, rfl, by decide +kernel, rfl, by decide +kernel, by decide +kernel⟩
theorem sc_text_of : FnScope ["names"] ["names"] (defScope s_text_of) := ⟨rfl, rfl, rfl, by decide +kernel, rfl, by decide +kernel, by decide +kernel⟩
theorem sc_Place_init : FnScope ["self", "names", "name"] ["self", "names"] (defScope s_Place_init) := ⟨rfl, rfl, rfl, by decide +kernel, rfl, by decide +kernel, by decide +kernel⟩
theorem sc_Place_names : FnScope ["self"] ["self"] (defScope s_Place_names) := ⟨rfl, rfl, rfl, by decide +kernel, rfl, by decide +kernel, by decide +kernel⟩
theorem sc_Place_text : FnScope ["self"] ["self"] (defScope s_Place_text) := ⟨rfl, rfl, rfl, by decide +kernel, rfl, by decide +kernel, by decide +kernel⟩
theorem sc_Place_add : FnScope ["self", "name", "names"] ["self", "name"] (defScope s_Place_add) := ⟨rfl, rfl, rfl, by decide +kernel, rfl, by decide +kernel, by decide +kernel⟩
theorem sc_Place_contains : FnScope ["self", "x", "names"] ["self", "x"] (defScope s_Place_contains) := ⟨rfl, rfl, rfl, by decide +kernel, rfl, by decide +kernel, by decide +kernel⟩
theorem sc_Place_and : FnScope ["self", "other", "many", "names"] ["self", "other"] (defScope s_Place_and) := ⟨rfl, rfl, rfl, by decide +kernel, rfl, by decide +kernel, by decide +kernel⟩
theorem sc_Place_str : FnScope ["self"] ["self"] (defScope s_Place_str) := ⟨rfl, rfl, rfl, by decide +kernel, rfl, by decide +kernel, by decide +kernel⟩
theorem sc_Place_repr : FnScope ["self"] ["self"] (defScope s_Place_repr) := ⟨rfl, rfl, rfl, by decide +kernel, rfl, by decide +kernel, by decide +kernel⟩
theorem sc_law_pen : FnScope ["_law_script"] ["_law_script"] (defScope s_law_pen) := ⟨rfl, rfl, rfl, by decide +kernel, rfl, by decide +kernel, by decide +kernel⟩
theorem sc_law_draw : FnScope ["_law_pen_here", "_law_many", "_law_digit", "_law_at", "_law_cell", "_law_great", "_law_stirred"] ["_law_pen_here", "_law_many"] (defScope s_law_draw) := ⟨rfl, rfl, rfl, by decide +kernel, rfl, by decide +kernel, by decide +kernel⟩
theorem sc_law_pick : FnScope ["_law_pen_here", "_law_some"] ["_law_pen_here", "_law_some"] (defScope s_law_pick) := ⟨rfl, rfl, rfl, by decide +kernel, rfl, by decide +kernel, by decide +kernel⟩
theorem sc_law_names : FnScope ["_law_pen_here", "_law_k"] ["_law_pen_here"] (defScope s_law_names) := ⟨rfl, rfl, rfl, by decide +kernel, rfl, by decide +kernel, by decide +kernel⟩
theorem sc_law_near : FnScope ["_law_pen_here", "_law_some", "_law_way", "_law_spot"] ["_law_pen_here", "_law_some"] (defScope s_law_near) := ⟨rfl, rfl, rfl, by decide +kernel, rfl, by decide +kernel, by decide +kernel⟩
theorem sc_law_made : FnScope ["_law_some", "_law_found", "_law_name"] ["_law_some"] (defScope s_law_made) := ⟨rfl, rfl, rfl, by decide +kernel, rfl, by decide +kernel, by decide +kernel⟩
theorem sc_law_heard : FnScope ["_law_ask", "_law_caught", "_law_found", "error", "_law_kinds"] ["_law_ask"] (defScope s_law_heard) := ⟨rfl, rfl, rfl, by decide +kernel, rfl, by decide +kernel, by decide +kernel⟩
theorem sc_law_common : FnScope ["_law_one", "_law_other", "_law_found", "_law_first", "_law_second"] ["_law_one", "_law_other"] (defScope s_law_common) := ⟨rfl, rfl, rfl, by decide +kernel, rfl, by decide +kernel, by decide +kernel⟩
theorem sc_law_pair_right : FnScope ["_law_one", "_law_other", "_law_is_below", "_law_heard_here", "_law_left", "_law_right"] ["_law_one", "_law_other"] (defScope s_law_pair_right) := ⟨rfl, rfl, rfl, by decide +kernel, rfl, by decide +kernel, by decide +kernel⟩
theorem sc_law_refused_right : FnScope ["_law_pen_here", "_law_some", "_law_due", "_law_here", "_law_odd", "_law_thing"] ["_law_pen_here", "_law_some"] (defScope s_law_refused_right) := ⟨rfl, rfl, rfl, by decide +kernel, rfl, by decide +kernel, by decide +kernel⟩
theorem sc_law : FnScope ["_law_script", "_law_pen_here", "_law_turn", "_law_one", "_law_other"] ["_law_script"] (defScope s_law) := ⟨rfl, rfl, rfl, by decide +kernel, rfl, by decide +kernel, by decide +kernel⟩
/-! ### the addresses, the facts -/
structure Ad where
  c_Place : Addr
  c_TableError : Addr
  c_BadPlace : Addr
  c_BadName : Addr
  c_TooMany : Addr
  f_BadPlace_init : Addr
  f_BadName_init : Addr
  f_TooMany_init : Addr
  f_is_name : Addr
  f_is_text : Addr
  f_names_in : Addr
  f_text_of : Addr
  f_Place_init : Addr
  f_Place_names : Addr
  p_Place_names : Addr
  f_Place_text : Addr
  p_Place_text : Addr
  f_Place_add : Addr
  f_Place_contains : Addr
  f_Place_and : Addr
  f_Place_str : Addr
  f_Place_repr : Addr
  f_law_pen : Addr
  f_law_draw : Addr
  f_law_pick : Addr
  f_law_names : Addr
  f_law_near : Addr
  f_law_made : Addr
  f_law_heard : Addr
  f_law_common : Addr
  f_law_pair_right : Addr
  f_law_refused_right : Addr
  f_law : Addr
  k_law_pair_right : Addr
  t_law_pair_right : Addr
  k_law_refused_right : Addr
  t_law_refused_right : Addr
structure Tx (P : Program) (K : PySem.W.Frag) (mg : Str → Option Value) (A : Ad) : Prop where
  mg_Place : mg "Place" = some (.ref A.c_Place)
  pg_Place : PySem.W.plainGet K A.c_Place Str.empty = true
  hd_Place : PySem.W.hasDictIn K A.c_Place = true
  po_Place : PySem.W.plainOver K A.c_Place = true
  sa_Place : PySem.W.findIn K (.ref A.c_Place) "__setattr__" = some (some (.builtin "object.__setattr__"))
  mk_Place : PySem.W.makesIn K A.c_Place = true
  kc_Place : PySem.W.keepIn K (.ref A.c_Place) = true
  sf_Place : PySem.W.selfFirst K A.c_Place = true
  ca_Place : PySem.W.findIn K (.ref A.c_Place) "__class__" = some (some (.builtin "object.__class__"))
  cn_Place : PySem.W.specialIn K (.builtin "object.__class__") "__get__" = some (some (.builtin "getset_descriptor.__get__"))
  ct_Place : PySem.W.takesIn K (.builtin "object.__class__") = some true
  cm_Place : PySem.W.mroIn K A.c_Place (.type "object") = some true
  ob_Place : PySem.W.subIn K (.ref A.c_Place) (.type "object") = some true
  ne_Place : PySem.W.findIn K (.ref A.c_Place) "__ne__" = some (some (.builtin "object.__ne__"))
  rd_Place : PySem.W.readsIn K A.c_Place (.type "type") = true
  ga_Place : PySem.W.specialIn K (.ref A.c_Place) "__getattribute__" = some (some (.builtin "type.__getattribute__"))
  np_Place : PySem.W.findIn K (.ref A.c_Place) "parts" = some none
  ic_Place : PySem.W.isClsIn K A.c_Place = true
  ty_Place : PySem.W.typeIn K (.ref A.c_Place) = some (.type "type")
  most_Place : ∃ t, PySem.W.findCls K (.ref A.c_Place) (.type "type") "MOST" = some (.val (.int 8 t))
  ra_Place : PySem.W.findIn K (.ref A.c_Place) "__radd__" = some none
  su_Place : PySem.W.subIn K (.type "str") (.ref A.c_Place) = some false
  suNoneType_Place : PySem.W.subIn K (.type "NoneType") (.ref A.c_Place) = some false
  subool_Place : PySem.W.subIn K (.type "bool") (.ref A.c_Place) = some false
  suint_Place : PySem.W.subIn K (.type "int") (.ref A.c_Place) = some false
  sulist_Place : PySem.W.subIn K (.type "list") (.ref A.c_Place) = some false
  sutuple_Place : PySem.W.subIn K (.type "tuple") (.ref A.c_Place) = some false
  sudict_Place : PySem.W.subIn K (.type "dict") (.ref A.c_Place) = some false
  sustr_Place : PySem.W.subIn K (.ref A.c_Place) (.type "str") = some false
  dnNoneType_Place : PySem.W.subIn K (.ref A.c_Place) (.type "NoneType") = some false
  dnbool_Place : PySem.W.subIn K (.ref A.c_Place) (.type "bool") = some false
  dnint_Place : PySem.W.subIn K (.ref A.c_Place) (.type "int") = some false
  dnlist_Place : PySem.W.subIn K (.ref A.c_Place) (.type "list") = some false
  dntuple_Place : PySem.W.subIn K (.ref A.c_Place) (.type "tuple") = some false
  dndict_Place : PySem.W.subIn K (.ref A.c_Place) (.type "dict") = some false
  rn_Place : PySem.W.findIn K (.ref A.c_Place) "__rand__" = some none
  mg_TableError : mg "TableError" = some (.ref A.c_TableError)
  ga_TableError : PySem.W.findIn K (.ref A.c_TableError) "__getattribute__" = some (some (.builtin "BaseException.__getattribute__"))
  gg_TableError : PySem.W.findIn K (.ref A.c_TableError) "__getattr__" = some none
  be_TableError : PySem.W.subIn K (.ref A.c_TableError) (.type "BaseException") = some true
  hd_TableError : PySem.W.hasDictIn K A.c_TableError = true
  ca_TableError : PySem.W.findIn K (.ref A.c_TableError) "__class__" = some (some (.builtin "object.__class__"))
  ob_TableError : PySem.W.mroIn K A.c_TableError (.type "object") = some true
  ic_TableError : PySem.W.isClsIn K A.c_TableError = true
  ty_TableError : PySem.W.typeIn K (.ref A.c_TableError) = some (.type "type")
  mg_BadPlace : mg "BadPlace" = some (.ref A.c_BadPlace)
  ga_BadPlace : PySem.W.findIn K (.ref A.c_BadPlace) "__getattribute__" = some (some (.builtin "BaseException.__getattribute__"))
  gg_BadPlace : PySem.W.findIn K (.ref A.c_BadPlace) "__getattr__" = some none
  be_BadPlace : PySem.W.subIn K (.ref A.c_BadPlace) (.type "BaseException") = some true
  hd_BadPlace : PySem.W.hasDictIn K A.c_BadPlace = true
  ca_BadPlace : PySem.W.findIn K (.ref A.c_BadPlace) "__class__" = some (some (.builtin "object.__class__"))
  ob_BadPlace : PySem.W.mroIn K A.c_BadPlace (.type "object") = some true
  ic_BadPlace : PySem.W.isClsIn K A.c_BadPlace = true
  ty_BadPlace : PySem.W.typeIn K (.ref A.c_BadPlace) = some (.type "type")
  mg_BadName : mg "BadName" = some (.ref A.c_BadName)
  ga_BadName : PySem.W.findIn K (.ref A.c_BadName) "__getattribute__" = some (some (.builtin "BaseException.__getattribute__"))
  gg_BadName : PySem.W.findIn K (.ref A.c_BadName) "__getattr__" = some none
  be_BadName : PySem.W.subIn K (.ref A.c_BadName) (.type "BaseException") = some true
  hd_BadName : PySem.W.hasDictIn K A.c_BadName = true
  ca_BadName : PySem.W.findIn K (.ref A.c_BadName) "__class__" = some (some (.builtin "object.__class__"))
  ob_BadName : PySem.W.mroIn K A.c_BadName (.type "object") = some true
  ic_BadName : PySem.W.isClsIn K A.c_BadName = true
  ty_BadName : PySem.W.typeIn K (.ref A.c_BadName) = some (.type "type")
  mg_TooMany : mg "TooMany" = some (.ref A.c_TooMany)
  ga_TooMany : PySem.W.findIn K (.ref A.c_TooMany) "__getattribute__" = some (some (.builtin "BaseException.__getattribute__"))
  gg_TooMany : PySem.W.findIn K (.ref A.c_TooMany) "__getattr__" = some none
  be_TooMany : PySem.W.subIn K (.ref A.c_TooMany) (.type "BaseException") = some true
  hd_TooMany : PySem.W.hasDictIn K A.c_TooMany = true
  ca_TooMany : PySem.W.findIn K (.ref A.c_TooMany) "__class__" = some (some (.builtin "object.__class__"))
  ob_TooMany : PySem.W.mroIn K A.c_TooMany (.type "object") = some true
  ic_TooMany : PySem.W.isClsIn K A.c_TooMany = true
  ty_TooMany : PySem.W.typeIn K (.ref A.c_TooMany) = some (.type "type")
  er_BadPlace : ErC P K mg A.c_BadPlace A.f_BadPlace_init "value" "value" s_BadPlace_init
  er_BadName : ErC P K mg A.c_BadName A.f_BadName_init "value" "value" s_BadName_init
  er_TooMany : ErC P K mg A.c_TooMany A.f_TooMany_init "most" "most" s_TooMany_init
  mg_is_name : mg "is_name" = some (.ref A.f_is_name)
  fn_is_name : PySem.W.isFn K (.ref A.f_is_name) = true
  F_is_name : FunE K "is_name" "is_name" s_is_name A.f_is_name
  kp_is_name : PySem.W.keepIn K (.ref A.f_is_name) = true
  mg_is_text : mg "is_text" = some (.ref A.f_is_text)
  fn_is_text : PySem.W.isFn K (.ref A.f_is_text) = true
  F_is_text : FunE K "is_text" "is_text" s_is_text A.f_is_text
  kp_is_text : PySem.W.keepIn K (.ref A.f_is_text) = true
  mg_names_in : mg "names_in" = some (.ref A.f_names_in)
  fn_names_in : PySem.W.isFn K (.ref A.f_names_in) = true
  F_names_in : FunE K "names_in" "names_in" s_names_in A.f_names_in
  kp_names_in : PySem.W.keepIn K (.ref A.f_names_in) = true
  mg_text_of : mg "text_of" = some (.ref A.f_text_of)
  fn_text_of : PySem.W.isFn K (.ref A.f_text_of) = true
  F_text_of : FunE K "text_of" "text_of" s_text_of A.f_text_of
  kp_text_of : PySem.W.keepIn K (.ref A.f_text_of) = true
  at_Place_init : PySem.W.findIn K (.ref A.c_Place) "__init__" = some (some (.ref A.f_Place_init))
  fn_Place_init : PySem.W.isFn K (.ref A.f_Place_init) = true
  F_Place_init : FunE K "__init__" "Place.__init__" s_Place_init A.f_Place_init
  kp_Place_init : PySem.W.keepIn K (.ref A.f_Place_init) = true
  at_Place_names : PySem.W.findIn K (.ref A.c_Place) "names" = some (some (.ref A.p_Place_names))
  ge_Place_names : PySem.W.specialIn K (.ref A.p_Place_names) "__get__" = some (some (.builtin "property.__get__"))
  tk_Place_names : PySem.W.takesIn K (.ref A.p_Place_names) = some true
  rc_Place_names : ∃ rest, PySem.W.recIn K A.p_Place_names "property" = some (.ref A.f_Place_names :: rest)
  fn_Place_names : PySem.W.isFn K (.ref A.f_Place_names) = true
  F_Place_names : FunE K "names" "Place.names" s_Place_names A.f_Place_names
  kp_Place_names : PySem.W.keepIn K (.ref A.f_Place_names) = true
  at_Place_text : PySem.W.findIn K (.ref A.c_Place) "text" = some (some (.ref A.p_Place_text))
  ge_Place_text : PySem.W.specialIn K (.ref A.p_Place_text) "__get__" = some (some (.builtin "property.__get__"))
  tk_Place_text : PySem.W.takesIn K (.ref A.p_Place_text) = some true
  rc_Place_text : ∃ rest, PySem.W.recIn K A.p_Place_text "property" = some (.ref A.f_Place_text :: rest)
  fn_Place_text : PySem.W.isFn K (.ref A.f_Place_text) = true
  F_Place_text : FunE K "text" "Place.text" s_Place_text A.f_Place_text
  kp_Place_text : PySem.W.keepIn K (.ref A.f_Place_text) = true
  at_Place_add : PySem.W.findIn K (.ref A.c_Place) "__add__" = some (some (.ref A.f_Place_add))
  fn_Place_add : PySem.W.isFn K (.ref A.f_Place_add) = true
  F_Place_add : FunE K "__add__" "Place.__add__" s_Place_add A.f_Place_add
  kp_Place_add : PySem.W.keepIn K (.ref A.f_Place_add) = true
  at_Place_contains : PySem.W.findIn K (.ref A.c_Place) "__contains__" = some (some (.ref A.f_Place_contains))
  fn_Place_contains : PySem.W.isFn K (.ref A.f_Place_contains) = true
  F_Place_contains : FunE K "__contains__" "Place.__contains__" s_Place_contains A.f_Place_contains
  kp_Place_contains : PySem.W.keepIn K (.ref A.f_Place_contains) = true
  at_Place_and : PySem.W.findIn K (.ref A.c_Place) "__and__" = some (some (.ref A.f_Place_and))
  fn_Place_and : PySem.W.isFn K (.ref A.f_Place_and) = true
  F_Place_and : FunE K "__and__" "Place.__and__" s_Place_and A.f_Place_and
  kp_Place_and : PySem.W.keepIn K (.ref A.f_Place_and) = true
  at_Place_str : PySem.W.findIn K (.ref A.c_Place) "__str__" = some (some (.ref A.f_Place_str))
  fn_Place_str : PySem.W.isFn K (.ref A.f_Place_str) = true
  F_Place_str : FunE K "__str__" "Place.__str__" s_Place_str A.f_Place_str
  kp_Place_str : PySem.W.keepIn K (.ref A.f_Place_str) = true
  at_Place_repr : PySem.W.findIn K (.ref A.c_Place) "__repr__" = some (some (.ref A.f_Place_repr))
  fn_Place_repr : PySem.W.isFn K (.ref A.f_Place_repr) = true
  F_Place_repr : FunE K "__repr__" "Place.__repr__" s_Place_repr A.f_Place_repr
  kp_Place_repr : PySem.W.keepIn K (.ref A.f_Place_repr) = true
  mg_law_pen : mg "_law_pen" = some (.ref A.f_law_pen)
  fn_law_pen : PySem.W.isFn K (.ref A.f_law_pen) = true
  F_law_pen : FunE K "_law_pen" "_law_pen" s_law_pen A.f_law_pen
  kp_law_pen : PySem.W.keepIn K (.ref A.f_law_pen) = true
  mg_law_draw : mg "_law_draw" = some (.ref A.f_law_draw)
  fn_law_draw : PySem.W.isFn K (.ref A.f_law_draw) = true
  F_law_draw : FunE K "_law_draw" "_law_draw" s_law_draw A.f_law_draw
  kp_law_draw : PySem.W.keepIn K (.ref A.f_law_draw) = true
  mg_law_pick : mg "_law_pick" = some (.ref A.f_law_pick)
  fn_law_pick : PySem.W.isFn K (.ref A.f_law_pick) = true
  F_law_pick : FunE K "_law_pick" "_law_pick" s_law_pick A.f_law_pick
  kp_law_pick : PySem.W.keepIn K (.ref A.f_law_pick) = true
  mg_law_names : mg "_law_names" = some (.ref A.f_law_names)
  fn_law_names : PySem.W.isFn K (.ref A.f_law_names) = true
  F_law_names : FunE K "_law_names" "_law_names" s_law_names A.f_law_names
  kp_law_names : PySem.W.keepIn K (.ref A.f_law_names) = true
  mg_law_near : mg "_law_near" = some (.ref A.f_law_near)
  fn_law_near : PySem.W.isFn K (.ref A.f_law_near) = true
  F_law_near : FunE K "_law_near" "_law_near" s_law_near A.f_law_near
  kp_law_near : PySem.W.keepIn K (.ref A.f_law_near) = true
  mg_law_made : mg "_law_made" = some (.ref A.f_law_made)
  fn_law_made : PySem.W.isFn K (.ref A.f_law_made) = true
  F_law_made : FunE K "_law_made" "_law_made" s_law_made A.f_law_made
  kp_law_made : PySem.W.keepIn K (.ref A.f_law_made) = true
  mg_law_heard : mg "_law_heard" = some (.ref A.f_law_heard)
  fn_law_heard : PySem.W.isFn K (.ref A.f_law_heard) = true
  F_law_heard : FunE K "_law_heard" "_law_heard" s_law_heard A.f_law_heard
  kp_law_heard : PySem.W.keepIn K (.ref A.f_law_heard) = true
  mg_law_common : mg "_law_common" = some (.ref A.f_law_common)
  fn_law_common : PySem.W.isFn K (.ref A.f_law_common) = true
  F_law_common : FunE K "_law_common" "_law_common" s_law_common A.f_law_common
  kp_law_common : PySem.W.keepIn K (.ref A.f_law_common) = true
  mg_law_pair_right : mg "_law_pair_right" = some (.ref A.f_law_pair_right)
  fn_law_pair_right : PySem.W.isFn K (.ref A.f_law_pair_right) = true
  F_law_pair_right : FunE K "_law_pair_right" "_law_pair_right" s_law_pair_right A.f_law_pair_right
  kp_law_pair_right : PySem.W.keepIn K (.ref A.f_law_pair_right) = true
  mg_law_refused_right : mg "_law_refused_right" = some (.ref A.f_law_refused_right)
  fn_law_refused_right : PySem.W.isFn K (.ref A.f_law_refused_right) = true
  F_law_refused_right : FunE K "_law_refused_right" "_law_refused_right" s_law_refused_right A.f_law_refused_right
  kp_law_refused_right : PySem.W.keepIn K (.ref A.f_law_refused_right) = true
  mg_law : mg "law" = some (.ref A.f_law)
  fn_law : PySem.W.isFn K (.ref A.f_law) = true
  F_law : FunE K "law" "law" s_law A.f_law
  kp_law : PySem.W.keepIn K (.ref A.f_law) = true
  FK_law_pair_right : FunK K "_law_pair_right" "_law_pair_right" s_law_pair_right A.f_law_pair_right A.k_law_pair_right
  ch_law_pair_right : PySem.W.codeHdIn K A.k_law_pair_right A.t_law_pair_right = true
  nt_law_pair_right : K.lookup A.t_law_pair_right = none
  FK_law_refused_right : FunK K "_law_refused_right" "_law_refused_right" s_law_refused_right A.f_law_refused_right A.k_law_refused_right
  ch_law_refused_right : PySem.W.codeHdIn K A.k_law_refused_right A.t_law_refused_right = true
  nt_law_refused_right : K.lookup A.t_law_refused_right = none
  nn_law_pair_right_law_refused_right : A.t_law_pair_right ≠ A.t_law_refused_right
  k_SIGNS : ∃ t, mg "SIGNS" = some (.str "abcdefghijklmnopqrstuvwxyz0123456789" t)
  k_LONGEST_NAME : ∃ t, mg "LONGEST_NAME" = some (.int 8 t)
  k_MOST_NAMES : ∃ t, mg "MOST_NAMES" = some (.int 8 t)
  z_abs : mg "abs" = none
  z_all : mg "all" = none
  z_int : mg "int" = none
  z_isinstance : mg "isinstance" = none
  z_len : mg "len" = none
  z_list : mg "list" = none
  z_min : mg "min" = none
  z_range : mg "range" = none
  z_repr : mg "repr" = none
  z_str : mg "str" = none
  z_super : mg "super" = none
  z_tuple : mg "tuple" = none
  z_zip : mg "zip" = none
  tb_BadName : PySem.W.subIn K (.ref A.c_BadName) (.ref A.c_TableError) = some true
  tb_BadPlace : PySem.W.subIn K (.ref A.c_BadPlace) (.ref A.c_TableError) = some true
  tb_TooMany : PySem.W.subIn K (.ref A.c_TooMany) (.ref A.c_TableError) = some true
  nv_BadName : PySem.W.findIn K (.ref A.c_BadName) "value" = some none
  nv_BadPlace : PySem.W.findIn K (.ref A.c_BadPlace) "value" = some none
  nv_TooMany : PySem.W.findIn K (.ref A.c_TooMany) "most" = some none
  xBadName_BadPlace : PySem.W.subIn K (.ref A.c_BadName) (.ref A.c_BadPlace) = some false
  xBadName_TooMany : PySem.W.subIn K (.ref A.c_BadName) (.ref A.c_TooMany) = some false
  xBadPlace_BadName : PySem.W.subIn K (.ref A.c_BadPlace) (.ref A.c_BadName) = some false
  xBadPlace_TooMany : PySem.W.subIn K (.ref A.c_BadPlace) (.ref A.c_TooMany) = some false
  xTooMany_BadName : PySem.W.subIn K (.ref A.c_TooMany) (.ref A.c_BadName) = some false
  xTooMany_BadPlace : PySem.W.subIn K (.ref A.c_TooMany) (.ref A.c_BadPlace) = some false
  nn_BadName_BadPlace : A.c_BadName ≠ A.c_BadPlace
  nn_BadName_TooMany : A.c_BadName ≠ A.c_TooMany
  nn_BadPlace_TooMany : A.c_BadPlace ≠ A.c_TooMany
  badd_NoneType : ∃ v, PySem.W.findIn K (.type "NoneType") "__add__" = some v
  badd_bool : ∃ v, PySem.W.findIn K (.type "bool") "__add__" = some v
  badd_int : ∃ v, PySem.W.findIn K (.type "int") "__add__" = some v
  badd_str : ∃ v, PySem.W.findIn K (.type "str") "__add__" = some v
  badd_list : ∃ v, PySem.W.findIn K (.type "list") "__add__" = some v
  badd_tuple : ∃ v, PySem.W.findIn K (.type "tuple") "__add__" = some v
  badd_dict : ∃ v, PySem.W.findIn K (.type "dict") "__add__" = some v
  bradd_NoneType : ∃ v, PySem.W.findIn K (.type "NoneType") "__radd__" = some v
  bradd_bool : ∃ v, PySem.W.findIn K (.type "bool") "__radd__" = some v
  bradd_int : ∃ v, PySem.W.findIn K (.type "int") "__radd__" = some v
  bradd_str : ∃ v, PySem.W.findIn K (.type "str") "__radd__" = some v
  bradd_list : ∃ v, PySem.W.findIn K (.type "list") "__radd__" = some v
  bradd_tuple : ∃ v, PySem.W.findIn K (.type "tuple") "__radd__" = some v
  bradd_dict : ∃ v, PySem.W.findIn K (.type "dict") "__radd__" = some v
  band_NoneType : ∃ v, PySem.W.findIn K (.type "NoneType") "__and__" = some v
  band_bool : ∃ v, PySem.W.findIn K (.type "bool") "__and__" = some v
  band_int : ∃ v, PySem.W.findIn K (.type "int") "__and__" = some v
  band_str : ∃ v, PySem.W.findIn K (.type "str") "__and__" = some v
  band_list : ∃ v, PySem.W.findIn K (.type "list") "__and__" = some v
  band_tuple : ∃ v, PySem.W.findIn K (.type "tuple") "__and__" = some v
  band_dict : ∃ v, PySem.W.findIn K (.type "dict") "__and__" = some v
  brand_NoneType : ∃ v, PySem.W.findIn K (.type "NoneType") "__rand__" = some v
  brand_bool : ∃ v, PySem.W.findIn K (.type "bool") "__rand__" = some v
  brand_int : ∃ v, PySem.W.findIn K (.type "int") "__rand__" = some v
  brand_str : ∃ v, PySem.W.findIn K (.type "str") "__rand__" = some v
  brand_list : ∃ v, PySem.W.findIn K (.type "list") "__rand__" = some v
  brand_tuple : ∃ v, PySem.W.findIn K (.type "tuple") "__rand__" = some v
  brand_dict : ∃ v, PySem.W.findIn K (.type "dict") "__rand__" = some v
theorem tx_mk {P : Program} {K : PySem.W.Frag} {h : Heap} {mg : Str → Option Value} (X : K.In h) (G : h.Ns mainGlobals mg) {c_Place c_TableError c_BadPlace c_BadName c_TooMany f_BadPlace_init f_BadName_init f_TooMany_init f_is_name f_is_text f_names_in f_text_of f_Place_init f_Place_names p_Place_names f_Place_text p_Place_text f_Place_add f_Place_contains f_Place_and f_Place_str f_Place_repr f_law_pen f_law_draw f_law_pick f_law_names f_law_near f_law_made f_law_heard f_law_common f_law_pair_right f_law_refused_right f_law k_law_pair_right t_law_pair_right k_law_refused_right t_law_refused_right : Addr} {tt1 : Tok} {nm_BadPlace_init qn_BadPlace_init ql_BadPlace_init fl_BadPlace_init : Str} {N_BadPlace_init cc_BadPlace_init cda_BadPlace_init : Addr} {bs_BadPlace_init bm_BadPlace_init sb_BadPlace_init : List Value} {sn_BadPlace_init : List Str} {ab_BadPlace_init : Bool} {co_BadPlace_init : Option Bool} {dd_BadPlace_init odd_BadPlace_init ann_BadPlace_init od2_BadPlace_init od3_BadPlace_init : Option Addr} {ka_BadPlace_init kb_BadPlace_init kc_BadPlace_init kd_BadPlace_init ke_BadPlace_init : Option Value} {kv_BadPlace_init dc_BadPlace_init pm_BadPlace_init ct_BadPlace_init occ_BadPlace_init oc2_BadPlace_init oc3_BadPlace_init : Value} {os_BadPlace_init os2_BadPlace_init os3_BadPlace_init : Array (Option Value)} {vs_BadPlace_init : Array Value} {tf_BadPlace_init : Tok} {nm_BadName_init qn_BadName_init ql_BadName_init fl_BadName_init : Str} {N_BadName_init cc_BadName_init cda_BadName_init : Addr} {bs_BadName_init bm_BadName_init sb_BadName_init : List Value} {sn_BadName_init : List Str} {ab_BadName_init : Bool} {co_BadName_init : Option Bool} {dd_BadName_init odd_BadName_init ann_BadName_init od2_BadName_init od3_BadName_init : Option Addr} {ka_BadName_init kb_BadName_init kc_BadName_init kd_BadName_init ke_BadName_init : Option Value} {kv_BadName_init dc_BadName_init pm_BadName_init ct_BadName_init occ_BadName_init oc2_BadName_init oc3_BadName_init : Value} {os_BadName_init os2_BadName_init os3_BadName_init : Array (Option Value)} {vs_BadName_init : Array Value} {tf_BadName_init : Tok} {nm_TooMany_init qn_TooMany_init ql_TooMany_init fl_TooMany_init : Str} {N_TooMany_init cc_TooMany_init cda_TooMany_init : Addr} {bs_TooMany_init bm_TooMany_init sb_TooMany_init : List Value} {sn_TooMany_init : List Str} {ab_TooMany_init : Bool} {co_TooMany_init : Option Bool} {dd_TooMany_init odd_TooMany_init ann_TooMany_init od2_TooMany_init od3_TooMany_init : Option Addr} {ka_TooMany_init kb_TooMany_init kc_TooMany_init kd_TooMany_init ke_TooMany_init : Option Value} {kv_TooMany_init dc_TooMany_init pm_TooMany_init ct_TooMany_init occ_TooMany_init oc2_TooMany_init oc3_TooMany_init : Value} {os_TooMany_init os2_TooMany_init os3_TooMany_init : Array (Option Value)} {vs_TooMany_init : Array Value} {tf_TooMany_init : Tok} {oc_is_name kV_is_name dc_is_name pm_is_name cd_is_name ct_is_name : Value} {od_is_name an_is_name : Option Addr} {sl_is_name : Array (Option Value)} {oc_is_text kV_is_text dc_is_text pm_is_text cd_is_text ct_is_text : Value} {od_is_text an_is_text : Option Addr} {sl_is_text : Array (Option Value)} {oc_names_in kV_names_in dc_names_in pm_names_in cd_names_in ct_names_in : Value} {od_names_in an_names_in : Option Addr} {sl_names_in : Array (Option Value)} {oc_text_of kV_text_of dc_text_of pm_text_of cd_text_of ct_text_of : Value} {od_text_of an_text_of : Option Addr} {sl_text_of : Array (Option Value)} {oc_Place_init kV_Place_init dc_Place_init pm_Place_init cd_Place_init ct_Place_init : Value} {od_Place_init an_Place_init : Option Addr} {sl_Place_init : Array (Option Value)} {rr2 : List Value} {oc_Place_names kV_Place_names dc_Place_names pm_Place_names cd_Place_names ct_Place_names : Value} {od_Place_names an_Place_names : Option Addr} {sl_Place_names : Array (Option Value)} {rr3 : List Value} {oc_Place_text kV_Place_text dc_Place_text pm_Place_text cd_Place_text ct_Place_text : Value} {od_Place_text an_Place_text : Option Addr} {sl_Place_text : Array (Option Value)} {oc_Place_add kV_Place_add dc_Place_add pm_Place_add cd_Place_add ct_Place_add : Value} {od_Place_add an_Place_add : Option Addr} {sl_Place_add : Array (Option Value)} {oc_Place_contains kV_Place_contains dc_Place_contains pm_Place_contains cd_Place_contains ct_Place_contains : Value} {od_Place_contains an_Place_contains : Option Addr} {sl_Place_contains : Array (Option Value)} {oc_Place_and kV_Place_and dc_Place_and pm_Place_and cd_Place_and ct_Place_and : Value} {od_Place_and an_Place_and : Option Addr} {sl_Place_and : Array (Option Value)} {oc_Place_str kV_Place_str dc_Place_str pm_Place_str cd_Place_str ct_Place_str : Value} {od_Place_str an_Place_str : Option Addr} {sl_Place_str : Array (Option Value)} {oc_Place_repr kV_Place_repr dc_Place_repr pm_Place_repr cd_Place_repr ct_Place_repr : Value} {od_Place_repr an_Place_repr : Option Addr} {sl_Place_repr : Array (Option Value)} {oc_law_pen kV_law_pen dc_law_pen pm_law_pen cd_law_pen ct_law_pen : Value} {od_law_pen an_law_pen : Option Addr} {sl_law_pen : Array (Option Value)} {oc_law_draw kV_law_draw dc_law_draw pm_law_draw cd_law_draw ct_law_draw : Value} {od_law_draw an_law_draw : Option Addr} {sl_law_draw : Array (Option Value)} {oc_law_pick kV_law_pick dc_law_pick pm_law_pick cd_law_pick ct_law_pick : Value} {od_law_pick an_law_pick : Option Addr} {sl_law_pick : Array (Option Value)} {oc_law_names kV_law_names dc_law_names pm_law_names cd_law_names ct_law_names : Value} {od_law_names an_law_names : Option Addr} {sl_law_names : Array (Option Value)} {oc_law_near kV_law_near dc_law_near pm_law_near cd_law_near ct_law_near : Value} {od_law_near an_law_near : Option Addr} {sl_law_near : Array (Option Value)} {oc_law_made kV_law_made dc_law_made pm_law_made cd_law_made ct_law_made : Value} {od_law_made an_law_made : Option Addr} {sl_law_made : Array (Option Value)} {oc_law_heard kV_law_heard dc_law_heard pm_law_heard cd_law_heard ct_law_heard : Value} {od_law_heard an_law_heard : Option Addr} {sl_law_heard : Array (Option Value)} {oc_law_common kV_law_common dc_law_common pm_law_common cd_law_common ct_law_common : Value} {od_law_common an_law_common : Option Addr} {sl_law_common : Array (Option Value)} {oc_law_pair_right kV_law_pair_right dc_law_pair_right pm_law_pair_right cd_law_pair_right ct_law_pair_right : Value} {od_law_pair_right an_law_pair_right : Option Addr} {sl_law_pair_right : Array (Option Value)} {oc_law_refused_right kV_law_refused_right dc_law_refused_right pm_law_refused_right cd_law_refused_right ct_law_refused_right : Value} {od_law_refused_right an_law_refused_right : Option Addr} {sl_law_refused_right : Array (Option Value)} {oc_law kV_law dc_law pm_law cd_law ct_law : Value} {od_law an_law : Option Addr} {sl_law : Array (Option Value)} {ocK_law_pair_right kVK_law_pair_right dcK_law_pair_right pmK_law_pair_right ctK_law_pair_right : Value} {odK_law_pair_right anK_law_pair_right : Option Addr} {slK_law_pair_right : Array (Option Value)} {ocC_law_pair_right : Value} {odC_law_pair_right : Option Addr} {vsC_law_pair_right : Array Value} {slC_law_pair_right : Array (Option Value)} {ocK_law_refused_right kVK_law_refused_right dcK_law_refused_right pmK_law_refused_right ctK_law_refused_right : Value} {odK_law_refused_right anK_law_refused_right : Option Addr} {slK_law_refused_right : Array (Option Value)} {ocC_law_refused_right : Value} {odC_law_refused_right : Option Addr} {vsC_law_refused_right : Array Value} {slC_law_refused_right : Array (Option Value)} {tt4 : Tok} {tt5 : Tok} {tt6 : Tok} {aa7 : Option Value} {aa8 : Option Value} {aa9 : Option Value} {aa10 : Option Value} {aa11 : Option Value} {aa12 : Option Value} {aa13 : Option Value} {aa14 : Option Value} {aa15 : Option Value} {aa16 : Option Value} {aa17 : Option Value} {aa18 : Option Value} {aa19 : Option Value} {aa20 : Option Value} {aa21 : Option Value} {aa22 : Option Value} {aa23 : Option Value} {aa24 : Option Value} {aa25 : Option Value} {aa26 : Option Value} {aa27 : Option Value} {aa28 : Option Value} {aa29 : Option Value} {aa30 : Option Value} {aa31 : Option Value} {aa32 : Option Value} {aa33 : Option Value} {aa34 : Option Value}
    (mg_Place : PySem.W.nsIn K mainGlobals "Place" = some (some (.ref c_Place)))
    (pg_Place : PySem.W.plainGet K c_Place Str.empty = true)
    (hd_Place : PySem.W.hasDictIn K c_Place = true)
    (po_Place : PySem.W.plainOver K c_Place = true)
    (sa_Place : PySem.W.findIn K (.ref c_Place) "__setattr__" = some (some (.builtin "object.__setattr__")))
    (mk_Place : PySem.W.makesIn K c_Place = true)
    (kc_Place : PySem.W.keepIn K (.ref c_Place) = true)
    (sf_Place : PySem.W.selfFirst K c_Place = true)
    (ca_Place : PySem.W.findIn K (.ref c_Place) "__class__" = some (some (.builtin "object.__class__")))
    (cn_Place : PySem.W.specialIn K (.builtin "object.__class__") "__get__" = some (some (.builtin "getset_descriptor.__get__")))
    (ct_Place : PySem.W.takesIn K (.builtin "object.__class__") = some true)
    (cm_Place : PySem.W.mroIn K c_Place (.type "object") = some true)
    (ob_Place : PySem.W.subIn K (.ref c_Place) (.type "object") = some true)
    (ne_Place : PySem.W.findIn K (.ref c_Place) "__ne__" = some (some (.builtin "object.__ne__")))
    (rd_Place : PySem.W.readsIn K c_Place (.type "type") = true)
    (ga_Place : PySem.W.specialIn K (.ref c_Place) "__getattribute__" = some (some (.builtin "type.__getattribute__")))
    (np_Place : PySem.W.findIn K (.ref c_Place) "parts" = some none)
    (ic_Place : PySem.W.isClsIn K c_Place = true)
    (ty_Place : PySem.W.typeIn K (.ref c_Place) = some (.type "type"))
    (most_Place : PySem.W.findCls K (.ref c_Place) (.type "type") "MOST" = some (.val (.int 8 tt1)))
    (ra_Place : PySem.W.findIn K (.ref c_Place) "__radd__" = some none)
    (su_Place : PySem.W.subIn K (.type "str") (.ref c_Place) = some false)
    (suNoneType_Place : PySem.W.subIn K (.type "NoneType") (.ref c_Place) = some false)
    (subool_Place : PySem.W.subIn K (.type "bool") (.ref c_Place) = some false)
    (suint_Place : PySem.W.subIn K (.type "int") (.ref c_Place) = some false)
    (sulist_Place : PySem.W.subIn K (.type "list") (.ref c_Place) = some false)
    (sutuple_Place : PySem.W.subIn K (.type "tuple") (.ref c_Place) = some false)
    (sudict_Place : PySem.W.subIn K (.type "dict") (.ref c_Place) = some false)
    (sustr_Place : PySem.W.subIn K (.ref c_Place) (.type "str") = some false)
    (dnNoneType_Place : PySem.W.subIn K (.ref c_Place) (.type "NoneType") = some false)
    (dnbool_Place : PySem.W.subIn K (.ref c_Place) (.type "bool") = some false)
    (dnint_Place : PySem.W.subIn K (.ref c_Place) (.type "int") = some false)
    (dnlist_Place : PySem.W.subIn K (.ref c_Place) (.type "list") = some false)
    (dntuple_Place : PySem.W.subIn K (.ref c_Place) (.type "tuple") = some false)
    (dndict_Place : PySem.W.subIn K (.ref c_Place) (.type "dict") = some false)
    (rn_Place : PySem.W.findIn K (.ref c_Place) "__rand__" = some none)
    (mg_TableError : PySem.W.nsIn K mainGlobals "TableError" = some (some (.ref c_TableError)))
    (ga_TableError : PySem.W.findIn K (.ref c_TableError) "__getattribute__" = some (some (.builtin "BaseException.__getattribute__")))
    (gg_TableError : PySem.W.findIn K (.ref c_TableError) "__getattr__" = some none)
    (be_TableError : PySem.W.subIn K (.ref c_TableError) (.type "BaseException") = some true)
    (hd_TableError : PySem.W.hasDictIn K c_TableError = true)
    (ca_TableError : PySem.W.findIn K (.ref c_TableError) "__class__" = some (some (.builtin "object.__class__")))
    (ob_TableError : PySem.W.mroIn K c_TableError (.type "object") = some true)
    (ic_TableError : PySem.W.isClsIn K c_TableError = true)
    (ty_TableError : PySem.W.typeIn K (.ref c_TableError) = some (.type "type"))
    (mg_BadPlace : PySem.W.nsIn K mainGlobals "BadPlace" = some (some (.ref c_BadPlace)))
    (ga_BadPlace : PySem.W.findIn K (.ref c_BadPlace) "__getattribute__" = some (some (.builtin "BaseException.__getattribute__")))
    (gg_BadPlace : PySem.W.findIn K (.ref c_BadPlace) "__getattr__" = some none)
    (be_BadPlace : PySem.W.subIn K (.ref c_BadPlace) (.type "BaseException") = some true)
    (hd_BadPlace : PySem.W.hasDictIn K c_BadPlace = true)
    (ca_BadPlace : PySem.W.findIn K (.ref c_BadPlace) "__class__" = some (some (.builtin "object.__class__")))
    (ob_BadPlace : PySem.W.mroIn K c_BadPlace (.type "object") = some true)
    (ic_BadPlace : PySem.W.isClsIn K c_BadPlace = true)
    (ty_BadPlace : PySem.W.typeIn K (.ref c_BadPlace) = some (.type "type"))
    (mg_BadName : PySem.W.nsIn K mainGlobals "BadName" = some (some (.ref c_BadName)))
    (ga_BadName : PySem.W.findIn K (.ref c_BadName) "__getattribute__" = some (some (.builtin "BaseException.__getattribute__")))
    (gg_BadName : PySem.W.findIn K (.ref c_BadName) "__getattr__" = some none)
    (be_BadName : PySem.W.subIn K (.ref c_BadName) (.type "BaseException") = some true)
    (hd_BadName : PySem.W.hasDictIn K c_BadName = true)
    (ca_BadName : PySem.W.findIn K (.ref c_BadName) "__class__" = some (some (.builtin "object.__class__")))
    (ob_BadName : PySem.W.mroIn K c_BadName (.type "object") = some true)
    (ic_BadName : PySem.W.isClsIn K c_BadName = true)
    (ty_BadName : PySem.W.typeIn K (.ref c_BadName) = some (.type "type"))
    (mg_TooMany : PySem.W.nsIn K mainGlobals "TooMany" = some (some (.ref c_TooMany)))
    (ga_TooMany : PySem.W.findIn K (.ref c_TooMany) "__getattribute__" = some (some (.builtin "BaseException.__getattribute__")))
    (gg_TooMany : PySem.W.findIn K (.ref c_TooMany) "__getattr__" = some none)
    (be_TooMany : PySem.W.subIn K (.ref c_TooMany) (.type "BaseException") = some true)
    (hd_TooMany : PySem.W.hasDictIn K c_TooMany = true)
    (ca_TooMany : PySem.W.findIn K (.ref c_TooMany) "__class__" = some (some (.builtin "object.__class__")))
    (ob_TooMany : PySem.W.mroIn K c_TooMany (.type "object") = some true)
    (ic_TooMany : PySem.W.isClsIn K c_TooMany = true)
    (ty_TooMany : PySem.W.typeIn K (.ref c_TooMany) = some (.type "type"))
    (xa_BadPlace_init : K.lookup c_BadPlace = some (excClassObj nm_BadPlace_init qn_BadPlace_init c_BadPlace N_BadPlace_init bs_BadPlace_init bm_BadPlace_init true sn_BadPlace_init sb_BadPlace_init ab_BadPlace_init co_BadPlace_init dd_BadPlace_init ka_BadPlace_init kb_BadPlace_init kc_BadPlace_init kd_BadPlace_init ke_BadPlace_init "ValueError.__new__"))
    (xb_BadPlace_init : PySem.HandSPX.refsVE bm_BadPlace_init = true)
    (xc_BadPlace_init : PySem.W.findIn K (.ref c_BadPlace) "__setattr__" = some (some (.builtin "object.__setattr__")))
    (xd_BadPlace_init : PySem.W.subIn K (.ref c_BadPlace) (.type "BaseException") = some true)
    (xe_BadPlace_init : PySem.W.typeIn K (.ref c_BadPlace) = some (.type "type"))
    (xf_BadPlace_init : PySem.W.keepIn K (.ref c_BadPlace) = true)
    (xg_BadPlace_init : PySem.W.findIn K (.ref c_BadPlace) "__init__" = some (some (.ref f_BadPlace_init)))
    (xh_BadPlace_init : PySem.W.typeIn K (.ref f_BadPlace_init) = some (.type "function"))
    (xi_BadPlace_init : PySem.W.findIn K (.ref c_BadPlace) "value" = some none)
    (xj_BadPlace_init : PySem.W.nsIn K cStatics "thirdparty.any" = some none)
    (xk_BadPlace_init : PySem.W.ks_superIn K c_BadPlace c_BadPlace "__init__" = some (some (.builtin "ValueError.__init__")))
    (xl_BadPlace_init : PySem.W.subIn K (.ref c_BadPlace) (.type "ValueError") = some true)
    (xm_BadPlace_init : PySem.W.mroIn K c_BadPlace (.ref c_BadPlace) = some true)
    (xn_BadPlace_init : PySem.W.nsIn K mainGlobals "super" = some none)
    (xo_BadPlace_init : (P.main.scope.names.lookup ("super" : Str)).isSome = false)
    (xp_BadPlace_init : K.lookup f_BadPlace_init = some ⟨occ_BadPlace_init, odd_BadPlace_init, .func (erFd ql_BadPlace_init (defArgs s_BadPlace_init) (defBody s_BadPlace_init) (defScope s_BadPlace_init) cc_BadPlace_init kv_BadPlace_init dc_BadPlace_init pm_BadPlace_init ann_BadPlace_init (.ref cda_BadPlace_init) ct_BadPlace_init), os_BadPlace_init⟩)
    (xq_BadPlace_init : PySem.W.codeIn K (.ref cda_BadPlace_init) ql_BadPlace_init = true)
    (xr_BadPlace_init : K.lookup cc_BadPlace_init = some ⟨oc2_BadPlace_init, od2_BadPlace_init, .cell (some (.ref c_BadPlace)), os2_BadPlace_init⟩)
    (xs_BadPlace_init : K.lookup cda_BadPlace_init = some ⟨oc3_BadPlace_init, od3_BadPlace_init, .fields vs_BadPlace_init, os3_BadPlace_init⟩)
    (xt_BadPlace_init : vs_BadPlace_init[2]? = some (.str fl_BadPlace_init tf_BadPlace_init))
    (xu_BadPlace_init : ((P.main.file : Str) == fl_BadPlace_init) = true)
    (xa_BadName_init : K.lookup c_BadName = some (excClassObj nm_BadName_init qn_BadName_init c_BadName N_BadName_init bs_BadName_init bm_BadName_init true sn_BadName_init sb_BadName_init ab_BadName_init co_BadName_init dd_BadName_init ka_BadName_init kb_BadName_init kc_BadName_init kd_BadName_init ke_BadName_init "ValueError.__new__"))
    (xb_BadName_init : PySem.HandSPX.refsVE bm_BadName_init = true)
    (xc_BadName_init : PySem.W.findIn K (.ref c_BadName) "__setattr__" = some (some (.builtin "object.__setattr__")))
    (xd_BadName_init : PySem.W.subIn K (.ref c_BadName) (.type "BaseException") = some true)
    (xe_BadName_init : PySem.W.typeIn K (.ref c_BadName) = some (.type "type"))
    (xf_BadName_init : PySem.W.keepIn K (.ref c_BadName) = true)
    (xg_BadName_init : PySem.W.findIn K (.ref c_BadName) "__init__" = some (some (.ref f_BadName_init)))
    (xh_BadName_init : PySem.W.typeIn K (.ref f_BadName_init) = some (.type "function"))
    (xi_BadName_init : PySem.W.findIn K (.ref c_BadName) "value" = some none)
    (xj_BadName_init : PySem.W.nsIn K cStatics "thirdparty.any" = some none)
    (xk_BadName_init : PySem.W.ks_superIn K c_BadName c_BadName "__init__" = some (some (.builtin "ValueError.__init__")))
    (xl_BadName_init : PySem.W.subIn K (.ref c_BadName) (.type "ValueError") = some true)
    (xm_BadName_init : PySem.W.mroIn K c_BadName (.ref c_BadName) = some true)
    (xn_BadName_init : PySem.W.nsIn K mainGlobals "super" = some none)
    (xo_BadName_init : (P.main.scope.names.lookup ("super" : Str)).isSome = false)
    (xp_BadName_init : K.lookup f_BadName_init = some ⟨occ_BadName_init, odd_BadName_init, .func (erFd ql_BadName_init (defArgs s_BadName_init) (defBody s_BadName_init) (defScope s_BadName_init) cc_BadName_init kv_BadName_init dc_BadName_init pm_BadName_init ann_BadName_init (.ref cda_BadName_init) ct_BadName_init), os_BadName_init⟩)
    (xq_BadName_init : PySem.W.codeIn K (.ref cda_BadName_init) ql_BadName_init = true)
    (xr_BadName_init : K.lookup cc_BadName_init = some ⟨oc2_BadName_init, od2_BadName_init, .cell (some (.ref c_BadName)), os2_BadName_init⟩)
    (xs_BadName_init : K.lookup cda_BadName_init = some ⟨oc3_BadName_init, od3_BadName_init, .fields vs_BadName_init, os3_BadName_init⟩)
    (xt_BadName_init : vs_BadName_init[2]? = some (.str fl_BadName_init tf_BadName_init))
    (xu_BadName_init : ((P.main.file : Str) == fl_BadName_init) = true)
    (xa_TooMany_init : K.lookup c_TooMany = some (excClassObj nm_TooMany_init qn_TooMany_init c_TooMany N_TooMany_init bs_TooMany_init bm_TooMany_init true sn_TooMany_init sb_TooMany_init ab_TooMany_init co_TooMany_init dd_TooMany_init ka_TooMany_init kb_TooMany_init kc_TooMany_init kd_TooMany_init ke_TooMany_init "ValueError.__new__"))
    (xb_TooMany_init : PySem.HandSPX.refsVE bm_TooMany_init = true)
    (xc_TooMany_init : PySem.W.findIn K (.ref c_TooMany) "__setattr__" = some (some (.builtin "object.__setattr__")))
    (xd_TooMany_init : PySem.W.subIn K (.ref c_TooMany) (.type "BaseException") = some true)
    (xe_TooMany_init : PySem.W.typeIn K (.ref c_TooMany) = some (.type "type"))
    (xf_TooMany_init : PySem.W.keepIn K (.ref c_TooMany) = true)
    (xg_TooMany_init : PySem.W.findIn K (.ref c_TooMany) "__init__" = some (some (.ref f_TooMany_init)))
    (xh_TooMany_init : PySem.W.typeIn K (.ref f_TooMany_init) = some (.type "function"))
    (xi_TooMany_init : PySem.W.findIn K (.ref c_TooMany) "most" = some none)
    (xj_TooMany_init : PySem.W.nsIn K cStatics "thirdparty.any" = some none)
    (xk_TooMany_init : PySem.W.ks_superIn K c_TooMany c_TooMany "__init__" = some (some (.builtin "ValueError.__init__")))
    (xl_TooMany_init : PySem.W.subIn K (.ref c_TooMany) (.type "ValueError") = some true)
    (xm_TooMany_init : PySem.W.mroIn K c_TooMany (.ref c_TooMany) = some true)
    (xn_TooMany_init : PySem.W.nsIn K mainGlobals "super" = some none)
    (xo_TooMany_init : (P.main.scope.names.lookup ("super" : Str)).isSome = false)
    (xp_TooMany_init : K.lookup f_TooMany_init = some ⟨occ_TooMany_init, odd_TooMany_init, .func (erFd ql_TooMany_init (defArgs s_TooMany_init) (defBody s_TooMany_init) (defScope s_TooMany_init) cc_TooMany_init kv_TooMany_init dc_TooMany_init pm_TooMany_init ann_TooMany_init (.ref cda_TooMany_init) ct_TooMany_init), os_TooMany_init⟩)
    (xq_TooMany_init : PySem.W.codeIn K (.ref cda_TooMany_init) ql_TooMany_init = true)
    (xr_TooMany_init : K.lookup cc_TooMany_init = some ⟨oc2_TooMany_init, od2_TooMany_init, .cell (some (.ref c_TooMany)), os2_TooMany_init⟩)
    (xs_TooMany_init : K.lookup cda_TooMany_init = some ⟨oc3_TooMany_init, od3_TooMany_init, .fields vs_TooMany_init, os3_TooMany_init⟩)
    (xt_TooMany_init : vs_TooMany_init[2]? = some (.str fl_TooMany_init tf_TooMany_init))
    (xu_TooMany_init : ((P.main.file : Str) == fl_TooMany_init) = true)
    (mg_is_name : PySem.W.nsIn K mainGlobals "is_name" = some (some (.ref f_is_name)))
    (fn_is_name : PySem.W.isFn K (.ref f_is_name) = true)
    (l_is_name : K.lookup f_is_name = some ⟨oc_is_name, od_is_name, .func (PySem.W.fnOf "is_name" "is_name" (defArgs s_is_name) (defBody s_is_name) (defScope s_is_name) .none kV_is_name dc_is_name pm_is_name an_is_name cd_is_name ct_is_name), sl_is_name⟩)
    (cc_is_name : PySem.W.codeIn K cd_is_name "is_name" = true)
    (kk_is_name : PySem.W.keepIn K (.ref f_is_name) = true)
    (kp_is_name : PySem.W.keepIn K (.ref f_is_name) = true)
    (mg_is_text : PySem.W.nsIn K mainGlobals "is_text" = some (some (.ref f_is_text)))
    (fn_is_text : PySem.W.isFn K (.ref f_is_text) = true)
    (l_is_text : K.lookup f_is_text = some ⟨oc_is_text, od_is_text, .func (PySem.W.fnOf "is_text" "is_text" (defArgs s_is_text) (defBody s_is_text) (defScope s_is_text) .none kV_is_text dc_is_text pm_is_text an_is_text cd_is_text ct_is_text), sl_is_text⟩)
    (cc_is_text : PySem.W.codeIn K cd_is_text "is_text" = true)
    (kk_is_text : PySem.W.keepIn K (.ref f_is_text) = true)
    (kp_is_text : PySem.W.keepIn K (.ref f_is_text) = true)
    (mg_names_in : PySem.W.nsIn K mainGlobals "names_in" = some (some (.ref f_names_in)))
    (fn_names_in : PySem.W.isFn K (.ref f_names_in) = true)
    (l_names_in : K.lookup f_names_in = some ⟨oc_names_in, od_names_in, .func (PySem.W.fnOf "names_in" "names_in" (defArgs s_names_in) (defBody s_names_in) (defScope s_names_in) .none kV_names_in dc_names_in pm_names_in an_names_in cd_names_in ct_names_in), sl_names_in⟩)
    (cc_names_in : PySem.W.codeIn K cd_names_in "names_in" = true)
    (kk_names_in : PySem.W.keepIn K (.ref f_names_in) = true)
    (kp_names_in : PySem.W.keepIn K (.ref f_names_in) = true)
    (mg_text_of : PySem.W.nsIn K mainGlobals "text_of" = some (some (.ref f_text_of)))
    (fn_text_of : PySem.W.isFn K (.ref f_text_of) = true)
    (l_text_of : K.lookup f_text_of = some ⟨oc_text_of, od_text_of, .func (PySem.W.fnOf "text_of" "text_of" (defArgs s_text_of) (defBody s_text_of) (defScope s_text_of) .none kV_text_of dc_text_of pm_text_of an_text_of cd_text_of ct_text_of), sl_text_of⟩)
    (cc_text_of : PySem.W.codeIn K cd_text_of "text_of" = true)
    (kk_text_of : PySem.W.keepIn K (.ref f_text_of) = true)
    (kp_text_of : PySem.W.keepIn K (.ref f_text_of) = true)
    (at_Place_init : PySem.W.findIn K (.ref c_Place) "__init__" = some (some (.ref f_Place_init)))
    (fn_Place_init : PySem.W.isFn K (.ref f_Place_init) = true)
    (l_Place_init : K.lookup f_Place_init = some ⟨oc_Place_init, od_Place_init, .func (PySem.W.fnOf "__init__" "Place.__init__" (defArgs s_Place_init) (defBody s_Place_init) (defScope s_Place_init) .none kV_Place_init dc_Place_init pm_Place_init an_Place_init cd_Place_init ct_Place_init), sl_Place_init⟩)
    (cc_Place_init : PySem.W.codeIn K cd_Place_init "Place.__init__" = true)
    (kk_Place_init : PySem.W.keepIn K (.ref f_Place_init) = true)
    (kp_Place_init : PySem.W.keepIn K (.ref f_Place_init) = true)
    (at_Place_names : PySem.W.findIn K (.ref c_Place) "names" = some (some (.ref p_Place_names)))
    (ge_Place_names : PySem.W.specialIn K (.ref p_Place_names) "__get__" = some (some (.builtin "property.__get__")))
    (tk_Place_names : PySem.W.takesIn K (.ref p_Place_names) = some true)
    (rc_Place_names : PySem.W.recIn K p_Place_names "property" = some (.ref f_Place_names :: rr2))
    (fn_Place_names : PySem.W.isFn K (.ref f_Place_names) = true)
    (l_Place_names : K.lookup f_Place_names = some ⟨oc_Place_names, od_Place_names, .func (PySem.W.fnOf "names" "Place.names" (defArgs s_Place_names) (defBody s_Place_names) (defScope s_Place_names) .none kV_Place_names dc_Place_names pm_Place_names an_Place_names cd_Place_names ct_Place_names), sl_Place_names⟩)
    (cc_Place_names : PySem.W.codeIn K cd_Place_names "Place.names" = true)
    (kk_Place_names : PySem.W.keepIn K (.ref f_Place_names) = true)
    (kp_Place_names : PySem.W.keepIn K (.ref f_Place_names) = true)
    (at_Place_text : PySem.W.findIn K (.ref c_Place) "text" = some (some (.ref p_Place_text)))
    (ge_Place_text : PySem.W.specialIn K (.ref p_Place_text) "__get__" = some (some (.builtin "property.__get__")))
    (tk_Place_text : PySem.W.takesIn K (.ref p_Place_text) = some true)
    (rc_Place_text : PySem.W.recIn K p_Place_text "property" = some (.ref f_Place_text :: rr3))
    (fn_Place_text : PySem.W.isFn K (.ref f_Place_text) = true)
    (l_Place_text : K.lookup f_Place_text = some ⟨oc_Place_text, od_Place_text, .func (PySem.W.fnOf "text" "Place.text" (defArgs s_Place_text) (defBody s_Place_text) (defScope s_Place_text) .none kV_Place_text dc_Place_text pm_Place_text an_Place_text cd_Place_text ct_Place_text), sl_Place_text⟩)
    (cc_Place_text : PySem.W.codeIn K cd_Place_text "Place.text" = true)
    (kk_Place_text : PySem.W.keepIn K (.ref f_Place_text) = true)
    (kp_Place_text : PySem.W.keepIn K (.ref f_Place_text) = true)
    (at_Place_add : PySem.W.findIn K (.ref c_Place) "__add__" = some (some (.ref f_Place_add)))
    (fn_Place_add : PySem.W.isFn K (.ref f_Place_add) = true)
    (l_Place_add : K.lookup f_Place_add = some ⟨oc_Place_add, od_Place_add, .func (PySem.W.fnOf "__add__" "Place.__add__" (defArgs s_Place_add) (defBody s_Place_add) (defScope s_Place_add) .none kV_Place_add dc_Place_add pm_Place_add an_Place_add cd_Place_add ct_Place_add), sl_Place_add⟩)
    (cc_Place_add : PySem.W.codeIn K cd_Place_add "Place.__add__" = true)
    (kk_Place_add : PySem.W.keepIn K (.ref f_Place_add) = true)
    (kp_Place_add : PySem.W.keepIn K (.ref f_Place_add) = true)
    (at_Place_contains : PySem.W.findIn K (.ref c_Place) "__contains__" = some (some (.ref f_Place_contains)))
    (fn_Place_contains : PySem.W.isFn K (.ref f_Place_contains) = true)
    (l_Place_contains : K.lookup f_Place_contains = some ⟨oc_Place_contains, od_Place_contains, .func (PySem.W.fnOf "__contains__" "Place.__contains__" (defArgs s_Place_contains) (defBody s_Place_contains) (defScope s_Place_contains) .none kV_Place_contains dc_Place_contains pm_Place_contains an_Place_contains cd_Place_contains ct_Place_contains), sl_Place_contains⟩)
    (cc_Place_contains : PySem.W.codeIn K cd_Place_contains "Place.__contains__" = true)
    (kk_Place_contains : PySem.W.keepIn K (.ref f_Place_contains) = true)
    (kp_Place_contains : PySem.W.keepIn K (.ref f_Place_contains) = true)
    (at_Place_and : PySem.W.findIn K (.ref c_Place) "__and__" = some (some (.ref f_Place_and)))
    (fn_Place_and : PySem.W.isFn K (.ref f_Place_and) = true)
    (l_Place_and : K.lookup f_Place_and = some ⟨oc_Place_and, od_Place_and, .func (PySem.W.fnOf "__and__" "Place.__and__" (defArgs s_Place_and) (defBody s_Place_and) (defScope s_Place_and) .none kV_Place_and dc_Place_and pm_Place_and an_Place_and cd_Place_and ct_Place_and), sl_Place_and⟩)
    (cc_Place_and : PySem.W.codeIn K cd_Place_and "Place.__and__" = true)
    (kk_Place_and : PySem.W.keepIn K (.ref f_Place_and) = true)
    (kp_Place_and : PySem.W.keepIn K (.ref f_Place_and) = true)
    (at_Place_str : PySem.W.findIn K (.ref c_Place) "__str__" = some (some (.ref f_Place_str)))
    (fn_Place_str : PySem.W.isFn K (.ref f_Place_str) = true)
    (l_Place_str : K.lookup f_Place_str = some ⟨oc_Place_str, od_Place_str, .func (PySem.W.fnOf "__str__" "Place.__str__" (defArgs s_Place_str) (defBody s_Place_str) (defScope s_Place_str) .none kV_Place_str dc_Place_str pm_Place_str an_Place_str cd_Place_str ct_Place_str), sl_Place_str⟩)
    (cc_Place_str : PySem.W.codeIn K cd_Place_str "Place.__str__" = true)
    (kk_Place_str : PySem.W.keepIn K (.ref f_Place_str) = true)
    (kp_Place_str : PySem.W.keepIn K (.ref f_Place_str) = true)
    (at_Place_repr : PySem.W.findIn K (.ref c_Place) "__repr__" = some (some (.ref f_Place_repr)))
    (fn_Place_repr : PySem.W.isFn K (.ref f_Place_repr) = true)
    (l_Place_repr : K.lookup f_Place_repr = some ⟨oc_Place_repr, od_Place_repr, .func (PySem.W.fnOf "__repr__" "Place.__repr__" (defArgs s_Place_repr) (defBody s_Place_repr) (defScope s_Place_repr) .none kV_Place_repr dc_Place_repr pm_Place_repr an_Place_repr cd_Place_repr ct_Place_repr), sl_Place_repr⟩)
    (cc_Place_repr : PySem.W.codeIn K cd_Place_repr "Place.__repr__" = true)
    (kk_Place_repr : PySem.W.keepIn K (.ref f_Place_repr) = true)
    (kp_Place_repr : PySem.W.keepIn K (.ref f_Place_repr) = true)
    (mg_law_pen : PySem.W.nsIn K mainGlobals "_law_pen" = some (some (.ref f_law_pen)))
    (fn_law_pen : PySem.W.isFn K (.ref f_law_pen) = true)
    (l_law_pen : K.lookup f_law_pen = some ⟨oc_law_pen, od_law_pen, .func (PySem.W.fnOf "_law_pen" "_law_pen" (defArgs s_law_pen) (defBody s_law_pen) (defScope s_law_pen) .none kV_law_pen dc_law_pen pm_law_pen an_law_pen cd_law_pen ct_law_pen), sl_law_pen⟩)
    (cc_law_pen : PySem.W.codeIn K cd_law_pen "_law_pen" = true)
    (kk_law_pen : PySem.W.keepIn K (.ref f_law_pen) = true)
    (kp_law_pen : PySem.W.keepIn K (.ref f_law_pen) = true)
    (mg_law_draw : PySem.W.nsIn K mainGlobals "_law_draw" = some (some (.ref f_law_draw)))
    (fn_law_draw : PySem.W.isFn K (.ref f_law_draw) = true)
    (l_law_draw : K.lookup f_law_draw = some ⟨oc_law_draw, od_law_draw, .func (PySem.W.fnOf "_law_draw" "_law_draw" (defArgs s_law_draw) (defBody s_law_draw) (defScope s_law_draw) .none kV_law_draw dc_law_draw pm_law_draw an_law_draw cd_law_draw ct_law_draw), sl_law_draw⟩)
    (cc_law_draw : PySem.W.codeIn K cd_law_draw "_law_draw" = true)
    (kk_law_draw : PySem.W.keepIn K (.ref f_law_draw) = true)
    (kp_law_draw : PySem.W.keepIn K (.ref f_law_draw) = true)
    (mg_law_pick : PySem.W.nsIn K mainGlobals "_law_pick" = some (some (.ref f_law_pick)))
    (fn_law_pick : PySem.W.isFn K (.ref f_law_pick) = true)
    (l_law_pick : K.lookup f_law_pick = some ⟨oc_law_pick, od_law_pick, .func (PySem.W.fnOf "_law_pick" "_law_pick" (defArgs s_law_pick) (defBody s_law_pick) (defScope s_law_pick) .none kV_law_pick dc_law_pick pm_law_pick an_law_pick cd_law_pick ct_law_pick), sl_law_pick⟩)
    (cc_law_pick : PySem.W.codeIn K cd_law_pick "_law_pick" = true)
    (kk_law_pick : PySem.W.keepIn K (.ref f_law_pick) = true)
    (kp_law_pick : PySem.W.keepIn K (.ref f_law_pick) = true)
    (mg_law_names : PySem.W.nsIn K mainGlobals "_law_names" = some (some (.ref f_law_names)))
    (fn_law_names : PySem.W.isFn K (.ref f_law_names) = true)
    (l_law_names : K.lookup f_law_names = some ⟨oc_law_names, od_law_names, .func (PySem.W.fnOf "_law_names" "_law_names" (defArgs s_law_names) (defBody s_law_names) (defScope s_law_names) .none kV_law_names dc_law_names pm_law_names an_law_names cd_law_names ct_law_names), sl_law_names⟩)
    (cc_law_names : PySem.W.codeIn K cd_law_names "_law_names" = true)
    (kk_law_names : PySem.W.keepIn K (.ref f_law_names) = true)
    (kp_law_names : PySem.W.keepIn K (.ref f_law_names) = true)
    (mg_law_near : PySem.W.nsIn K mainGlobals "_law_near" = some (some (.ref f_law_near)))
    (fn_law_near : PySem.W.isFn K (.ref f_law_near) = true)
    (l_law_near : K.lookup f_law_near = some ⟨oc_law_near, od_law_near, .func (PySem.W.fnOf "_law_near" "_law_near" (defArgs s_law_near) (defBody s_law_near) (defScope s_law_near) .none kV_law_near dc_law_near pm_law_near an_law_near cd_law_near ct_law_near), sl_law_near⟩)
    (cc_law_near : PySem.W.codeIn K cd_law_near "_law_near" = true)
    (kk_law_near : PySem.W.keepIn K (.ref f_law_near) = true)
    (kp_law_near : PySem.W.keepIn K (.ref f_law_near) = true)
    (mg_law_made : PySem.W.nsIn K mainGlobals "_law_made" = some (some (.ref f_law_made)))
    (fn_law_made : PySem.W.isFn K (.ref f_law_made) = true)
    (l_law_made : K.lookup f_law_made = some ⟨oc_law_made, od_law_made, .func (PySem.W.fnOf "_law_made" "_law_made" (defArgs s_law_made) (defBody s_law_made) (defScope s_law_made) .none kV_law_made dc_law_made pm_law_made an_law_made cd_law_made ct_law_made), sl_law_made⟩)
    (cc_law_made : PySem.W.codeIn K cd_law_made "_law_made" = true)
    (kk_law_made : PySem.W.keepIn K (.ref f_law_made) = true)
    (kp_law_made : PySem.W.keepIn K (.ref f_law_made) = true)
    (mg_law_heard : PySem.W.nsIn K mainGlobals "_law_heard" = some (some (.ref f_law_heard)))
    (fn_law_heard : PySem.W.isFn K (.ref f_law_heard) = true)
    (l_law_heard : K.lookup f_law_heard = some ⟨oc_law_heard, od_law_heard, .func (PySem.W.fnOf "_law_heard" "_law_heard" (defArgs s_law_heard) (defBody s_law_heard) (defScope s_law_heard) .none kV_law_heard dc_law_heard pm_law_heard an_law_heard cd_law_heard ct_law_heard), sl_law_heard⟩)
    (cc_law_heard : PySem.W.codeIn K cd_law_heard "_law_heard" = true)
    (kk_law_heard : PySem.W.keepIn K (.ref f_law_heard) = true)
    (kp_law_heard : PySem.W.keepIn K (.ref f_law_heard) = true)
    (mg_law_common : PySem.W.nsIn K mainGlobals "_law_common" = some (some (.ref f_law_common)))
    (fn_law_common : PySem.W.isFn K (.ref f_law_common) = true)
    (l_law_common : K.lookup f_law_common = some ⟨oc_law_common, od_law_common, .func (PySem.W.fnOf "_law_common" "_law_common" (defArgs s_law_common) (defBody s_law_common) (defScope s_law_common) .none kV_law_common dc_law_common pm_law_common an_law_common cd_law_common ct_law_common), sl_law_common⟩)
    (cc_law_common : PySem.W.codeIn K cd_law_common "_law_common" = true)
    (kk_law_common : PySem.W.keepIn K (.ref f_law_common) = true)
    (kp_law_common : PySem.W.keepIn K (.ref f_law_common) = true)
    (mg_law_pair_right : PySem.W.nsIn K mainGlobals "_law_pair_right" = some (some (.ref f_law_pair_right)))
    (fn_law_pair_right : PySem.W.isFn K (.ref f_law_pair_right) = true)
    (l_law_pair_right : K.lookup f_law_pair_right = some ⟨oc_law_pair_right, od_law_pair_right, .func (PySem.W.fnOf "_law_pair_right" "_law_pair_right" (defArgs s_law_pair_right) (defBody s_law_pair_right) (defScope s_law_pair_right) .none kV_law_pair_right dc_law_pair_right pm_law_pair_right an_law_pair_right cd_law_pair_right ct_law_pair_right), sl_law_pair_right⟩)
    (cc_law_pair_right : PySem.W.codeIn K cd_law_pair_right "_law_pair_right" = true)
    (kk_law_pair_right : PySem.W.keepIn K (.ref f_law_pair_right) = true)
    (kp_law_pair_right : PySem.W.keepIn K (.ref f_law_pair_right) = true)
    (mg_law_refused_right : PySem.W.nsIn K mainGlobals "_law_refused_right" = some (some (.ref f_law_refused_right)))
    (fn_law_refused_right : PySem.W.isFn K (.ref f_law_refused_right) = true)
    (l_law_refused_right : K.lookup f_law_refused_right = some ⟨oc_law_refused_right, od_law_refused_right, .func (PySem.W.fnOf "_law_refused_right" "_law_refused_right" (defArgs s_law_refused_right) (defBody s_law_refused_right) (defScope s_law_refused_right) .none kV_law_refused_right dc_law_refused_right pm_law_refused_right an_law_refused_right cd_law_refused_right ct_law_refused_right), sl_law_refused_right⟩)
    (cc_law_refused_right : PySem.W.codeIn K cd_law_refused_right "_law_refused_right" = true)
    (kk_law_refused_right : PySem.W.keepIn K (.ref f_law_refused_right) = true)
    (kp_law_refused_right : PySem.W.keepIn K (.ref f_law_refused_right) = true)
    (mg_law : PySem.W.nsIn K mainGlobals "law" = some (some (.ref f_law)))
    (fn_law : PySem.W.isFn K (.ref f_law) = true)
    (l_law : K.lookup f_law = some ⟨oc_law, od_law, .func (PySem.W.fnOf "law" "law" (defArgs s_law) (defBody s_law) (defScope s_law) .none kV_law dc_law pm_law an_law cd_law ct_law), sl_law⟩)
    (cc_law : PySem.W.codeIn K cd_law "law" = true)
    (kk_law : PySem.W.keepIn K (.ref f_law) = true)
    (kp_law : PySem.W.keepIn K (.ref f_law) = true)
    (lK_law_pair_right : K.lookup f_law_pair_right = some ⟨ocK_law_pair_right, odK_law_pair_right, .func (PySem.W.fnOf "_law_pair_right" "_law_pair_right" (defArgs s_law_pair_right) (defBody s_law_pair_right) (defScope s_law_pair_right) .none kVK_law_pair_right dcK_law_pair_right pmK_law_pair_right anK_law_pair_right (.ref k_law_pair_right) ctK_law_pair_right), slK_law_pair_right⟩)
    (cK_law_pair_right : PySem.W.codeIn K (.ref k_law_pair_right) "_law_pair_right" = true)
    (kC_law_pair_right : K.lookup k_law_pair_right = some ⟨ocC_law_pair_right, odC_law_pair_right, .fields vsC_law_pair_right, slC_law_pair_right⟩)
    (tC_law_pair_right : vsC_law_pair_right[11]? = some (.ref t_law_pair_right))
    (hC_law_pair_right : PySem.W.codeHdIn K k_law_pair_right t_law_pair_right = true)
    (nt_law_pair_right : K.lookup t_law_pair_right = none)
    (lK_law_refused_right : K.lookup f_law_refused_right = some ⟨ocK_law_refused_right, odK_law_refused_right, .func (PySem.W.fnOf "_law_refused_right" "_law_refused_right" (defArgs s_law_refused_right) (defBody s_law_refused_right) (defScope s_law_refused_right) .none kVK_law_refused_right dcK_law_refused_right pmK_law_refused_right anK_law_refused_right (.ref k_law_refused_right) ctK_law_refused_right), slK_law_refused_right⟩)
    (cK_law_refused_right : PySem.W.codeIn K (.ref k_law_refused_right) "_law_refused_right" = true)
    (kC_law_refused_right : K.lookup k_law_refused_right = some ⟨ocC_law_refused_right, odC_law_refused_right, .fields vsC_law_refused_right, slC_law_refused_right⟩)
    (tC_law_refused_right : vsC_law_refused_right[11]? = some (.ref t_law_refused_right))
    (hC_law_refused_right : PySem.W.codeHdIn K k_law_refused_right t_law_refused_right = true)
    (nt_law_refused_right : K.lookup t_law_refused_right = none)
    (nn_law_pair_right_law_refused_right : t_law_pair_right ≠ t_law_refused_right)
    (k_SIGNS : PySem.W.nsIn K mainGlobals "SIGNS" = some (some (.str "abcdefghijklmnopqrstuvwxyz0123456789" tt4)))
    (k_LONGEST_NAME : PySem.W.nsIn K mainGlobals "LONGEST_NAME" = some (some (.int 8 tt5)))
    (k_MOST_NAMES : PySem.W.nsIn K mainGlobals "MOST_NAMES" = some (some (.int 8 tt6)))
    (z_abs : PySem.W.nsIn K mainGlobals "abs" = some none)
    (z_all : PySem.W.nsIn K mainGlobals "all" = some none)
    (z_int : PySem.W.nsIn K mainGlobals "int" = some none)
    (z_isinstance : PySem.W.nsIn K mainGlobals "isinstance" = some none)
    (z_len : PySem.W.nsIn K mainGlobals "len" = some none)
    (z_list : PySem.W.nsIn K mainGlobals "list" = some none)
    (z_min : PySem.W.nsIn K mainGlobals "min" = some none)
    (z_range : PySem.W.nsIn K mainGlobals "range" = some none)
    (z_repr : PySem.W.nsIn K mainGlobals "repr" = some none)
    (z_str : PySem.W.nsIn K mainGlobals "str" = some none)
    (z_super : PySem.W.nsIn K mainGlobals "super" = some none)
    (z_tuple : PySem.W.nsIn K mainGlobals "tuple" = some none)
    (z_zip : PySem.W.nsIn K mainGlobals "zip" = some none)
    (tb_BadName : PySem.W.subIn K (.ref c_BadName) (.ref c_TableError) = some true)
    (tb_BadPlace : PySem.W.subIn K (.ref c_BadPlace) (.ref c_TableError) = some true)
    (tb_TooMany : PySem.W.subIn K (.ref c_TooMany) (.ref c_TableError) = some true)
    (nv_BadName : PySem.W.findIn K (.ref c_BadName) "value" = some none)
    (nv_BadPlace : PySem.W.findIn K (.ref c_BadPlace) "value" = some none)
    (nv_TooMany : PySem.W.findIn K (.ref c_TooMany) "most" = some none)
    (xBadName_BadPlace : PySem.W.subIn K (.ref c_BadName) (.ref c_BadPlace) = some false)
    (xBadName_TooMany : PySem.W.subIn K (.ref c_BadName) (.ref c_TooMany) = some false)
    (xBadPlace_BadName : PySem.W.subIn K (.ref c_BadPlace) (.ref c_BadName) = some false)
    (xBadPlace_TooMany : PySem.W.subIn K (.ref c_BadPlace) (.ref c_TooMany) = some false)
    (xTooMany_BadName : PySem.W.subIn K (.ref c_TooMany) (.ref c_BadName) = some false)
    (xTooMany_BadPlace : PySem.W.subIn K (.ref c_TooMany) (.ref c_BadPlace) = some false)
    (nn_BadName_BadPlace : c_BadName ≠ c_BadPlace)
    (nn_BadName_TooMany : c_BadName ≠ c_TooMany)
    (nn_BadPlace_TooMany : c_BadPlace ≠ c_TooMany)
    (badd_NoneType : PySem.W.findIn K (.type "NoneType") "__add__" = some aa7)
    (badd_bool : PySem.W.findIn K (.type "bool") "__add__" = some aa8)
    (badd_int : PySem.W.findIn K (.type "int") "__add__" = some aa9)
    (badd_str : PySem.W.findIn K (.type "str") "__add__" = some aa10)
    (badd_list : PySem.W.findIn K (.type "list") "__add__" = some aa11)
    (badd_tuple : PySem.W.findIn K (.type "tuple") "__add__" = some aa12)
    (badd_dict : PySem.W.findIn K (.type "dict") "__add__" = some aa13)
    (bradd_NoneType : PySem.W.findIn K (.type "NoneType") "__radd__" = some aa14)
    (bradd_bool : PySem.W.findIn K (.type "bool") "__radd__" = some aa15)
    (bradd_int : PySem.W.findIn K (.type "int") "__radd__" = some aa16)
    (bradd_str : PySem.W.findIn K (.type "str") "__radd__" = some aa17)
    (bradd_list : PySem.W.findIn K (.type "list") "__radd__" = some aa18)
    (bradd_tuple : PySem.W.findIn K (.type "tuple") "__radd__" = some aa19)
    (bradd_dict : PySem.W.findIn K (.type "dict") "__radd__" = some aa20)
    (band_NoneType : PySem.W.findIn K (.type "NoneType") "__and__" = some aa21)
    (band_bool : PySem.W.findIn K (.type "bool") "__and__" = some aa22)
    (band_int : PySem.W.findIn K (.type "int") "__and__" = some aa23)
    (band_str : PySem.W.findIn K (.type "str") "__and__" = some aa24)
    (band_list : PySem.W.findIn K (.type "list") "__and__" = some aa25)
    (band_tuple : PySem.W.findIn K (.type "tuple") "__and__" = some aa26)
    (band_dict : PySem.W.findIn K (.type "dict") "__and__" = some aa27)
    (brand_NoneType : PySem.W.findIn K (.type "NoneType") "__rand__" = some aa28)
    (brand_bool : PySem.W.findIn K (.type "bool") "__rand__" = some aa29)
    (brand_int : PySem.W.findIn K (.type "int") "__rand__" = some aa30)
    (brand_str : PySem.W.findIn K (.type "str") "__rand__" = some aa31)
    (brand_list : PySem.W.findIn K (.type "list") "__rand__" = some aa32)
    (brand_tuple : PySem.W.findIn K (.type "tuple") "__rand__" = some aa33)
    (brand_dict : PySem.W.findIn K (.type "dict") "__rand__" = some aa34)
    : Tx P K mg (⟨c_Place, c_TableError, c_BadPlace, c_BadName, c_TooMany, f_BadPlace_init, f_BadName_init, f_TooMany_init, f_is_name, f_is_text, f_names_in, f_text_of, f_Place_init, f_Place_names, p_Place_names, f_Place_text, p_Place_text, f_Place_add, f_Place_contains, f_Place_and, f_Place_str, f_Place_repr, f_law_pen, f_law_draw, f_law_pick, f_law_names, f_law_near, f_law_made, f_law_heard, f_law_common, f_law_pair_right, f_law_refused_right, f_law, k_law_pair_right, t_law_pair_right, k_law_refused_right, t_law_refused_right⟩ : Ad) := ⟨PySem.W.mg_of X G mg_Place, pg_Place, hd_Place, po_Place, sa_Place, mk_Place, kc_Place, sf_Place, ca_Place, cn_Place, ct_Place, cm_Place, ob_Place, ne_Place, rd_Place, ga_Place, np_Place, ic_Place, ty_Place, ⟨_, most_Place⟩, ra_Place, su_Place, suNoneType_Place, subool_Place, suint_Place, sulist_Place, sutuple_Place, sudict_Place, sustr_Place, dnNoneType_Place, dnbool_Place, dnint_Place, dnlist_Place, dntuple_Place, dndict_Place, rn_Place, PySem.W.mg_of X G mg_TableError, ga_TableError, gg_TableError, be_TableError, hd_TableError, ca_TableError, ob_TableError, ic_TableError, ty_TableError, PySem.W.mg_of X G mg_BadPlace, ga_BadPlace, gg_BadPlace, be_BadPlace, hd_BadPlace, ca_BadPlace, ob_BadPlace, ic_BadPlace, ty_BadPlace, PySem.W.mg_of X G mg_BadName, ga_BadName, gg_BadName, be_BadName, hd_BadName, ca_BadName, ob_BadName, ic_BadName, ty_BadName, PySem.W.mg_of X G mg_TooMany, ga_TooMany, gg_TooMany, be_TooMany, hd_TooMany, ca_TooMany, ob_TooMany, ic_TooMany, ty_TooMany, ⟨⟨⟨_, _, _, _, _, _, _, _, _, _, _, _, _, _, _, xa_BadPlace_init, xb_BadPlace_init⟩, xc_BadPlace_init, xd_BadPlace_init, xe_BadPlace_init, xf_BadPlace_init⟩, xg_BadPlace_init, xh_BadPlace_init, xi_BadPlace_init, xj_BadPlace_init, xk_BadPlace_init, xl_BadPlace_init, xm_BadPlace_init, PySem.W.mg_none_of X G xn_BadPlace_init, xo_BadPlace_init, ⟨_, _, _, _, _, _, _, _, _, _, _, xp_BadPlace_init, xq_BadPlace_init, ⟨_, _, _, xr_BadPlace_init⟩, _, _, _, _, _, _, xs_BadPlace_init, xt_BadPlace_init, xu_BadPlace_init⟩, ⟨_, by decide +kernel, _, _, _, _, _, _, _, _, _, _, _, rfl, fun env => ⟨_, rfl⟩⟩, rfl, rfl, rfl, rfl, rfl, rfl, rfl, rfl, by decide +kernel, by decide +kernel, by decide +kernel, by decide, by decide, fun _ _ _ _ _ _ _ _ _ _ => rfl⟩, ⟨⟨⟨_, _, _, _, _, _, _, _, _, _, _, _, _, _, _, xa_BadName_init, xb_BadName_init⟩, xc_BadName_init, xd_BadName_init, xe_BadName_init, xf_BadName_init⟩, xg_BadName_init, xh_BadName_init, xi_BadName_init, xj_BadName_init, xk_BadName_init, xl_BadName_init, xm_BadName_init, PySem.W.mg_none_of X G xn_BadName_init, xo_BadName_init, ⟨_, _, _, _, _, _, _, _, _, _, _, xp_BadName_init, xq_BadName_init, ⟨_, _, _, xr_BadName_init⟩, _, _, _, _, _, _, xs_BadName_init, xt_BadName_init, xu_BadName_init⟩, ⟨_, by decide +kernel, _, _, _, _, _, _, _, _, _, _, _, rfl, fun env => ⟨_, rfl⟩⟩, rfl, rfl, rfl, rfl, rfl, rfl, rfl, rfl, by decide +kernel, by decide +kernel, by decide +kernel, by decide, by decide, fun _ _ _ _ _ _ _ _ _ _ => rfl⟩, ⟨⟨⟨_, _, _, _, _, _, _, _, _, _, _, _, _, _, _, xa_TooMany_init, xb_TooMany_init⟩, xc_TooMany_init, xd_TooMany_init, xe_TooMany_init, xf_TooMany_init⟩, xg_TooMany_init, xh_TooMany_init, xi_TooMany_init, xj_TooMany_init, xk_TooMany_init, xl_TooMany_init, xm_TooMany_init, PySem.W.mg_none_of X G xn_TooMany_init, xo_TooMany_init, ⟨_, _, _, _, _, _, _, _, _, _, _, xp_TooMany_init, xq_TooMany_init, ⟨_, _, _, xr_TooMany_init⟩, _, _, _, _, _, _, xs_TooMany_init, xt_TooMany_init, xu_TooMany_init⟩, ⟨_, by decide +kernel, _, _, _, _, _, _, _, _, _, _, _, rfl, fun env => ⟨_, rfl⟩⟩, rfl, rfl, rfl, rfl, rfl, rfl, rfl, rfl, by decide +kernel, by decide +kernel, by decide +kernel, by decide, by decide, fun _ _ _ _ _ _ _ _ _ _ => rfl⟩, PySem.W.mg_of X G mg_is_name, fn_is_name, ⟨_, fun_mk (st := s_is_name) l_is_name cc_is_name kk_is_name⟩, kp_is_name, PySem.W.mg_of X G mg_is_text, fn_is_text, ⟨_, fun_mk (st := s_is_text) l_is_text cc_is_text kk_is_text⟩, kp_is_text, PySem.W.mg_of X G mg_names_in, fn_names_in, ⟨_, fun_mk (st := s_names_in) l_names_in cc_names_in kk_names_in⟩, kp_names_in, PySem.W.mg_of X G mg_text_of, fn_text_of, ⟨_, fun_mk (st := s_text_of) l_text_of cc_text_of kk_text_of⟩, kp_text_of, at_Place_init, fn_Place_init, ⟨_, fun_mk (st := s_Place_init) l_Place_init cc_Place_init kk_Place_init⟩, kp_Place_init, at_Place_names, ge_Place_names, tk_Place_names, ⟨_, rc_Place_names⟩, fn_Place_names, ⟨_, fun_mk (st := s_Place_names) l_Place_names cc_Place_names kk_Place_names⟩, kp_Place_names, at_Place_text, ge_Place_text, tk_Place_text, ⟨_, rc_Place_text⟩, fn_Place_text, ⟨_, fun_mk (st := s_Place_text) l_Place_text cc_Place_text kk_Place_text⟩, kp_Place_text, at_Place_add, fn_Place_add, ⟨_, fun_mk (st := s_Place_add) l_Place_add cc_Place_add kk_Place_add⟩, kp_Place_add, at_Place_contains, fn_Place_contains, ⟨_, fun_mk (st := s_Place_contains) l_Place_contains cc_Place_contains kk_Place_contains⟩, kp_Place_contains, at_Place_and, fn_Place_and, ⟨_, fun_mk (st := s_Place_and) l_Place_and cc_Place_and kk_Place_and⟩, kp_Place_and, at_Place_str, fn_Place_str, ⟨_, fun_mk (st := s_Place_str) l_Place_str cc_Place_str kk_Place_str⟩, kp_Place_str, at_Place_repr, fn_Place_repr, ⟨_, fun_mk (st := s_Place_repr) l_Place_repr cc_Place_repr kk_Place_repr⟩, kp_Place_repr, PySem.W.mg_of X G mg_law_pen, fn_law_pen, ⟨_, fun_mk (st := s_law_pen) l_law_pen cc_law_pen kk_law_pen⟩, kp_law_pen, PySem.W.mg_of X G mg_law_draw, fn_law_draw, ⟨_, fun_mk (st := s_law_draw) l_law_draw cc_law_draw kk_law_draw⟩, kp_law_draw, PySem.W.mg_of X G mg_law_pick, fn_law_pick, ⟨_, fun_mk (st := s_law_pick) l_law_pick cc_law_pick kk_law_pick⟩, kp_law_pick, PySem.W.mg_of X G mg_law_names, fn_law_names, ⟨_, fun_mk (st := s_law_names) l_law_names cc_law_names kk_law_names⟩, kp_law_names, PySem.W.mg_of X G mg_law_near, fn_law_near, ⟨_, fun_mk (st := s_law_near) l_law_near cc_law_near kk_law_near⟩, kp_law_near, PySem.W.mg_of X G mg_law_made, fn_law_made, ⟨_, fun_mk (st := s_law_made) l_law_made cc_law_made kk_law_made⟩, kp_law_made, PySem.W.mg_of X G mg_law_heard, fn_law_heard, ⟨_, fun_mk (st := s_law_heard) l_law_heard cc_law_heard kk_law_heard⟩, kp_law_heard, PySem.W.mg_of X G mg_law_common, fn_law_common, ⟨_, fun_mk (st := s_law_common) l_law_common cc_law_common kk_law_common⟩, kp_law_common, PySem.W.mg_of X G mg_law_pair_right, fn_law_pair_right, ⟨_, fun_mk (st := s_law_pair_right) l_law_pair_right cc_law_pair_right kk_law_pair_right⟩, kp_law_pair_right, PySem.W.mg_of X G mg_law_refused_right, fn_law_refused_right, ⟨_, fun_mk (st := s_law_refused_right) l_law_refused_right cc_law_refused_right kk_law_refused_right⟩, kp_law_refused_right, PySem.W.mg_of X G mg_law, fn_law, ⟨_, fun_mk (st := s_law) l_law cc_law kk_law⟩, kp_law, ⟨_, _, _, _, _, _, _, _, lK_law_pair_right, cK_law_pair_right⟩, hC_law_pair_right, nt_law_pair_right, ⟨_, _, _, _, _, _, _, _, lK_law_refused_right, cK_law_refused_right⟩, hC_law_refused_right, nt_law_refused_right, nn_law_pair_right_law_refused_right, ⟨_, PySem.W.mg_of X G k_SIGNS⟩, ⟨_, PySem.W.mg_of X G k_LONGEST_NAME⟩, ⟨_, PySem.W.mg_of X G k_MOST_NAMES⟩, PySem.W.mg_none_of X G z_abs, PySem.W.mg_none_of X G z_all, PySem.W.mg_none_of X G z_int, PySem.W.mg_none_of X G z_isinstance, PySem.W.mg_none_of X G z_len, PySem.W.mg_none_of X G z_list, PySem.W.mg_none_of X G z_min, PySem.W.mg_none_of X G z_range, PySem.W.mg_none_of X G z_repr, PySem.W.mg_none_of X G z_str, PySem.W.mg_none_of X G z_super, PySem.W.mg_none_of X G z_tuple, PySem.W.mg_none_of X G z_zip, tb_BadName, tb_BadPlace, tb_TooMany, nv_BadName, nv_BadPlace, nv_TooMany, xBadName_BadPlace, xBadName_TooMany, xBadPlace_BadName, xBadPlace_TooMany, xTooMany_BadName, xTooMany_BadPlace, nn_BadName_BadPlace, nn_BadName_TooMany, nn_BadPlace_TooMany, ⟨_, badd_NoneType⟩, ⟨_, badd_bool⟩, ⟨_, badd_int⟩, ⟨_, badd_str⟩, ⟨_, badd_list⟩, ⟨_, badd_tuple⟩, ⟨_, badd_dict⟩, ⟨_, bradd_NoneType⟩, ⟨_, bradd_bool⟩, ⟨_, bradd_int⟩, ⟨_, bradd_str⟩, ⟨_, bradd_list⟩, ⟨_, bradd_tuple⟩, ⟨_, bradd_dict⟩, ⟨_, band_NoneType⟩, ⟨_, band_bool⟩, ⟨_, band_int⟩, ⟨_, band_str⟩, ⟨_, band_list⟩, ⟨_, band_tuple⟩, ⟨_, band_dict⟩, ⟨_, brand_NoneType⟩, ⟨_, brand_bool⟩, ⟨_, brand_int⟩, ⟨_, brand_str⟩, ⟨_, brand_list⟩, ⟨_, brand_tuple⟩, ⟨_, brand_dict⟩⟩
end NK

namespace NK
open PySem PySem.Spec PyProof.Rows L2 NA TL
section
variable {P : Program} {w : World} {K : PySem.W.Frag} {mg : Str → Option Value} {base : Heap} {A : Ad}
def sp_is_name (K : PySem.W.Frag) : Sp := fun vs H Q _ => (∃ z : Str, vs = [.str z] ∧ z.length ≤ sizeLine ∧ ∀ H', Same H H' → Q (.bl (isNm z)) H') ∨
  ∃ x t, vs = [x] ∧ TyX K H x t ∧ PySem.W.kitOne K t (.type "str") = some false ∧ Q (.bl false) H
theorem ok_is_name (T : Tx P K mg A) : FnR P w K mg base CX0 1 A.f_is_name (sp_is_name K) := by
  obtain ⟨t1, k1⟩ := T.k_LONGEST_NAME
  obtain ⟨t2, k2⟩ := T.k_SIGNS
  refine fnr T.F_is_name sc_is_name (fun _ _ _ _ _ _ us hl => match us, hl with | [_], _ => rfl) (fun vs H Q E h => ?_) (fun cdv A' outer s H vs Q E hr h => ?_)
  · rcases h with ⟨z, rfl, _⟩ | ⟨x, t, rfl, _⟩ <;> rfl
  · refine ⟨_, pss_cons (ps_if (PW.pt (pw_or (pt_not (pt_val (pe_callB call_isi (by rfl) T.z_isinstance (by decide +kernel) (pa_cons (pv 0) (pa_cons (pe_bltn (v := .ty "str") (by rfl) T.z_str (by decide +kernel) rfl) pa_nil)))))
        (pw_or1 (pt_not (pt_chain op_le op_le pe_int (pe_callB call_len_str (by rfl) T.z_len PySem.boot_len (pa_cons (pv 0) pa_nil)) (pe_glob (v := .int 8) (by rfl) k1 ⟨_, rfl⟩))))))
        (pss_one (ps_ret pe_bl)) pss_nil)
      (pss_one (ps_ret (pe_callB (cr_all rfl) (by rfl) T.z_all (by decide +kernel) (pa_cons
        (pe_lc (own := [("sign", 1)]) (g := gName 1) (tt := tYes) rfl sc_is_name.nd (pi_str (pv 0)) (blkOk_by (N := ["value", "sign"]) (sc := defScope s_is_name) (by decide +kernel)) (fun _ _ _ _ _ => pg_name (i := 1) sc_is_name.nd rfl (Or.inl rfl)) (fun _ _ _ _ _ => pts_nil)
          (fun _ _ _ _ _ => pe_cmpR op_in_sign (pv 1) (pe_glob (v := .str sgn) (by rfl) k2 ⟨_, rfl⟩) rfl)) pa_nil)))), ?_⟩
    rcases h with ⟨z, rfl, hz, k⟩ | ⟨x, t, rfl, ty, kt, k⟩
    · refine ⟨_, rfl, .str z, .ty "str", .type "str", .type "str", true, rfl, .ty "str", .base (.str z), kit_self, true, rfl, iteF ?_⟩
      refine ⟨_, rfl, z, rfl, hz, 1, _, rfl, rfl, _, rfl, ?_⟩
      by_cases h1 : 1 ≤ z.length
      · rw [if_pos (decide_eq_true (by omega))]
        refine ⟨_, _, rfl, rfl, _, rfl, ?_⟩
        by_cases h8 : z.length ≤ 8
        · have e8 : decide ((z.length : Int) ≤ 8) = true := decide_eq_true (by omega)
          rw [e8]
          refine iteF ⟨_, rfl, z, rfl, fun D hD => ?_⟩
          refine lc_all walk_str (fun i v H' => v = .bl (decide ((z.cps.toList.getD i 0) ∈ sgn.cps.toList))) hD (fun _ _ _ _ _ _ _ h => h) (fun _ _ => trivial) (by show z.length < sizeLine; exact Nat.lt_of_le_of_lt h8 (by decide)) ?_ g_name_mono ?_
          · rintro i x H1 H2 hi s1 ⟨rfl, c, hc, rfl⟩
            refine ⟨Same.refl _, rfl, Same.refl _, fun Q' hQ => ⟨_, rfl, c, sgn, rfl, rfl, hQ _ _ (Same.refl _) ?_⟩⟩
            have e : z.cps.toList.getD i 0 = c := by
              rw [List.getD_eq_getElem?_getD, Array.getElem?_toList, hc] <;> rfl
            rw [e]
          · intro H1 ys s1 e1 hl hy
            have ey := list_fn hl hy
            have eb : ys = (z.cps.toList.map fun c => decide (c ∈ sgn.cps.toList)).map V.bl := by
              rw [ey, ← range_map z.cps.toList 0 (fun c => decide (c ∈ sgn.cps.toList)), List.map_map, Array.length_toList]; rfl
            rw [eb] at e1
            refine ⟨D, _, rfl, SqL.of e1, ?_⟩
            have e : isNm z = ((z.cps.toList.map fun c => decide (c ∈ sgn.cps.toList)).all id) := by
              unfold isNm
              rw [decide_eq_true h1, decide_eq_true h8, Bool.true_and, Bool.true_and, List.all_map]
              rfl
            rw [← e]
            exact k _ s1
        · have e8 : decide ((z.length : Int) ≤ 8) = false := decide_eq_false (by omega)
          have e : isNm z = false := by
            unfold isNm
            rw [decide_eq_false h8, Bool.and_false, Bool.false_and]
          rw [e8]
          rw [e] at k
          exact iteT (k H (Same.refl H))
      · have e1 : decide ((1 : Int) ≤ (z.length : Int)) = false := decide_eq_false (by omega)
        have e : isNm z = false := by
          unfold isNm
          rw [decide_eq_false h1, Bool.false_and, Bool.false_and]
        rw [e] at k
        rw [e1]
        exact iteF ⟨_, rfl, iteT (k H (Same.refl H))⟩
    · refine ⟨_, rfl, x, .ty "str", t, .type "str", false, rfl, .ty "str", ty, kt, false, rfl, ?_⟩
      exact iteT (iteT k)

def sp_names_in : Sp := fun vs H Q _ => ∃ z : Str, vs = [.str z] ∧ z.length ≤ 100000 ∧ ∀ p H', H p = none → Same H H' → H' p = some (.tup ((namesIn z).map V.str)) → Q (.ref p) H'
theorem ok_names_in (T : Tx P K mg A) : FnR P w K mg base CX0 1 A.f_names_in sp_names_in := by
  refine fnr T.F_names_in sc_names_in (fun _ _ _ _ _ _ us hl => match us, hl with | [_], _ => rfl) (fun vs H Q E h => ?_) (fun cdv A' outer s H vs Q E hr h => ?_)
  · obtain ⟨z, rfl, _⟩ := h; rfl
  · obtain ⟨z, rfl, hz, k⟩ := h
    refine ⟨_, pss_cons (ps_set (i := 1) sc_names_in.nd rfl (.inl rfl) (pe_lst pa_nil))
      (pss_cons (ps_par (i := 2) (j := 3) (by rfl) sc_names_in.nd rfl rfl (by decide) rfl rfl (pa_cons (pe_slice sl_str (pv 0) (po_some pe_int) po_none) (pa_cons (pe_ifExp (pt_cmpR op_ne (pv 0) pe_str (nomark _)) pe_str pe_str) pa_nil)) (by rfl))
      (pss_cons (ps_while PassesOwn.never (pt_cmpR op_eq (pv 3) pe_str (nomark _))
        (pss_cons (ps_asg (pe_partition (pv 2) pe_str) (pg_tup (by rfl) (pgs_cons (pg_name (i := 4) sc_names_in.nd rfl (.inl rfl)) (pgs_cons (pg_name (i := 3) sc_names_in.nd rfl (.inl rfl)) (pgs_cons (pg_name (i := 2) sc_names_in.nd rfl (.inl rfl)) pgs_nil)))))
        (pss_one (ps_expr (pe_bm PySem.F.plainAttrs_list PySem.F.slot_list_append PySem.F.type_list_append mt_append (pv 1) (pa_cons (pv 4) pa_nil))))))
      (pss_one (ps_ret (pe_callTy call_tuple_of (by rfl) T.z_tuple (by decide +kernel) (pa_cons (pv 1) pa_nil)))))), ?_⟩
    refine ⟨Nat.zero_le _, fun l hl => ?_⟩
    refine ⟨_, rfl, _, rfl, z, rfl, Nat.le_trans hz (by decide), _, rfl, rfl, _, rfl, ?_⟩
    have e1 : cutS z (some 1) none = Sx ((tl z).drop 1) := cut_from z 1
    refine ite_c ⟨_, _, rfl, ?_⟩
    have hd : ((tl z).drop 1).length ≤ 100000 := by
      have : z.length = (tl z).length := len_tl z
      rw [List.length_drop]; omega
    rw [e1]
    refine ⟨fun m σ H' => ∃ (acc : List Str) (r : List Nat) (s1 : Str) (nm : Option V), σ = [some (.str z), some (.ref l), some (.str (Sx r)), some (.str s1), nm] ∧ Same H H' ∧ H' l = some (.lst (acc.map V.str)) ∧ acc.length + r.length ≤ 100001 ∧ acc.length + m ≤ 100001 ∧
        ((s1 = "/" ∧ m = r.length + 1 ∧ acc ++ (spt r).map Sx = namesIn z) ∨ (s1 = "" ∧ m = 0 ∧ acc = namesIn z)), ?_, ?_⟩
    · by_cases hz1 : z = "/"
      · have e : decide (V.str z = V.str (Str.ofString "/")) = true := by simp [hz1]
        rw [e]
        exact ⟨0, [], _, "", none, rfl, Same.new hl, upd_same, by show 0 + _ ≤ _; omega, by show 0 + 0 ≤ _; omega, .inr ⟨rfl, rfl, by unfold namesIn; rw [if_pos hz1]⟩⟩
      · have e : decide (V.str z = V.str (Str.ofString "/")) = false := by simp [hz1]
        rw [e]
        exact ⟨_, [], _, "/", none, rfl, Same.new hl, upd_same, by show 0 + _ ≤ _; omega, by show 0 + _ ≤ _; omega, .inl ⟨rfl, rfl, by unfold namesIn; rw [if_neg hz1]; rfl⟩⟩
    · rintro m σ H' ⟨acc, r, s1, nm, rfl, sH, eL, hb, hm, hc⟩
      refine ⟨_, rfl, rfl, _, rfl, ?_⟩
      rcases hc with ⟨rfl, hm2, hc⟩ | ⟨rfl, hm2, hc⟩
      · refine iteT' (by simp) ⟨fun σ2 H2 => ∃ m', m' < m ∧ _, fun σ2 H2 h => h, ?_⟩
        have hr : (Sx r).length ≤ sizeLine := by rw [Sx_len]; exact sz (by omega)
        refine ⟨_, rfl, ⟨_, rfl⟩, _, _, rfl, rfl, by decide +kernel, hr, fun p hp => ?_⟩
        have npl : l ≠ p := ne_of_none eL hp
        have eLp : (upd H' p (HO.tup [V.str (Txt.partition (Sx r) "/").fst, V.str (Txt.partition (Sx r) "/").snd.fst, V.str (Txt.partition (Sx r) "/").snd.snd])) l = some (.lst (acc.map V.str)) := by rw [upd_ne npl]; exact eL
        refine ⟨p, _, rfl, SqT.of upd_same, rfl, _, _, rfl, _, _, rfl, _, _, rfl, rfl, ?_⟩
        refine ⟨_, rfl, .inl ⟨rfl, _, SqL.of eLp⟩, _, rfl, l, _, _, rfl, rfl, eLp, ?_, ?_⟩
        · rw [List.length_map]; exact szl (by omega)
        have sH2 := Same.mut (o := .lst (acc.map V.str ++ [V.str (Txt.partition (Sx r) "/").fst])) (sH.trans (Same.new (o := HO.tup [V.str (Txt.partition (Sx r) "/").fst, V.str (Txt.partition (Sx r) "/").snd.fst, V.str (Txt.partition (Sx r) "/").snd.snd]) hp)) hl
        by_cases h47 : 47 ∈ r
        · obtain ⟨a, b, rfl, ha⟩ := first_slash h47
          rw [part_some ha] at sH2 ⊢
          rw [spt_some ha] at hc
          refine ⟨b.length + 1, by rw [hm2]; simp; omega, acc ++ [Sx a], b, "/", _, rfl, sH2, ?_, ?_, ?_, .inl ⟨rfl, rfl, by rw [← hc]; simp⟩⟩
          · rw [upd_same, List.map_append]; rfl
          · simp at hb ⊢; omega
          · simp at hm2 hm ⊢; omega
        · rw [part_none h47] at sH2 ⊢
          rw [spt_none h47] at hc
          refine ⟨0, by omega, acc ++ [Sx r], [], Str.empty, _, rfl, sH2, ?_, ?_, ?_, .inr ⟨rfl, rfl, by rw [← hc]; rfl⟩⟩
          · rw [upd_same, List.map_append]; rfl
          · rw [List.length_append, List.length_singleton]; show _ + 0 ≤ _; omega
          · rw [List.length_append, List.length_singleton]; omega
      · refine iteF' (by decide +kernel) ?_
        rw [hc] at eL
        exact ⟨_, rfl, l, _, rfl, .inl ⟨SqL.of eL, fun p hp => k p _ (sH.free hp) (sH.trans (Same.new hp)) upd_same⟩⟩
end
end NK

namespace NK
open PySem PySem.Spec PyProof.Rows L2 NA TL
section
variable {P : Program} {w : World} {K : PySem.W.Frag} {mg : Str → Option Value} {base : Heap} {A : Ad}
def sp_text_of (K : PySem.W.Frag) : Sp := fun vs H Q _ => ∃ (p : Addr) (ns : List Str), vs = [.ref p] ∧ SqT K H p (ns.map V.str) ∧ Good ns ∧ Q (.str (txt ns)) H
theorem sum_len {ns : List Str} (h : ∀ n ∈ ns, n.length ≤ 8) : (ns.map (·.length)).sum ≤ 8 * ns.length := by
  induction ns with
  | nil => simp
  | cons a l ih =>
    have h1 := h a (by simp)
    have h2 := ih fun n hn => h n (List.mem_cons_of_mem _ hn)
    simp only [List.map_cons, List.sum_cons, List.length_cons]
    omega
theorem slash_len : ("/" : Str).length = 1 := by decide +kernel
theorem Good.len8 {ns : List Str} (h : Good ns) : ∀ n ∈ ns, n.length ≤ 8 := fun n hn => (isNm_iff.mp (h.2 n hn)).2.1
theorem join_len {ns : List Str} (h : Good ns) : (Txt.join "/" ns).length ≤ 72 := by
  have := txt_len h
  unfold txt at this
  rw [len_tl, tl_append, List.length_append, slash_tl] at this
  rw [len_tl]
  simp at this ⊢
  omega
theorem ok_text_of (T : Tx P K mg A) : FnR P w K mg base CX0 1 A.f_text_of (sp_text_of K) := by
  refine fnr T.F_text_of sc_text_of (fun _ _ _ _ _ _ us hl => match us, hl with | [_], _ => rfl) (fun vs H Q E h => ?_) (fun cdv A' outer s H vs Q E hr h => ?_)
  · obtain ⟨p, ns, rfl, _⟩ := h; rfl
  · obtain ⟨p, ns, rfl, hp, g, k⟩ := h
    refine ⟨_, pss_one (ps_ret (pe_op op_add_str pe_str (pe_join pe_str (pv 0)))), ?_⟩
    have h1 := sum_len g.len8
    have h2 := g.1
    have h3 := join_len g
    exact ⟨⟨_, rfl⟩, _, rfl, _, p, ns, rfl, rfl, .inr hp, by rw [slash_len]; omega, _, _, rfl, rfl, by rw [slash_len]; exact sz (by omega), k⟩
def sp_is_text (K : PySem.W.Frag) : Sp := fun vs H Q _ => (∃ z : Str, vs = [.str z] ∧ z.length ≤ 100000 ∧ ∀ H', Same H H' → Q (.bl (isTx z)) H') ∨
  ∃ x t, vs = [x] ∧ TyX K H x t ∧ PySem.W.kitOne K t (.type "str") = some false ∧ Q (.bl false) H
theorem spt_len : ∀ r : List Nat, (spt r).length ≤ r.length + 1
  | [] => by simp [spt]
  | c :: r => by
    have := spt_len r
    unfold spt
    split
    · simp; omega
    · split
      · simp
      · rename_i e; rw [e] at this; simp at this ⊢; omega
theorem spt_item : ∀ (r : List Nat), ∀ p ∈ spt r, p.length ≤ r.length
  | [], p, h => by simp [spt] at h; simp [h]
  | c :: r, p, h => by
    have ih := spt_item r
    unfold spt at h
    split at h
    · rcases List.mem_cons.mp h with e | e
      · simp [e]
      · have := ih p e; simp; omega
    · split at h
      · simp at h; simp [h]
      · rename_i e
        rw [e] at ih
        rcases List.mem_cons.mp h with e | e
        · have := ih _ (List.mem_cons_self ..); simp [e]; omega
        · have := ih p (List.mem_cons_of_mem _ e); simp; omega
theorem names_len {z : Str} (hz : z.length ≤ 100000) : (namesIn z).length ≤ 100001 ∧ ∀ n ∈ namesIn z, n.length ≤ 100000 := by
  unfold namesIn
  split
  · simp
  · have h1 : ((tl z).drop 1).length ≤ 100000 := by
      have := len_tl z
      rw [List.length_drop]; omega
    have h2 := spt_len ((tl z).drop 1)
    rw [List.length_map]
    refine ⟨by omega, fun n hn => ?_⟩
    obtain ⟨p, hp, rfl⟩ := List.mem_map.mp hn
    have := spt_item _ p hp
    rw [Sx_len]; omega
theorem ok_is_text (T : Tx P K mg A) : FnR P w K mg base CX0 2 A.f_is_text (sp_is_text K) := by
  obtain ⟨t1, k1⟩ := T.k_MOST_NAMES
  refine fnr T.F_is_text sc_is_text (fun _ _ _ _ _ _ us hl => match us, hl with | [_], _ => rfl) (fun vs H Q E h => ?_) (fun cdv A' outer s H vs Q E hr h => ?_)
  · rcases h with ⟨z, rfl, _⟩ | ⟨x, t, rfl, _⟩ <;> rfl
  · refine ⟨_, pss_cons (ps_if (PW.pt (pw_or (pt_not (pt_val (pe_callB call_isi (by rfl) T.z_isinstance (by decide +kernel) (pa_cons (pv 0) (pa_cons (pe_bltn (v := .ty "str") (by rfl) T.z_str (by decide +kernel) rfl) pa_nil)))))
        (pw_or1 (pt_cmpR op_ne (pe_slice sl_str (pv 0) po_none (po_some pe_int)) pe_str (nomark _)))))
        (pss_one (ps_ret pe_bl)) pss_nil)
      (pss_cons (ps_set (i := 1) sc_is_text.nd rfl (.inl rfl) (pe_cl (ok_names_in T) hr (by rfl) T.mg_names_in T.kp_names_in pass0 (pa_cons (pv 0) pa_nil)))
      (pss_one (ps_ret (pe_and (pe_cmpR op_le (pe_callB call_len_seq (by rfl) T.z_len PySem.boot_len (pa_cons (pv 1) pa_nil)) (pe_glob (v := .int 8) (by rfl) k1 ⟨_, rfl⟩) (nomark _)) (pe_one (pe_callB (cr_all rfl) (by rfl) T.z_all (by decide +kernel) (pa_cons
        (pe_lc (own := [("name", 2)]) (g := gName 2) (tt := tYes) rfl sc_is_text.nd (pi_tup (pv 1)) (blkOk_by (N := ["value", "names", "name"]) (sc := defScope s_is_text) (by decide +kernel)) (fun _ _ _ _ _ => pg_name (i := 2) sc_is_text.nd rfl (Or.inl rfl)) (fun _ _ _ _ _ => pts_nil)
          (fun _ _ _ _ _ => pe_cl (ok_is_name T) hr (by rfl) T.mg_is_name T.kp_is_name pass0 (pa_cons (pv 2) pa_nil))) pa_nil))))))), ?_⟩
    rcases h with ⟨z, rfl, hz, k⟩ | ⟨x, t, rfl, ty, kt, k⟩
    · refine ⟨_, rfl, .str z, .ty "str", .type "str", .type "str", true, rfl, .ty "str", .base (.str z), kit_self, true, rfl, iteF ?_⟩
      refine ⟨_, rfl, _, rfl, z, rfl, sz (by omega), rfl, _, rfl, ?_⟩
      have ec : cutS z none (some 1) = Sx ((tl z).take 1) := cut_to z 1
      have e0 : decide (V.str (cutS z none (some 1)) = V.str "/") = decide ((tl z).take 1 = [47]) := by
        rw [ec, Bool.eq_iff_iff, decide_eq_true_eq, decide_eq_true_eq]
        constructor
        · intro h
          have h2 : Sx ((tl z).take 1) = "/" := by injection h
          have := congrArg tl h2
          rw [slash_tl] at this
          exact this
        · intro h; rw [h, slash_Sx]
      show if (!decide (V.str (cutS z none (some 1)) = V.str "/")) = true then _ else _
      rw [e0]
      have hk : isTx z = (decide ((tl z).take 1 = [47]) && decide ((namesIn z).length ≤ 8) && (namesIn z).all isNm) := rfl
      cases h0 : decide ((tl z).take 1 = [47]) with
      | false =>
        rw [h0, Bool.false_and, Bool.false_and] at hk
        rw [hk] at k
        exact iteT (k H (Same.refl H))
      | true =>
        rw [h0, Bool.true_and] at hk
        refine iteF ⟨_, rfl, z, rfl, hz, fun p H1 hp s1 e1 => ?_⟩
        refine ⟨_, rfl, p, _, rfl, .inr (SqT.of e1), _, _, rfl, rfl, _, rfl, ?_⟩
        have hl := names_len hz
        have el : decide ((((namesIn z).map V.str).length : Int) ≤ 8) = decide ((namesIn z).length ≤ 8) := by
          rw [List.length_map, Bool.eq_iff_iff, decide_eq_true_eq, decide_eq_true_eq]; omega
        show if decide ((((namesIn z).map V.str).length : Int) ≤ 8) = true then _ else _
        rw [el]
        cases h1 : decide ((namesIn z).length ≤ 8) with
        | false =>
          rw [h1, Bool.false_and] at hk
          rw [hk] at k
          exact iteF (k H1 s1)
        | true =>
          rw [h1, Bool.true_and] at hk
          refine iteT ⟨_, rfl, p, rfl, ⟨_, SqT.of e1⟩, fun D hD => ?_⟩
          refine lc_all (walk_tup (K := K) (a := p) (xs := (namesIn z).map V.str)) (fun i v H' => v = .bl (isNm ((namesIn z).getD i ""))) hD (fun _ _ _ _ _ _ _ h => h) (fun H' s' => SqT.of (s' _ _ e1)) (by rw [List.length_map]; exact szl (by omega)) ?_ g_name_mono ?_
          · rintro i x H2 H3 hi s2 ⟨rfl, hx⟩
            rw [List.getElem?_map] at hx
            obtain ⟨n, hn, rfl⟩ := Option.map_eq_some_iff.mp hx
            refine ⟨Same.refl _, rfl, Same.refl _, fun Q' hQ => ⟨_, rfl, .inl ⟨n, rfl, sz (by have := hl.2 n (List.mem_of_getElem? hn); omega), fun H4 s4 => hQ _ _ s4 ?_⟩⟩⟩
            rw [List.getD_eq_getElem?_getD, hn] <;> rfl
          · intro H2 ys s2 e2 hy1 hy2
            rw [List.length_map] at hy1
            have ey := list_fn hy1 hy2
            have eb : ys = ((namesIn z).map isNm).map V.bl := by
              rw [ey, ← range_map (namesIn z) "" isNm, List.map_map]; rfl
            rw [eb] at e2
            refine ⟨D, _, rfl, SqL.of e2, ?_⟩
            have e : isTx z = ((namesIn z).map isNm).all id := by rw [hk, List.all_map]; rfl
            rw [← e]
            exact k _ (s1.trans s2)
    · exact ⟨_, rfl, x, .ty "str", t, .type "str", false, rfl, .ty "str", ty, kt, false, rfl, iteT (iteT k)⟩
end
end NK

namespace NK
open PySem PySem.Spec PyProof.Rows L2 NA TL
/-- a place: an instance whose parts are a tuple of good names -/
def Pl (A : Ad) (H : Hp) (a : Addr) (ns : List Str) : Prop := Good ns ∧ ∃ dx t, H a = some (.ins A.c_Place dx [("parts", .ref t)]) ∧ H t = some (.tup (ns.map V.str))
theorem Pl.same {A : Ad} {H H' : Hp} {a : Addr} {ns : List Str} (h : Pl A H a ns) (e : Same H H') : Pl A H' a ns :=
  let ⟨g, dx, t, h1, h2⟩ := h
  ⟨g, dx, t, e _ _ h1, e _ _ h2⟩
theorem Pl.sam {A : Ad} {H H' : Hp} {a p : Addr} {ns : List Str} {xs : List V} (h : Pl A H a ns) (hp : H p = some (.lst xs)) (e : Sam p H H') : Pl A H' a ns :=
  let ⟨g, dx, t, h1, h2⟩ := h
  ⟨g, dx, t, e _ _ (ne_of h1 hp (by intro z; cases z)) h1, e _ _ (ne_of h2 hp (by intro z; cases z)) h2⟩
theorem Pl.inj {A : Ad} {H : Hp} {a : Addr} {ns ms : List Str} (h : Pl A H a ns) (h' : Pl A H a ms) : ns = ms := by
  obtain ⟨_, dx, t, h1, h2⟩ := h
  obtain ⟨_, dy, u, h3, h4⟩ := h'
  rw [h1] at h3
  injection h3 with h3
  injection h3 with _ _ h3
  injection h3 with h3 _
  injection h3 with _ h3
  injection h3 with h3
  subst h3
  rw [h2] at h4
  injection h4 with h4
  injection h4 with h4
  exact (List.map_inj_right (fun a b h => by injection h)).mp h4
theorem lkp (t : Addr) : (([("parts", V.ref t)] : List (Str × V)).lookup ("parts" : Str)) = some (.ref t) := by
  simp [List.lookup]
section
variable {P : Program} {w : World} {K : PySem.W.Frag} {mg : Str → Option Value} {base : Heap} {A : Ad}
theorem Tx.cl (T : Tx P K mg A) : Cls K A.c_Place := ⟨T.pg_Place, T.hd_Place, T.po_Place, T.sa_Place⟩
theorem Tx.np (T : Tx P K mg A) : NoAttr K A.c_Place "parts" := T.np_Place
theorem Tx.mkP (T : Tx P K mg A) : Mk K A.c_Place A.f_Place_init := ⟨T.mk_Place, T.at_Place_init, T.fn_Place_init, T.kc_Place⟩
theorem Tx.rdP (T : Tx P K mg A) : ClX.CRead K A.c_Place (.type "type") := ⟨T.rd_Place, T.ga_Place⟩
theorem Tx.tyP (T : Tx P K mg A) {H : Hp} {a dx : Addr} {fs : List (Str × V)} (h : H a = some (.ins A.c_Place dx fs)) : TyX K H (.ref a) (.ref A.c_Place) := .base (.ins h T.cl T.ca_Place T.cn_Place T.ct_Place T.cm_Place)
theorem Tx.kSC (T : Tx P K mg A) : PySem.W.kitOne K (.type "str") (.ref A.c_Place) = some false := kit_sub rfl T.ic_Place T.ty_Place T.su_Place
def sp_init (A : Ad) : Sp := fun vs H Q _ => ∃ (x dx : Addr) (ns : List Str), vs = .ref x :: ns.map V.str ∧ H x = some (.ins A.c_Place dx []) ∧ Good ns ∧
  ∀ (H' : Hp) (t : Addr), (∀ b o, b ≠ x → H b = some o → H' b = some o) → H t = none → H' x = some (.ins A.c_Place dx [("parts", .ref t)]) → H' t = some (.tup (ns.map V.str)) → Q .non H'
theorem ok_init (T : Tx P K mg A) : FnR P w K mg base CX0 2 A.f_Place_init (sp_init A) := by
  obtain ⟨t1, k1⟩ := T.most_Place
  refine (fnr_star (ps := ["self"]) (pv := "names") (sp := fun vs H Q _ => ∃ (x dx t : Addr) (ns : List Str), vs = [.ref x, .ref t] ∧ H x = some (.ins A.c_Place dx []) ∧ H t = some (.tup (ns.map V.str)) ∧ Good ns ∧
      ∀ H' : Hp, (∀ b o, b ≠ x → H b = some o → H' b = some o) → H' x = some (.ins A.c_Place dx [("parts", .ref t)]) → Q .non H')
    T.F_Place_init sc_Place_init (fun kV doc pm an cdv ct => StX.bind_star1 (B := fun us => bindArgs (PySem.W.fnOf "__init__" "Place.__init__" (defArgs s_Place_init) (defBody s_Place_init) (defScope s_Place_init) .none kV doc pm an cdv ct) ⟨us, []⟩) (fun a => rfl) (fun a r rs => rfl)) (fun cdv A' outer s H vs Q E hr h => ?_)).imp fun vs H Q E h => ?_
  · obtain ⟨x, dx, t, ns, rfl, hx, ht, g, k⟩ := h
    refine ⟨_, pss_cons (ps_for PassesOwn.never rfl (pi_tup (pv 1)) (pg_name (i := 2) sc_Place_init.nd rfl (.inl rfl))
        (pss_one (ps_if (pt_not (pt_val (pe_cl (ok_is_name T) hr (by rfl) T.mg_is_name T.kp_is_name pass0 (pa_cons (pv 2) pa_nil)))) (pss_one ps_never) pss_nil)))
      (pss_cons (ps_if (pt_cmpR op_gt (pe_callB call_len_seq (by rfl) T.z_len PySem.boot_len (pa_cons (pv 1) pa_nil)) (ClX.pe_cval (pe_glob (v := .ref A.c_Place) (by rfl) T.mg_Place rfl)) (nomark _)) (pss_one ps_never) pss_nil)
      (pss_one (ps_fld (pv 0) (pe_callTy call_tuple_of (by rfl) T.z_tuple (by decide +kernel) (pa_cons (pv 1) pa_nil)) rfl))), ?_⟩
    refine ⟨_, rfl, t, rfl, ⟨_, SqT.of ht⟩, for_tup (K := K) (a := t) (xs := ns.map V.str) (fun i σ H' => Same H H' ∧ ∃ v, σ = [some (.ref x), some (.ref t), v]) ⟨Same.refl H, none, rfl⟩ (fun i σ H' _ p => SqT.of (p.1 _ _ ht)) ?_ ?_⟩
    · rintro i y σ H' hy ⟨s1, v, rfl⟩
      rw [List.getElem?_map] at hy
      obtain ⟨n, hn, rfl⟩ := Option.map_eq_some_iff.mp hy
      have hm := List.mem_of_getElem? hn
      refine ⟨_, rfl, .inl ⟨n, rfl, sz (by have := g.len8 n hm; omega), fun H2 s2 => ⟨_, rfl, iteF' (by rw [g.2 n hm]; rfl) ⟨s1.trans s2, _, rfl⟩⟩⟩⟩
    · rintro σ H' ⟨s1, v, rfl⟩
      refine ⟨_, rfl, t, _, rfl, .inr (SqT.of (s1 _ _ ht)), A.c_Place, .type "type", .int 8, _, rfl, T.rdP, ⟨k1, ⟨_, rfl⟩⟩, _, _, rfl, rfl, _, rfl, iteF' (decide_eq_false (by rw [List.length_map]; have := g.1; omega)) ?_⟩
      refine ⟨_, rfl, t, _, rfl, .inr ⟨SqT.of (s1 _ _ ht), _, rfl, x, A.c_Place, dx, [], rfl, s1 _ _ hx, T.cl, T.np, by show 0 < 1000; decide, ?_⟩⟩
      refine k _ (fun b o n e => ?_) ?_
      · rw [upd_ne n]; exact s1 _ _ e
      · rw [upd_same]; rfl
  · obtain ⟨x, dx, ns, rfl, hx, g, k⟩ := h
    refine ⟨[.ref x], ns.map V.str, rfl, rfl, by rw [List.length_map]; exact sz (by have := g.1; omega), fun p hp => ?_⟩
    have npx : x ≠ p := ne_of_none hx hp
    refine ⟨x, dx, p, ns, rfl, by rw [upd_ne npx]; exact hx, upd_same, g, fun H' h1 h2 => k H' p (fun b o n e => h1 b o n (by rw [upd_ne (ne_of_none e hp)]; exact e)) hp h2 (h1 _ _ npx.symm upd_same)⟩
/-- C(*names) -/
theorem mk_pl {H1 : Hp} {ns : List Str} {Q : VK} {E : XK} (g : Good ns) (k : ∀ x H2, H1 x = none → Same H1 H2 → Pl A H2 x ns → Q (.ref x) H2) :
    ∀ x dx, H1 x = Option.none → H1 dx = Option.none → dx ≠ x → sp_init A (V.ref x :: ns.map V.str) (upd (upd H1 dx (.own x)) x (.ins A.c_Place dx [])) (fun v H2 => v = .non ∧ Q (.ref x) H2) E := by
  intro x dx hx hd hne
  refine ⟨x, dx, ns, rfl, upd_same, g, fun H' t h1 h2 h3 h4 => ⟨rfl, k x H' hx (fun b o e => h1 b o (ne_of_none e hx) ?_) ⟨g, dx, t, h3, h4⟩⟩⟩
  rw [upd_ne (ne_of_none e hx), upd_ne (ne_of_none e hd)]
  exact e
end
end NK

namespace NK
open PySem PySem.Spec PyProof.Rows L2 NA TL
section
variable {P : Program} {w : World} {K : PySem.W.Frag} {mg : Str → Option Value} {base : Heap} {A : Ad}
/-- a place is made and handed back -/
def RetP (A : Ad) (H : Hp) (ns : List Str) (Q : VK) : Prop := ∀ x H', H x = none → Same H H' → Pl A H' x ns → Q (.ref x) H'
theorem RetP.up {H H1 : Hp} {ns : List Str} {Q : VK} (k : RetP A H ns Q) (e : Same H H1) : RetP A H1 ns Q := fun x H' hx e2 h => k x H' (e.free hx) (e.trans e2) h
/-- Place(*names) of a tuple that stands -/
theorem mk_plT {H : Hp} {p : Addr} {ns : List Str} {Q : VK} {E : XK} (g : Good ns) (h : SqT K H p (ns.map V.str)) (k : RetP A H ns Q) :
    ∃ a xs, V.ref p = V.ref a ∧ (SqT K H a xs ∨ SqL K H a xs) ∧ ∀ x dx, H x = Option.none → H dx = Option.none → dx ≠ x →
      sp_init A (V.ref x :: xs) (upd (upd H dx (.own x)) x (.ins A.c_Place dx [])) (fun v H2 => v = .non ∧ Q (.ref x) H2) E :=
  ⟨p, _, rfl, .inl h, mk_pl g k⟩
def sp_names (A : Ad) : Sp := fun vs H Q _ => ∃ a ns, vs = [.ref a] ∧ Pl A H a ns ∧ ∀ t, H t = some (.tup (ns.map V.str)) → Q (.ref t) H
theorem ok_names (T : Tx P K mg A) : FnR P w K mg base CX0 1 A.f_Place_names (sp_names A) := by
  refine fnr T.F_Place_names sc_Place_names (fun _ _ _ _ _ _ us hl => match us, hl with | [_], _ => rfl) (fun vs H Q E h => ?_) (fun cdv A' outer s H vs Q E hr h => ?_)
  · obtain ⟨a, ns, rfl, _⟩ := h; rfl
  · obtain ⟨a, ns, rfl, ⟨g, dx, t, h1, h2⟩, k⟩ := h
    exact ⟨_, pss_one (ps_ret (pe_fld (pv 0) rfl)), ⟨_, rfl, a, _, dx, _, _, rfl, h1, T.cl, T.np, lkp t, k t h2⟩⟩
def sp_text (A : Ad) : Sp := fun vs H Q _ => ∃ a ns, vs = [.ref a] ∧ Pl A H a ns ∧ Q (.str (txt ns)) H
theorem ok_text (T : Tx P K mg A) : FnR P w K mg base CX0 2 A.f_Place_text (sp_text A) := by
  refine fnr T.F_Place_text sc_Place_text (fun _ _ _ _ _ _ us hl => match us, hl with | [_], _ => rfl) (fun vs H Q E h => ?_) (fun cdv A' outer s H vs Q E hr h => ?_)
  · obtain ⟨a, ns, rfl, _⟩ := h; rfl
  · obtain ⟨a, ns, rfl, ⟨g, dx, t, h1, h2⟩, k⟩ := h
    exact ⟨_, pss_one (ps_ret (pe_cl (ok_text_of T) hr (by rfl) T.mg_text_of T.kp_text_of pass0 (pa_cons (pe_fld (pv 0) rfl) pa_nil))), ⟨_, rfl, a, _, dx, _, _, rfl, h1, T.cl, T.np, lkp t, t, ns, rfl, SqT.of h2, g, k⟩⟩
end
end NK

namespace NK
open PySem PySem.Spec PyProof.Rows L2 NA TL
/-- the law's pen: the script's numbers, how many were drawn (at most b more may be), what is left of a great one -/
def Pen (L : Addr) (H : Hp) (pn : Addr) (b : Nat) : Prop := ∃ (ns : List Int) (at_ rest : Int), H pn = some (.lst [.ref L, .int at_, .int rest]) ∧ H L = some (.lst (ns.map V.int)) ∧ L ≠ pn ∧ ns.length ≤ 63 ∧ 0 ≤ at_ ∧ at_ + b ≤ 1000000
theorem Pen.same {L : Addr} {H H' : Hp} {pn : Addr} {b : Nat} (h : Pen L H pn b) (e : Same H H') : Pen L H' pn b := by
  obtain ⟨ns, a, r, h1, h2, h3⟩ := h
  exact ⟨ns, a, r, e _ _ h1, e _ _ h2, h3⟩
theorem Pen.less {L : Addr} {H : Hp} {pn : Addr} {b c : Nat} (h : Pen L H pn b) (hc : c ≤ b) : Pen L H pn c := by
  obtain ⟨ns, a, r, h1, h2, h3, h4, h5, h6⟩ := h
  exact ⟨ns, a, r, h1, h2, h3, h4, h5, by omega⟩
theorem Pen.lst {L : Addr} {H : Hp} {pn : Addr} {b : Nat} (h : Pen L H pn b) : ∃ xs, H pn = some (.lst xs) := by
  obtain ⟨ns, a, r, h1, _⟩ := h
  exact ⟨_, h1⟩
theorem Pen.ints {L : Addr} {H : Hp} {pn : Addr} {b : Nat} (h : Pen L H pn b) : ∃ xs, H L = some (.lst xs) := by
  obtain ⟨ns, a, r, h1, h2, _⟩ := h
  exact ⟨_, h2⟩
theorem Pen.mut {L : Addr} {H : Hp} {pn D : Addr} {b : Nat} {o : HO} (h : Pen L H pn b) (h1 : D ≠ pn) (h2 : D ≠ L) : Pen L (upd H D o) pn b := by
  obtain ⟨ns, a, r, g1, g2, g3⟩ := h
  exact ⟨ns, a, r, by rw [upd_ne (Ne.symm h1)]; exact g1, by rw [upd_ne (Ne.symm h2)]; exact g2, g3⟩
theorem eqvAll_nil : ∀ ns : List Int, PyData.eqvAll (ns.map PyData.int) [] = ns.isEmpty
  | [] => by simp [PyData.eqvAll]
  | _ :: _ => by simp [PyData.eqvAll]
theorem dp_ints {K : PySem.W.Frag} {H : Hp} : ∀ ns : List Int, DpAll K H (ns.map V.int) (ns.map PyData.int)
  | [] => .nil
  | a :: as => .cons (.int a) (dp_ints as)
theorem canLay_ints : ∀ ns : List Int, PyData.canLayAll0 (ns.map PyData.int) = true
  | [] => by simp [PyData.canLayAll0]
  | a :: as => by simp only [List.map_cons, PyData.canLayAll0, PyData.canLay0, canLay_ints as, Bool.and_self]
theorem depth_ints : ∀ ns : List Int, PyData.depthAll (ns.map PyData.int) ≤ 1
  | [] => by simp [PyData.depthAll]
  | a :: as => by
    have := depth_ints as
    simp only [List.map_cons, PyData.depthAll, PyData.depth]
    omega
theorem shaped_ints (ns : List Int) : SeqAt.shaped (.list (ns.map PyData.int)) = true := by
  unfold SeqAt.shaped
  have := depth_ints ns
  rw [Bool.and_eq_true]
  exact ⟨by rw [PyData.canLay0]; exact canLay_ints ns, decide_eq_true (by rw [PyData.depth]; omega)⟩
/-- xs != [] -/
theorem c_neL {K : PySem.W.Frag} {H : Hp} {l q : Addr} {ns : List Int} {Q : VK} (h : SqL K H l (ns.map V.int)) (hq : SqL K H q []) (k : Q (.bl (!ns.isEmpty)) H) : rNeD K (.ref l) (.ref q) H Q :=
  ⟨_, .list (([] : List Int).map PyData.int), .lst h (dp_ints ns), .lst hq .nil, shaped_ints ns, shaped_ints [], by
    have e : PyData.eqv (.list (ns.map PyData.int)) (.list (([] : List Int).map PyData.int)) = ns.isEmpty := by rw [PyData.eqv]; exact eqvAll_nil ns
    rw [e]; exact k⟩
section
variable {P : Program} {w : World} {K : PySem.W.Frag} {mg : Str → Option Value} {base : Heap} {A : Ad}
def sp_pen (K : PySem.W.Frag) : Sp := fun vs H Q _ => ∃ (a : Addr) (ns : List Int), vs = [.ref a] ∧ SqL K H a (ns.map V.int) ∧ ∀ pn L H', H pn = none → Same H H' → Pen L H' pn 1000000 → Q (.ref pn) H'
theorem ok_pen (T : Tx P K mg A) : FnR P w K mg base CX0 1 A.f_law_pen (sp_pen K) := by
  refine fnr T.F_law_pen sc_law_pen (fun _ _ _ _ _ _ us hl => match us, hl with | [_], _ => rfl) (fun vs H Q E h => ?_) (fun cdv A' outer s H vs Q E hr h => ?_)
  · obtain ⟨a, ns, rfl, _⟩ := h; rfl
  · obtain ⟨a, ns, rfl, hS, k⟩ := h
    refine ⟨_, pss_one (ps_ret (pe_lst (pa_cons (pe_callTy call_list_of (by rfl) T.z_list (by decide +kernel) (pa_cons (pe_slice sl_list (pv 0) po_none (po_some pe_int)) pa_nil)) (pa_cons pe_int (pa_cons pe_int pa_nil))))), ?_⟩
    refine ⟨_, rfl, _, rfl, a, _, rfl, hS, fun p hp => ?_⟩
    refine ⟨p, _, rfl, .inl (SqL.of upd_same), fun l hl => ⟨sz (by show 3 ≤ 1000000; omega), fun pn hpn => ?_⟩⟩
    have e : cutV (ns.map V.int) none (some 63) = (ns.take 63).map V.int := by
      unfold cutV
      rw [HT.sIx_none, List.drop_zero, Nat.sub_zero, show (63 : Int) = ((63 : Nat) : Int) from rfl, HT.sIx_nat, List.map_take]
      by_cases h : 63 ≤ (ns.map V.int).length
      · rw [Nat.min_eq_left h]
      · rw [Nat.min_eq_right (by omega), List.take_of_length_le (Nat.le_refl _), List.take_of_length_le (by omega)]
    rw [e] at hl hpn ⊢
    have s1 := (Same.new (o := .lst ((ns.take 63).map V.int)) hp).trans (Same.new (o := .lst ((ns.take 63).map V.int)) hl)
    have hll : l ≠ pn := ne_of_none upd_same hpn
    refine k pn l _ (s1.free hpn) (s1.trans (Same.new hpn)) ⟨ns.take 63, 0, 0, upd_same, ?_, hll, ?_, by omega, by omega⟩
    · rw [upd_ne hll, upd_same]
    · rw [List.length_take]; omega
def sp_draw : Sp := fun vs H Q _ => ∃ (pn L : Addr) (m : Int) (b : Nat), vs = [.ref pn, .int m] ∧ Pen L H pn (b + 1) ∧ 1 ≤ m ∧ m ≤ 100000 ∧ ∀ (d : Nat) H', (d : Int) < m → Sam pn H H' → Pen L H' pn b → Q (.int d) H'
theorem pow_bd1 {x a c1 c2 : Int} (h1 : 0 ≤ a) (h2 : a ≤ 1000000) (hx : 0 ≤ x) (hx2 : x < 2147483648) (h3 : 0 ≤ c1) (h4 : c1 ≤ 100000) (h5 : 0 ≤ c2) (h6 : c2 ≤ 100000) : (x + c1 * a + c2).natAbs < 2 ^ 64 := by
  have m1 : c1 * a ≤ 100000 * 1000000 := Int.mul_le_mul h4 h2 h1 (by omega)
  have m0 : 0 ≤ c1 * a := Int.mul_nonneg h3 h1
  omega
theorem pow_bd2 {st a c1 c2 c3 : Int} (hs : 0 ≤ st) (hs2 : st < 2147483648) (h1 : 0 ≤ a) (h2 : a ≤ 1000000) (h3 : 0 ≤ c1) (h4 : c1 ≤ 100000) (h5 : 0 ≤ c2) (h6 : c2 ≤ 100000) (h7 : 0 ≤ c3) (h8 : c3 ≤ 100000) :
    (st * (2 * a + c1) + c2 * a * a + c3).natAbs < 2 ^ 64 := by
  have m1 : st * (2 * a + c1) ≤ 2147483648 * 2100000 := Int.mul_le_mul (by omega) (by omega) (by omega) (by omega)
  have m2 : 0 ≤ st * (2 * a + c1) := Int.mul_nonneg hs (by omega)
  have m3 : c2 * a ≤ 100000 * 1000000 := Int.mul_le_mul h6 h2 h1 (by omega)
  have m4 : 0 ≤ c2 * a := Int.mul_nonneg h5 h1
  have m5 : c2 * a * a ≤ 100000 * 1000000 * 1000000 := Int.mul_le_mul m3 h2 h1 (by omega)
  have m6 : 0 ≤ c2 * a * a := Int.mul_nonneg m4 h1
  omega
theorem ok_draw (T : Tx P K mg A) : FnR P w K mg base CX0 1 A.f_law_draw sp_draw := by
  refine fnr T.F_law_draw sc_law_draw (fun _ _ _ _ _ _ us hl => match us, hl with | [_, _], _ => rfl) (fun vs H Q E h => ?_) (fun cdv A' outer s H vs Q E hr h => ?_)
  · obtain ⟨pn, l, m, b, rfl, _⟩ := h; rfl
  · obtain ⟨pn, l, m, b, rfl, ⟨ns, a, r, hp, hL, hne, hn, ha, hb⟩, hm, hm2, k⟩ := h
    refine ⟨_, pss_cons (ps_if (pt_cmpR op_gt (pe_ix ix_list (pv 0) pe_int (fun _ _ => rfl)) pe_int (nomark _))
        (pss_cons (ps_set (i := 2) sc_law_draw.nd rfl (.inl rfl) (pe_op op_mod (pe_callTy call_int1 (by rfl) T.z_int (by decide +kernel) (pa_cons (pe_ix ix_list (pv 0) pe_int (fun _ _ => rfl)) pa_nil)) (pv 1)))
        (pss_cons (ps_asg (pe_op op_fdiv (pe_callTy call_int1 (by rfl) T.z_int (by decide +kernel) (pa_cons (pe_ix ix_list (pv 0) pe_int (fun _ _ => rfl)) pa_nil)) (pv 1)) (pg_sub (pv 0) pe_int set_list))
        (pss_one (ps_ret (pv 2))))) pss_nil)
      (pss_cons (ps_set (i := 3) sc_law_draw.nd rfl (.inl rfl) (pe_ix ix_list (pv 0) pe_int (fun _ _ => rfl)))
      (pss_cons (ps_asg (pe_op op_add (pv 3) pe_int) (pg_sub (pv 0) pe_int set_list))
      (pss_cons (ps_set (i := 4) sc_law_draw.nd rfl (.inl rfl) (pe_op op_add (pe_op op_mul pe_int (pv 3)) pe_int))
      (pss_jn (ps_if (pt_cmpR (op_neD hr.units) (pe_ix ix_list (pv 0) pe_int (fun _ _ => rfl)) (pe_lst pa_nil) (nomark _))
        (pss_one (ps_set (i := 4) sc_law_draw.nd rfl (.inl rfl) (pe_ix ix_list (pe_ix ix_list (pv 0) pe_int (fun _ _ => rfl)) (pe_op op_mod (pe_callTy call_int1 (by rfl) T.z_int (by decide +kernel) (pa_cons (pv 3) pa_nil))
          (pe_callB call_len_seq (by rfl) T.z_len PySem.boot_len (pa_cons (pe_ix ix_list (pv 0) pe_int (fun _ _ => rfl)) pa_nil))) (fun _ _ => rfl)))) pss_nil)
      (pss_jn (ps_if (PW.pt (pw_and (pt_cmpR op_lt (pv 3) (pe_callB call_len_seq (by rfl) T.z_len PySem.boot_len (pa_cons (pe_ix ix_list (pv 0) pe_int (fun _ _ => rfl)) pa_nil)) (nomark _))
          (pw_and1 (pt_cmpR op_ge (pe_callB call_abs (by rfl) T.z_abs (by decide +kernel) (pa_cons (pv 4) pa_nil)) (pe_op op_pow pe_int pe_int) (nomark _)))))
        (pss_cons (ps_set (i := 5) sc_law_draw.nd rfl (.inl rfl) (pe_op op_add (pe_op op_mul pe_int (pe_op op_sub (pe_callB call_abs (by rfl) T.z_abs (by decide +kernel) (pa_cons (pv 4) pa_nil)) (pe_op op_pow pe_int pe_int)))
          (pe_callTy call_int1 (by rfl) T.z_int (by decide +kernel) (pa_cons (pe_cmpR op_lt (pv 4) pe_int (nomark _)) pa_nil))))
        (pss_cons (ps_asg (pe_op op_fdiv (pe_callTy call_int1 (by rfl) T.z_int (by decide +kernel) (pa_cons (pv 5) pa_nil)) (pv 1)) (pg_sub (pv 0) pe_int set_list))
        (pss_one (ps_ret (pe_op op_mod (pe_callTy call_int1 (by rfl) T.z_int (by decide +kernel) (pa_cons (pv 5) pa_nil)) (pv 1)))))) pss_nil)
      (pss_cons (ps_set (i := 6) sc_law_draw.nd rfl (.inl rfl) (pe_op op_mod (pe_callTy call_int1 (by rfl) T.z_int (by decide +kernel) (pa_cons (pe_op op_pow (pe_op op_add (pe_op op_add (pe_op op_mod (pe_callTy call_int1 (by rfl) T.z_int (by decide +kernel) (pa_cons (pv 4) pa_nil)) pe_int) (pe_op op_mul pe_int (pv 3))) pe_int) pe_int) pa_nil)) pe_int))
      (pss_cons (ps_set (i := 6) sc_law_draw.nd rfl (.inl rfl) (pe_op op_mod (pe_callTy call_int1 (by rfl) T.z_int (by decide +kernel) (pa_cons (pe_op op_pow (pe_op op_add (pe_op op_add (pe_op op_mul (pv 6) (pe_op op_add (pe_op op_mul pe_int (pv 3)) pe_int)) (pe_op op_mul (pe_op op_mul pe_int (pv 3)) (pv 3))) pe_int) pe_int) pa_nil)) pe_int))
      (pss_one (ps_ret (pe_op op_mod (pe_callTy call_int1 (by rfl) T.z_int (by decide +kernel) (pa_cons (pe_op op_fdiv (pv 6) pe_int) pa_nil)) (pv 1))))))))))), ?_⟩
    have i0 : ∀ x y z : V, atI [x, y, z] 0 = some x := fun _ _ _ => rfl
    have i1 : ∀ x y z : V, atI [x, y, z] 1 = some y := fun _ _ _ => rfl
    have i2 : ∀ x y z : V, atI [x, y, z] 2 = some z := fun _ _ _ => rfl
    have res : ∀ (X : Int) H', Sam pn H H' → Pen l H' pn b → Q (.int (X % m)) H' := fun X H' e1 e2 => by
      have h0 := Int.emod_nonneg X (by omega : m ≠ 0)
      have h1 := Int.emod_lt_of_pos X (by omega : 0 < m)
      have := k (X % m).toNat H' (by omega) e1 e2
      rw [Int.toNat_of_nonneg h0] at this
      exact this
    have hm0 : 0 < m := by omega
    have hmd : CDiv 0 m := ⟨hm0, by omega⟩
    refine ⟨_, rfl, pn, _, _, _, rfl, rfl, SqL.of hp, i2 _ _ _, _, _, rfl, rfl, _, rfl, ite2 (fun _ => ?_) (fun _ => ?_)⟩
    · refine ⟨_, rfl, pn, _, _, _, rfl, rfl, SqL.of hp, i2 _ _ _, .inl ⟨_, rfl, _, rfl, _, _, rfl, rfl, hm0, ?_⟩⟩
      refine ⟨_, rfl, pn, _, _, _, rfl, rfl, SqL.of hp, i2 _ _ _, .inl ⟨_, rfl, _, rfl, _, _, rfl, rfl, hmd, ?_⟩⟩
      refine ⟨_, rfl, pn, _, _, 2, rfl, rfl, hp, rfl, _, rfl, res _ _ (Sam.upd (Sam.refl H)) ?_⟩
      exact ⟨ns, a, _, by rw [upd_same]; rfl, by rw [upd_ne hne]; exact hL, hne, hn, ha, by omega⟩
    · refine ⟨_, rfl, pn, _, _, _, rfl, rfl, SqL.of hp, i1 _ _ _, ?_⟩
      refine ⟨_, rfl, _, _, rfl, rfl, _, rfl, pn, _, _, 1, rfl, rfl, hp, rfl, ?_⟩
      have hp1 : upd H pn (.lst ([V.ref l, V.int a, V.int r].set 1 (.int (a + 1)))) pn = some (.lst [V.ref l, V.int (a + 1), V.int r]) := by rw [upd_same]; rfl
      have hL1 : upd H pn (.lst ([V.ref l, V.int a, V.int r].set 1 (.int (a + 1)))) l = some (.lst (ns.map V.int)) := by rw [upd_ne hne]; exact hL
      have e1 : Sam pn H (upd H pn (.lst ([V.ref l, V.int a, V.int r].set 1 (.int (a + 1))))) := Sam.upd (Sam.refl H)
      generalize upd H pn (.lst ([V.ref l, V.int a, V.int r].set 1 (.int (a + 1)))) = H1 at hp1 hL1 e1 ⊢
      refine ⟨_, rfl, _, _, rfl, rfl, .inl ⟨by decide, by decide⟩, _, _, rfl, rfl, ?_⟩
      refine ⟨fun σ' H' => ∃ c : Int, σ' = [some (.ref pn), some (.int m), none, some (.int a), some (.int c), none, none] ∧ Sam pn H H' ∧ H' pn = some (.lst [V.ref l, V.int (a + 1), V.int r]) ∧ H' l = some (.lst (ns.map V.int)),
        ⟨_, rfl, pn, _, _, _, rfl, rfl, SqL.of hp1, i0 _ _ _, Nat.zero_le _, fun q hq => ?_⟩, ?_⟩
      · have s1 := Same.new (o := .lst []) hq
        have hp2 := s1 _ _ hp1
        have hL2 := s1 _ _ hL1
        have e2 : Sam pn H (upd H1 q (.lst [])) := e1.trans (Sam.of s1)
        refine c_neL (SqL.of hL2) (SqL.of upd_same) ⟨_, rfl, ?_⟩
        cases hns : ns.isEmpty with
        | true => exact iteF ⟨_, rfl, e2, hp2, hL2⟩
        | false =>
          have hlen : 0 < ns.length := by
            rcases ns with _ | ⟨x, r⟩
            · cases hns
            · simp
          have h0 := Int.emod_nonneg a (by omega : (ns.length : Int) ≠ 0)
          have h1 := Int.emod_lt_of_pos a (by omega : 0 < (ns.length : Int))
          have hj : (a % (ns.length : Int)).toNat < ns.length := by omega
          refine iteT ⟨_, rfl, pn, _, _, _, rfl, rfl, SqL.of hp2, i0 _ _ _, _, rfl, .inl ⟨_, rfl, ?_⟩⟩
          refine ⟨_, rfl, pn, _, _, _, rfl, rfl, SqL.of hp2, i0 _ _ _, l, _, rfl, .inl (SqL.of hL2), _, _, rfl, rfl, by rw [List.length_map]; omega, ?_⟩
          refine ⟨l, _, _, .int ns[(a % (ns.length : Int)).toNat], rfl, rfl, SqL.of hL2, ?_, _, rfl, e2, hp2, hL2⟩
          refine at_of (j := (a % (ns.length : Int)).toNat) ?_ ?_
          · rw [List.length_map]; omega
          · rw [List.getElem?_map, List.getElem?_eq_getElem hj] <;> rfl
      · rintro σ' H' ⟨c, rfl, e2, hp2, hL2⟩
        have pn2 : Pen l H' pn b := ⟨ns, a + 1, r, hp2, hL2, hne, hn, by omega, by omega⟩
        have p18 : CPow 10 18 := ⟨by decide, by decide, by decide⟩
        refine ⟨fun σ' H2 => σ' = [some (.ref pn), some (.int m), none, some (.int a), some (.int c), none, none] ∧ H2 = H', ?_, ?_⟩
        · refine ⟨_, rfl, _, rfl, pn, _, _, _, rfl, rfl, SqL.of hp2, i0 _ _ _, l, _, rfl, .inl (SqL.of hL2), _, _, rfl, rfl, _, rfl, ite2 (fun _ => ?_) (fun _ => iteF ⟨rfl, rfl⟩)⟩
          refine ⟨_, rfl, _, rfl, _, _, rfl, rfl, p18, _, _, rfl, rfl, _, rfl, ite2 (fun _ => ?_) (fun _ => ⟨rfl, rfl⟩)⟩
          refine ⟨_, rfl, _, rfl, _, _, rfl, rfl, p18, _, _, rfl, rfl, _, _, rfl, rfl, .inl ⟨by decide, by decide⟩, _, rfl, _, _, rfl, rfl, .inr ⟨_, rfl, _, _, rfl, rfl, ?_⟩⟩
          refine ⟨_, rfl, .inl ⟨_, rfl, _, rfl, _, _, rfl, rfl, hmd, ?_⟩⟩
          refine ⟨_, rfl, pn, _, _, 2, rfl, rfl, hp2, rfl, _, rfl, .inl ⟨_, rfl, _, rfl, _, _, rfl, rfl, hm0, res _ _ (Sam.upd e2) ?_⟩⟩
          exact ⟨ns, a + 1, _, by rw [upd_same]; rfl, by rw [upd_ne hne]; exact hL2, hne, hn, by omega, by omega⟩
        · rintro σ' H2 ⟨rfl, rfl⟩
          have md : ∀ (X : Int) (k : Int), 0 < k → k < 2147483648 → 0 ≤ X % k ∧ X % k < 2147483648 := fun X k h1 h2 => ⟨Int.emod_nonneg X (by omega), by have := Int.emod_lt_of_pos X h1; omega⟩
          have mdb : ∀ (X : Int) (k : Int), 0 < k → k < 2147483648 → -(2 ^ 64) < X % k ∧ X % k < 2 ^ 64 := fun X k h1 h2 => by have := md X k h1 h2; omega
          refine ⟨_, rfl, .inl ⟨_, rfl, _, _, rfl, rfl, (by dsimp only; decide), _, rfl, _, _, rfl, rfl, .inl ⟨by decide, by decide⟩, _, _, rfl, rfl, _, _, rfl, rfl, _, _, rfl, rfl,
            ⟨by decide, by decide, pow_bd1 ha (by omega) (md _ _ (by decide) (by decide)).1 (md _ _ (by decide) (by decide)).2 (by decide) (by decide) (by decide) (by decide)⟩, .inl ⟨_, rfl, _, _, rfl, rfl, (by dsimp only; decide), ?_⟩⟩⟩
          refine ⟨_, rfl, _, rfl, _, _, rfl, rfl, .inl ⟨by decide, by decide⟩, _, _, rfl, rfl, _, _, rfl, rfl, .inl (mdb _ _ (by decide) (by decide)), _, rfl, _, _, rfl, rfl, .inl ⟨by decide, by decide⟩, _, rfl, _, _, rfl, rfl, .inr ⟨by omega, by omega⟩, _, _, rfl, rfl, _, _, rfl, rfl, _, _, rfl, rfl,
            ⟨by decide, by decide, pow_bd2 (md _ _ (by decide) (by decide)).1 (md _ _ (by decide) (by decide)).2 ha (by omega) (by decide) (by decide) (by decide) (by decide) (by decide) (by decide)⟩, .inl ⟨_, rfl, _, _, rfl, rfl, (by dsimp only; decide), ?_⟩⟩
          exact ⟨_, rfl, _, _, rfl, rfl, ⟨by decide, by decide⟩, .inl ⟨_, rfl, _, rfl, _, _, rfl, rfl, hm0, res _ _ e2 pn2⟩⟩
def sp_pick : Sp := fun vs H Q _ => ∃ (pn L l : Addr) (xs : List V) (b : Nat), vs = [.ref pn, .ref l] ∧ Pen L H pn (b + 1) ∧ H l = some (.lst xs) ∧ l ≠ pn ∧ 1 ≤ xs.length ∧ xs.length ≤ 100000 ∧ ∀ v H', v ∈ xs → Sam pn H H' → Pen L H' pn b → Q v H'
theorem ok_pick (T : Tx P K mg A) : FnR P w K mg base CX0 2 A.f_law_pick sp_pick := by
  refine fnr T.F_law_pick sc_law_pick (fun _ _ _ _ _ _ us hl => match us, hl with | [_, _], _ => rfl) (fun vs H Q E h => ?_) (fun cdv A' outer s H vs Q E hr h => ?_)
  · obtain ⟨pn, L, l, xs, b, rfl, _⟩ := h; rfl
  · obtain ⟨pn, L, l, xs, b, rfl, hp, hl, hne, h1, h2, k⟩ := h
    refine ⟨_, pss_one (ps_ret (pe_ix ix_list (pv 1) (pe_cl (ok_draw T) hr (by rfl) T.mg_law_draw T.kp_law_draw pass0 (pa_cons (pv 0) (pa_cons (pe_callB call_len_seq (by rfl) T.z_len PySem.boot_len (pa_cons (pv 1) pa_nil)) pa_nil))) (fun _ _ => rfl))), ?_⟩
    refine ⟨_, rfl, _, rfl, _, rfl, l, _, rfl, .inl (SqL.of hl), pn, L, _, b, rfl, hp, by omega, by omega, fun d H' hd e1 p1 => ?_⟩
    have hd' : d < xs.length := by omega
    refine ⟨l, xs, _, xs[d], rfl, rfl, SqL.of (e1 _ _ hne hl), atI_nat (List.getElem?_eq_getElem hd'), k _ H' (List.getElem_mem hd') e1 p1⟩
end
end NK

namespace NK
open PySem PySem.Spec PyProof.Rows L2 NA TL
theorem com_le : ∀ ns ms : List Str, (com ns ms).length ≤ ns.length ∧ (com ns ms).length ≤ ms.length
  | [], _ => by simp [com]
  | _ :: _, [] => by simp [com]
  | a :: as, b :: bs => by
    have := com_le as bs
    unfold com
    split <;> simp <;> omega
theorem com_take : ∀ ns ms : List Str, ns.take (com ns ms).length = com ns ms
  | [], _ => by simp [com]
  | _ :: _, [] => by simp [com]
  | a :: as, b :: bs => by
    unfold com
    split
    · simp [com_take as bs]
    · simp
theorem com_at : ∀ (ns ms : List Str) (j : Nat), j < (com ns ms).length → ∃ x, ns[j]? = some x ∧ ms[j]? = some x
  | [], _, j, h => by simp [com] at h
  | _ :: _, [], j, h => by simp [com] at h
  | a :: as, b :: bs, j, h => by
    unfold com at h
    split at h
    · rename_i e
      subst e
      cases j with
      | zero => exact ⟨a, rfl, rfl⟩
      | succ j =>
        obtain ⟨x, h1, h2⟩ := com_at as bs j (by simpa using h)
        exact ⟨x, by simpa using h1, by simpa using h2⟩
    · simp at h
theorem com_stop : ∀ (ns ms : List Str) (x y : Str), ns[(com ns ms).length]? = some x → ms[(com ns ms).length]? = some y → x ≠ y
  | [], _, x, y, h, _ => by simp [com] at h
  | _ :: _, [], x, y, _, h => by simp [com] at h
  | a :: as, b :: bs, x, y, h1, h2 => by
    unfold com at h1 h2
    by_cases e : a = b
    · rw [if_pos e] at h1 h2
      exact com_stop as bs x y (by simpa using h1) (by simpa using h2)
    · rw [if_neg e] at h1 h2
      simp at h1 h2
      rw [← h1, ← h2]
      exact e
theorem com_good {ns ms : List Str} (g : Good ns) : Good (com ns ms) := by rw [← com_take]; exact g.take _
theorem tx_good {z : Str} (h : isTx z = true) : Good (namesIn z) := by
  unfold isTx at h
  simp only [Bool.and_eq_true, decide_eq_true_eq, List.all_eq_true] at h
  exact ⟨h.1.2, h.2⟩
section
variable {P : Program} {w : World} {K : PySem.W.Frag} {mg : Str → Option Value} {base : Heap} {A : Ad}
/-- what is_text answers of x -/
def TxV (K : PySem.W.Frag) (H : Hp) (x : V) (b : Bool) : Prop := (∃ z : Str, x = .str z ∧ z.length ≤ 100000 ∧ b = isTx z) ∨ (b = false ∧ ∃ t, TyX K H x t ∧ PySem.W.kitOne K t (.type "str") = some false)
theorem v_text {H : Hp} {x : V} {b : Bool} {Q : VK} {E : XK} (h : TxV K H x b) (k : ∀ H', Same H H' → Q (.bl b) H') : sp_is_text K [x] H Q E := by
  rcases h with ⟨z, rfl, hz, rfl⟩ | ⟨rfl, t, h1, h2⟩
  · exact .inl ⟨z, rfl, hz, k⟩
  · exact .inr ⟨x, t, rfl, h1, h2, k H (Same.refl H)⟩
theorem TxV.str {H : Hp} {x : V} (h : TxV K H x true) : ∃ z : Str, x = .str z ∧ z.length ≤ 100000 ∧ isTx z = true := by
  rcases h with ⟨z, rfl, hz, e⟩ | ⟨e, _⟩
  · exact ⟨z, rfl, hz, e.symm⟩
  · cases e
/-- x's type, and whether it is a Place -/
def IsP (A : Ad) (K : PySem.W.Frag) (H : Hp) (x : V) (b : Bool) : Prop := ∃ t, TyX K H x t ∧ PySem.W.kitOne K t (.ref A.c_Place) = some b
/-- an error of the class at C with the value x -/
def ErrV (C : Addr) (f : Str) (H : Hp) (x : V) (E : XK) : Prop := ∀ H' d, Same H H' → H' d = none → E (.ref C) (some d) (upd H' d (.xd [(f, x)]))
/-- x in a place, x a Place or anything else -/
def sp_contains (A : Ad) (K : PySem.W.Frag) : Sp := fun vs H Q _ => ∃ a x ns, vs = [.ref a, x] ∧ Pl A H a ns ∧
  ((∃ b ms, x = .ref b ∧ Pl A H b ms ∧ ∀ H', Same H H' → Q (.bl (decide (ms.take ns.length = ns))) H') ∨
   (IsP A K H x false ∧ ((∃ z : Str, x = .str z ∧ z.length ≤ 100000 ∧ ∀ H', Same H H' → Q (.bl (isTx z && decide ((namesIn z).take ns.length = ns))) H') ∨
     ((∃ t, TyX K H x t ∧ PySem.W.kitOne K t (.type "str") = some false) ∧ ∀ H', Same H H' → Q (.bl false) H'))))
theorem ok_contains (T : Tx P K mg A) : FnR P w K mg base CX0 3 A.f_Place_contains (sp_contains A K) := by
  refine fnr T.F_Place_contains sc_Place_contains (fun _ _ _ _ _ _ us hl => match us, hl with | [_, _], _ => rfl) (fun vs H Q E h => ?_) (fun cdv A' outer s H vs Q E hr h => ?_)
  · obtain ⟨a, b, ns, rfl, _⟩ := h; rfl
  · obtain ⟨a, x, ns, rfl, ⟨g, dx, t, h1, h2⟩, h⟩ := h
    refine ⟨_, pss_cons (ps_if (PW.pt (pw_and (pt_not (pt_val (pe_callB call_isi (by rfl) T.z_isinstance (by decide +kernel) (pa_cons (pv 1) (pa_cons (pe_glob (v := .ref A.c_Place) (by rfl) T.mg_Place rfl) pa_nil)))))
        (pw_and1 (pt_not (pt_val (pe_cl (ok_is_text T) hr (by rfl) T.mg_is_text T.kp_is_text pass0 (pa_cons (pv 1) pa_nil))))))) (pss_one (ps_ret pe_bl)) pss_nil)
      (pss_cons (ps_set (i := 2) sc_Place_contains.nd rfl (.inl rfl) (pe_ifExp (pt_val (pe_callB call_isi (by rfl) T.z_isinstance (by decide +kernel) (pa_cons (pv 1) (pa_cons (pe_glob (v := .ref A.c_Place) (by rfl) T.mg_Place rfl) pa_nil))))
        (pe_fld (pv 1) rfl) (pe_cl (ok_names_in T) (hr.mono (by decide)) (by rfl) T.mg_names_in T.kp_names_in pass0 (pa_cons (pv 1) pa_nil))))
      (pss_one (ps_ret (pe_cmpR (op_eqD hr.units) (pe_slice sl_tupA (pv 2) po_none (po_some (pe_callB call_len_seq (by rfl) T.z_len PySem.boot_len (pa_cons (pe_fld (pv 0) rfl) pa_nil)))) (pe_fld (pv 0) rfl) (nomark _))))), ?_⟩
    have key : ∀ {H1 : Hp} {u : Addr} {ms : List Str} {y : Option V} {Q : VK}, Same H H1 → H1 u = some (.tup (ms.map V.str)) → Good ms → (∀ H', Same H H' → Q (.bl (decide (ms.take ns.length = ns))) H') →
        rSlA K (.ref u) none (some (ns.length : Int)) H1 fun y' H2 => tFld K (tVar 0) "parts" [some (.ref a), y, some (.ref u)] H2 fun y'' H3 => rEqD K y' y'' H3 Q := fun {H1 u ms y Q} s1 h4 g' k => by
      have key2 : ∀ r H2, Same H1 H2 → SqT K H2 r ((ms.take ns.length).map V.str) → tFld K (tVar 0) "parts" [some (.ref a), y, some (.ref u)] H2 fun y'' H3 => rEqD K (.ref r) y'' H3 Q := fun r H2 s2 h5 =>
        ⟨_, rfl, a, _, dx, _, _, rfl, (s1.trans s2) _ _ h1, T.cl, T.np, lkp t, c_eqT (g'.take ns.length).oks g.oks h5 (SqT.of ((s1.trans s2) _ _ h2)) (k H2 (s1.trans s2))⟩
      by_cases hl : ns.length ≤ ms.length
      · exact c_slT (k := ns.length) (SqT.of h4) (by rw [List.length_map]; exact hl) fun r H2 s2 h5 => key2 r H2 s2 (by rw [List.map_take]; exact h5)
      · refine ⟨u, _, rfl, SqT.of h4, fun _ => key2 u H1 (Same.refl H1) ?_, fun hw => (hw ?_).elim⟩
        · rw [List.take_of_length_le (by omega)]; exact SqT.of h4
        · rw [HT.sIx_none, HT.sIx_nat, List.length_map, Nat.min_eq_right (by omega)]; exact ⟨rfl, rfl⟩
    rcases h with ⟨b, ms, rfl, ⟨g', dy, u, h3, h4⟩, k⟩ | ⟨⟨ty, hty, hkP⟩, h⟩
    · refine ⟨_, rfl, .ref b, .ref A.c_Place, .ref A.c_Place, .ref A.c_Place, true, rfl, .own _, T.tyP h3, kit_self, true, rfl, iteF (iteF ?_)⟩
      refine ⟨_, rfl, .ref b, .ref A.c_Place, .ref A.c_Place, .ref A.c_Place, true, rfl, .own _, T.tyP h3, kit_self, true, rfl, iteT ?_⟩
      refine ⟨_, rfl, b, _, dy, _, _, rfl, h3, T.cl, T.np, lkp u, ?_⟩
      refine ⟨_, rfl, _, rfl, a, _, dx, _, _, rfl, h1, T.cl, T.np, lkp t, t, _, rfl, .inr (SqT.of h2), _, rfl, ?_⟩
      rw [List.length_map]
      exact key (Same.refl H) h4 g' k
    · refine ⟨_, rfl, x, .ref A.c_Place, ty, .ref A.c_Place, false, rfl, .own _, hty, hkP, false, rfl, iteT ?_⟩
      rcases h with ⟨z, rfl, hz, k⟩ | ⟨⟨t2, h5, h6⟩, k⟩
      · refine ⟨_, rfl, .inl ⟨z, rfl, hz, fun H1 s1 => ⟨_, rfl, ?_⟩⟩⟩
        cases e : isTx z with
        | false =>
          rw [e, Bool.false_and] at k
          exact iteT (k H1 s1)
        | true =>
          rw [e] at k
          have hty1 : TyX K H1 (.str z) (.type "str") := .base (.str z)
          refine iteF ⟨_, rfl, .str z, .ref A.c_Place, .type "str", .ref A.c_Place, false, rfl, .own _, hty1, T.kSC, false, rfl, iteF ?_⟩
          refine ⟨_, rfl, z, rfl, hz, fun p H2 hp s2 h7 => ?_⟩
          refine ⟨_, rfl, _, rfl, a, _, dx, _, _, rfl, (s1.trans s2) _ _ h1, T.cl, T.np, lkp t, t, _, rfl, .inr (SqT.of ((s1.trans s2) _ _ h2)), _, rfl, ?_⟩
          rw [List.length_map]
          exact key (s1.trans s2) h7 (tx_good e) k
      · exact ⟨_, rfl, .inr ⟨x, t2, rfl, h5, h6, _, rfl, iteT (k H (Same.refl H))⟩⟩
/-- & of anything -/
def sp_andX (A : Ad) (K : PySem.W.Frag) : Sp := fun vs H Q E => ∃ a x ns, vs = [.ref a, x] ∧ Pl A H a ns ∧ ((∃ b ms, x = .ref b ∧ Pl A H b ms ∧ RetP A H (com ns ms) Q) ∨ (IsP A K H x false ∧ ErrV A.c_BadPlace "value" H x E))
theorem ok_andX (T : Tx P K mg A) : FnR P w K mg base (L2.CX P w) 4 A.f_Place_and (sp_andX A K) := by
  refine fnx T.F_Place_and sc_Place_and (fun _ _ _ _ _ _ us hl => match us, hl with | [_, _], _ => rfl) (fun vs H Q E h => ?_) (fun cdv A' outer s H vs Q E hr h => ?_)
  · obtain ⟨a, b, ns, rfl, _⟩ := h; rfl
  · obtain ⟨a, x, ns, rfl, ⟨g, dx, t, h1, h2⟩, h⟩ := h
    refine ⟨_, pss_cons (ps_if (pt_not (pt_val (pe_callB call_isi (by rfl) T.z_isinstance (by decide +kernel) (pa_cons (pv 1) (pa_cons (pe_glob (v := .ref A.c_Place) (by rfl) T.mg_Place rfl) pa_nil))))) (pss_one (ps_raise rfl takesX (pmk_err T.er_BadPlace (hr.mono (by decide)) (by rfl) T.mg_BadPlace (pv 1)))) pss_nil)
      (pss_cons (ps_set (i := 2) sc_Place_and.nd rfl (.inl rfl) pe_int)
      (pss_cons (ps_while (passes_of rfl) (PW.pt (pw_and (pt_cmpR op_lt (pv 2) (pe_callB (call_min2 rfl) (by rfl) T.z_min (by decide +kernel) (pa_cons (pe_callB call_len_seq (by rfl) T.z_len PySem.boot_len (pa_cons (pe_fld (pv 0) rfl) pa_nil))
            (pa_cons (pe_callB call_len_seq (by rfl) T.z_len PySem.boot_len (pa_cons (pe_fld (pv 1) rfl) pa_nil)) pa_nil))) (nomark _))
          (pw_and1 (pt_cmpR op_eq (pe_ix ix_tup (pe_fld (pv 0) rfl) (pv 2) (fun _ _ => rfl)) (pe_ix ix_tup (pe_fld (pv 1) rfl) (pv 2) (fun _ _ => rfl)) (nomark _)))))
        (pss_one (ps_aug (i := 2) sc_Place_and.nd rfl (.inl rfl) pe_int ip_add)))
      (pss_cons (ps_set (i := 3) sc_Place_and.nd rfl (.inl rfl) (pe_slice sl_tupA (pe_fld (pv 0) rfl) po_none (po_some (pv 2))))
      (pss_one (ps_ret (pe_mkS T.mkP (ok_init T) hr (by rfl) T.mg_Place pass0 (pv 3))))))), ?_⟩
    rcases h with ⟨b, ms, rfl, ⟨g', dy, u, h3, h4⟩, k⟩ | ⟨⟨ty, hty, hk⟩, k⟩
    case inr => exact ⟨_, rfl, x, .ref A.c_Place, ty, .ref A.c_Place, false, rfl, .own _, hty, hk, false, rfl, iteT ⟨_, rfl, v_err fun d hd => k _ _ (Same.refl H) hd⟩⟩
    refine ⟨_, rfl, .ref b, .ref A.c_Place, .ref A.c_Place, .ref A.c_Place, true, rfl, .own _, T.tyP h3, kit_self, true, rfl, iteF ?_⟩
    have cl := com_le ns ms
    refine ⟨fun m σ H' => ∃ j : Nat, σ = [some (.ref a), some (.ref b), some (.int j), none] ∧ H' = H ∧ j ≤ (com ns ms).length ∧ m = (com ns ms).length - j, ⟨_, 0, rfl, rfl, Nat.zero_le _, rfl⟩, ?_⟩
    rintro m σ H' ⟨j, rfl, rfl, hj, rfl⟩
    refine ⟨_, rfl, _, rfl, a, _, dx, _, _, rfl, h1, T.cl, T.np, lkp t, t, _, rfl, .inr (SqT.of h2), _, rfl, b, _, dy, _, _, rfl, h3, T.cl, T.np, lkp u, u, _, rfl, .inr (SqT.of h4), _, _, rfl, _, _, rfl, rfl, _, rfl, ?_⟩
    have fin : ∀ j : Nat, j = (com ns ms).length → tSeq (tAsg (tSl (rSlA K) (tFld K (tVar 0) "parts") tNoPart (tPart (tVar 2))) (gName 3)) (tRet (tMkS K A.c_Place (sp_init A) E0 (tVar 3))) { nx := fun x H' => Q V.non H', rt := Q } [some (.ref a), some (.ref b), some (.int j), none] H' := by
      rintro j rfl
      refine ⟨_, rfl, a, _, dx, _, _, rfl, h1, T.cl, T.np, lkp t, _, rfl, _, rfl, c_slT (SqT.of h2) (by rw [List.length_map]; exact cl.1) fun r H2 s2 h5 => ⟨_, rfl, ?_⟩⟩
      rw [← List.map_take, com_take] at h5
      exact mk_plT (com_good g) h5 (k.up s2)
    rw [List.length_map, List.length_map]
    by_cases hc : j < (com ns ms).length
    · obtain ⟨x, e1, e2⟩ := com_at ns ms j hc
      refine iteT' (decide_eq_true (by split <;> omega)) ?_
      refine ⟨_, rfl, a, _, dx, _, _, rfl, h1, T.cl, T.np, lkp t, _, rfl, t, _, _, .str x, rfl, rfl, SqT.of h2, atI_nat (by rw [List.getElem?_map, e1] <;> rfl), ?_⟩
      refine ⟨_, rfl, b, _, dy, _, _, rfl, h3, T.cl, T.np, lkp u, _, rfl, u, _, _, .str x, rfl, rfl, SqT.of h4, atI_nat (by rw [List.getElem?_map, e2] <;> rfl), ?_⟩
      refine ⟨rfl, _, rfl, iteT' (by simp) ⟨fun σ2 H2 => ∃ m', m' < _ ∧ _, fun σ2 H2 h => h, ?_⟩⟩
      exact ⟨_, rfl, _, _, rfl, rfl, (com ns ms).length - (j + 1), by omega, j + 1, rfl, rfl, hc, rfl⟩
    · have ej : j = (com ns ms).length := by omega
      by_cases hl : j < ns.length ∧ j < ms.length
      · have e1 : ns[j]? = some ns[j] := List.getElem?_eq_getElem hl.1
        have e2 : ms[j]? = some ms[j] := List.getElem?_eq_getElem hl.2
        refine iteT' (decide_eq_true (by split <;> omega)) ?_
        refine ⟨_, rfl, a, _, dx, _, _, rfl, h1, T.cl, T.np, lkp t, _, rfl, t, _, _, .str ns[j], rfl, rfl, SqT.of h2, atI_nat (by rw [List.getElem?_map, e1] <;> rfl), ?_⟩
        refine ⟨_, rfl, b, _, dy, _, _, rfl, h3, T.cl, T.np, lkp u, _, rfl, u, _, _, .str ms[j], rfl, rfl, SqT.of h4, atI_nat (by rw [List.getElem?_map, e2] <;> rfl), ?_⟩
        refine ⟨rfl, _, rfl, iteF' (decide_eq_false fun z => ?_) (fin j ej)⟩
        have z' : ns[j] = ms[j] := by injection z
        exact com_stop ns ms ns[j] ms[j] (by rw [← ej]; exact e1) (by rw [← ej]; exact e2) z'
      · exact iteF' (decide_eq_false (by split <;> omega)) (iteF (fin j ej))
/-- + of anything: v tells whether it is a name -/
def sp_addX (A : Ad) (K : PySem.W.Frag) : Sp := fun vs H Q E => ∃ a x ns, vs = [.ref a, x] ∧ Pl A H a ns ∧ ((∃ n : Str, x = .str n ∧ isNm n = true ∧ (ns.length < 8 → RetP A H (ns ++ [n]) Q) ∧ (ns.length = 8 → ErrV A.c_TooMany "most" H (.int 8) E)) ∨
  (((∃ n : Str, x = .str n ∧ n.length ≤ 100000 ∧ isNm n = false) ∨ (∃ t, TyX K H x t ∧ PySem.W.kitOne K t (.type "str") = some false)) ∧ ErrV A.c_BadName "value" H x E))
theorem ok_addX (T : Tx P K mg A) : FnR P w K mg base (L2.CX P w) 4 A.f_Place_add (sp_addX A K) := by
  obtain ⟨t1, k1⟩ := T.most_Place
  refine fnx T.F_Place_add sc_Place_add (fun _ _ _ _ _ _ us hl => match us, hl with | [_, _], _ => rfl) (fun vs H Q E h => ?_) (fun cdv A' outer s H vs Q E hr h => ?_)
  · obtain ⟨a, b, ns, rfl, _⟩ := h; rfl
  · obtain ⟨a, x, ns, rfl, ⟨g, dx, t, h1, h2⟩, h⟩ := h
    refine ⟨_, pss_cons (ps_if (pt_not (pt_val (pe_cl (ok_is_name T) (hr.mono (by decide)) (by rfl) T.mg_is_name T.kp_is_name pass0 (pa_cons (pv 1) pa_nil)))) (pss_one (ps_raise rfl takesX (pmk_err T.er_BadName (hr.mono (by decide)) (by rfl) T.mg_BadName (pv 1)))) pss_nil)
      (pss_cons (ps_if (pt_cmpR op_eq (pe_callB call_len_seq (by rfl) T.z_len PySem.boot_len (pa_cons (pe_fld (pv 0) rfl) pa_nil)) (ClX.pe_cval (pe_glob (v := .ref A.c_Place) (by rfl) T.mg_Place rfl)) (nomark _)) (pss_one (ps_raise rfl takesX (pmk_err T.er_TooMany (hr.mono (by decide)) (by rfl) T.mg_TooMany (ClX.pe_cval (pe_glob (v := .ref A.c_Place) (by rfl) T.mg_Place rfl))))) pss_nil)
      (pss_cons (ps_set (i := 2) sc_Place_add.nd rfl (.inl rfl) (pe_tup (StX.pa_star (pe_fld (pv 0) rfl) (pa_cons (pv 1) pa_nil))))
      (pss_one (ps_ret (pe_mkS T.mkP (ok_init T) hr (by rfl) T.mg_Place pass0 (pv 2)))))), ?_⟩
    rcases h with ⟨n, rfl, hn, k, kM⟩ | ⟨hx, kE⟩
    · refine ⟨_, rfl, .inl ⟨n, rfl, sz (by have := (isNm_iff.mp hn).2.1; omega), fun H1 s1 => ⟨_, rfl, iteF' (by rw [hn]; rfl) ?_⟩⟩⟩
      refine ⟨_, rfl, a, _, dx, _, _, rfl, s1 _ _ h1, T.cl, T.np, lkp t, t, _, rfl, .inr (SqT.of (s1 _ _ h2)), A.c_Place, .type "type", .int 8, _, rfl, T.rdP, ⟨k1, ⟨_, rfl⟩⟩, rfl, _, rfl, ?_⟩
      have h8 := g.1
      by_cases hl : ns.length = 8
      · refine iteT' (decide_eq_true (by rw [List.length_map, hl]; rfl)) ?_
        exact ⟨A.c_Place, .type "type", .int 8, _, rfl, T.rdP, ⟨k1, ⟨_, rfl⟩⟩, v_err fun d hd => kM hl _ _ s1 hd⟩
      · have hl : ns.length < 8 := by omega
        refine iteF' ?_ ?_
        · rw [List.length_map]
          exact decide_eq_false (fun e => by injection e with e; omega)
        · refine ⟨_, rfl, a, _, dx, _, _, rfl, s1 _ _ h1, T.cl, T.np, lkp t, t, _, rfl, .inl (SqT.of (s1 _ _ h2)), _, rfl, ?_, fun p hp => ⟨_, rfl, ?_⟩⟩
          · rw [List.length_append, List.length_map]; exact sz (by show ns.length + 1 ≤ 1000000; omega)
          · refine mk_plT (g.snoc hl hn) (SqT.of ?_) ((k hl).up (s1.trans (Same.new hp)))
            rw [upd_same, List.map_append]; rfl
    · rcases hx with ⟨n, rfl, hl, hn⟩ | ⟨ty, hty, hk⟩
      · exact ⟨_, rfl, .inl ⟨n, rfl, sz (by omega), fun H1 s1 => ⟨_, rfl, iteT' (by rw [hn]; rfl) ⟨_, rfl, v_err fun d hd => kE _ _ s1 hd⟩⟩⟩⟩
      · exact ⟨_, rfl, .inr ⟨x, ty, rfl, hty, hk, _, rfl, iteT ⟨_, rfl, v_err fun d hd => kE _ _ (Same.refl H) hd⟩⟩⟩
end
end NK

namespace NK
open PySem PySem.Spec PyProof.Rows L2 NA TL
theorem kit_ne {K : PySem.W.Frag} {D C : Addr} (hn : D ≠ C) (h1 : PySem.W.isClsIn K C = true) (h2 : PySem.W.typeIn K (.ref C) = some (.type "type")) (h3 : PySem.W.subIn K (.ref D) (.ref C) = some false) : PySem.W.kitOne K (.ref D) (.ref C) = some false :=
  kit_sub (beq_eq_false_iff_ne.mpr fun e => hn (Value.ref.inj e)) h1 h2 h3
section
variable {P : Program} {w : World} {K : PySem.W.Frag} {mg : Str → Option Value} {base : Heap} {A : Ad}
theorem Tx.xfP (T : Tx P K mg A) : XfC K A.c_BadPlace := ⟨T.ga_BadPlace, T.gg_BadPlace, T.be_BadPlace, T.hd_BadPlace⟩
theorem Tx.xfN (T : Tx P K mg A) : XfC K A.c_BadName := ⟨T.ga_BadName, T.gg_BadName, T.be_BadName, T.hd_BadName⟩
theorem Tx.xfM (T : Tx P K mg A) : XfC K A.c_TooMany := ⟨T.ga_TooMany, T.gg_TooMany, T.be_TooMany, T.hd_TooMany⟩
theorem Tx.exP (T : Tx P K mg A) : ExcC K A.c_BadPlace := ⟨T.ga_BadPlace, T.gg_BadPlace, T.be_BadPlace, T.hd_BadPlace, T.ca_BadPlace, T.cn_Place, T.ct_Place, T.ob_BadPlace⟩
theorem Tx.exN (T : Tx P K mg A) : ExcC K A.c_BadName := ⟨T.ga_BadName, T.gg_BadName, T.be_BadName, T.hd_BadName, T.ca_BadName, T.cn_Place, T.ct_Place, T.ob_BadName⟩
theorem Tx.exM (T : Tx P K mg A) : ExcC K A.c_TooMany := ⟨T.ga_TooMany, T.gg_TooMany, T.be_TooMany, T.hd_TooMany, T.ca_TooMany, T.cn_Place, T.ct_Place, T.ob_TooMany⟩
/-- the three errors: class, word, field -/
inductive ErK (A : Ad) : Addr → Str → Str → Prop
  | nm : ErK A A.c_BadName "name" "value"
  | mny : ErK A A.c_TooMany "many" "most"
  | plc : ErK A A.c_BadPlace "place" "value"
theorem ErK.tk (T : Tx P K mg A) {C : Addr} {wd f : Str} (h : ErK A C wd f) : PySem.W.exmOne K (.ref C) (.ref A.c_TableError) = some true := by
  cases h
  · exact PySem.W.exm_ref T.be_TableError T.hd_TableError T.ty_TableError T.tb_BadName
  · exact PySem.W.exm_ref T.be_TableError T.hd_TableError T.ty_TableError T.tb_TooMany
  · exact PySem.W.exm_ref T.be_TableError T.hd_TableError T.ty_TableError T.tb_BadPlace
/-- what an ask heard -/
def TTh (A : Ad) : (XK → Hp → VK → Prop) → Hp → VK → Prop := fun tl H Q => ∃ (E1 : XK) (Q1 : VK), tl E1 H Q1 ∧
  (∀ v H', Q1 v H' → ∃ a ns, v = .ref a ∧ Pl A H' a ns ∧ ∀ t p, H' t = some (.tup (ns.map V.str)) → H' p = none → Q (.ref p) (upd H' p (.tup [.str "made", .ref t]))) ∧
  ∀ cls d H', E1 cls d H' → ∃ C wd f dd v, cls = .ref C ∧ ErK A C wd f ∧ d = some dd ∧ H' dd = some (.xd [(f, v)]) ∧ ∀ Hn p, Same H' Hn → Hn p = none → Q (.ref p) (upd Hn p (.tup [.str wd, v]))
theorem pe_weak {X : Cx} {e : Expr} {t : TE} (h : PE X e t) : PE X e (fun σ H Q => ∃ Qn : VK, (∀ v H1, Qn v H1 → Q v H1) ∧ t σ H Qn) := by
  refine ⟨fun pins s σ H Q I ⟨Qn, k, q⟩ => wpAny_mono (h.run pins s σ H Qn I q) (fun u s1 z => ?_) fun _ _ z => z⟩
  obtain ⟨v, H1, I1, r, z⟩ := z
  exact ⟨v, H1, I1, r, k v H1 z⟩
theorem Tx.namesP (T : Tx P K mg A) : PropOf K A.c_Place "names" A.p_Place_names A.f_Place_names := ⟨T.at_Place_names, T.ge_Place_names, T.tk_Place_names, T.rc_Place_names⟩
theorem Tx.textP (T : Tx P K mg A) : PropOf K A.c_Place "text" A.p_Place_text A.f_Place_text := ⟨T.at_Place_text, T.ge_Place_text, T.tk_Place_text, T.rc_Place_text⟩
theorem Pl.ins {H : Hp} {a : Addr} {ns : List Str} (h : Pl A H a ns) : ∃ dx fs, H a = some (.ins A.c_Place dx fs) := by
  obtain ⟨_, dx, t, h1, _⟩ := h
  exact ⟨dx, _, h1⟩
theorem Pl.good {H : Hp} {a : Addr} {ns : List Str} (h : Pl A H a ns) : Good ns := h.1
theorem heard_gives {X : Cx} {q : Str} {g : Addr} {cdg : Value} (T : Tx X.prog X.K X.mg A) (hr : Room 2 (X.A.deeper (envOfC "_law_heard" (defScope s_law_heard) 0 0 .none))) :
    LamX.GivesTo X ["_law_ask", "_law_caught", "_law_found", "error", "_law_kinds"] "_law_heard" (defScope s_law_heard) g cdg (defBody s_law_heard) "_law_ask" q (TTh A) := by
  intro f c' s H Q tl act hc h
  have hr' : Room 2 (X.A.deeper (envOfC "_law_heard" (defScope s_law_heard) s.heap.objs.size g cdg)) := ⟨hr.hd, hr.dp, hr.un⟩
  refine ⟨_, pss_cons (ps_set (i := 1) sc_law_heard.nd rfl (.inl rfl) pe_non)
    (pss_cons (ps_set (i := 2) sc_law_heard.nd rfl (.inl rfl) pe_non)
    (pss_cons (ps_try_hold (i := 3) (j := 1) (c := .ref A.c_TableError)
        (tb := fun W D σ H => ∃ Ech : XK, (∀ cls d σ' H', Ech cls d H' → W cls d σ' H') ∧ σ[0]? = some (some (.ref f)) ∧ H c' = some (LamX.CodeO c' q) ∧ ∃ Qn : VK, (∀ v H1, Qn v H1 → D.nx (σ.set 2 (some v)) H1) ∧ tl Ech H Qn)
        rfl rfl rfl sc_law_heard.nd rfl rfl rfl rfl ⟨rfl, by decide, .inl T.mg_TableError⟩ LamX.takes0 (fun W pn xe tk _ => ?_))
    (pss_cons (ps_if (pt_cmpR op_isN (pv 1) pe_non (nomark _)) (pss_one (ps_ret (pe_ifExp (pt_val (pe_callB call_isi (by rfl) T.z_isinstance (by decide +kernel) (pa_cons (pv 2) (pa_cons (pe_glob (v := .ref A.c_Place) (by rfl) T.mg_Place rfl) pa_nil))))
        (pe_tup (pa_cons pe_str (pa_cons (pe_prp (pv 2) T.cl T.namesP (ok_names T) hr' noErr) pa_nil))) (pe_tup (pa_cons pe_str pa_nil))))) pss_nil)
    (pss_cons (ps_set (i := 4) sc_law_heard.nd rfl (.inl rfl) (pe_lst (pa_cons (pe_callB call_isH (by rfl) T.z_isinstance (by decide +kernel) (pa_cons (pv 1) (pa_cons (pe_glob (v := .ref A.c_BadName) (by rfl) T.mg_BadName rfl) pa_nil)))
        (pa_cons (pe_callB call_isH (by rfl) T.z_isinstance (by decide +kernel) (pa_cons (pv 1) (pa_cons (pe_glob (v := .ref A.c_TooMany) (by rfl) T.mg_TooMany rfl) pa_nil)))
        (pa_cons (pe_callB call_isH (by rfl) T.z_isinstance (by decide +kernel) (pa_cons (pv 1) (pa_cons (pe_glob (v := .ref A.c_BadPlace) (by rfl) T.mg_BadPlace rfl) pa_nil))) pa_nil)))))
    (pss_cons (ps_if (pt_cmpR op_ne (pe_bm PySem.F.plainAttrs_list PySem.F.slot_list_count PySem.F.type_list_count mt_countB (pv 4) (pa_cons pe_bl pa_nil)) pe_int (nomark _)) (pss_one (ps_ret (pe_tup (pa_cons pe_str pa_nil)))) pss_nil)
    (pss_cons (ps_if (pt_val (pe_ix ix_list (pv 4) pe_int (fun _ _ => rfl))) (pss_one (ps_ret (pe_tup (pa_cons pe_str (pa_cons (pe_held (C := A.c_BadName) T.xfN T.nv_BadName (pv 1)) pa_nil))))) pss_nil)
    (pss_one (ps_ret (pe_ifExp (pt_val (pe_ix ix_list (pv 4) pe_int (fun _ _ => rfl))) (pe_tup (pa_cons pe_str (pa_cons (pe_held (C := A.c_TooMany) T.xfM T.nv_TooMany (pv 1)) pa_nil))) (pe_tup (pa_cons pe_str (pa_cons (pe_held (C := A.c_BadPlace) T.xfP T.nv_BadPlace (pv 1)) pa_nil)))))))))))), ?_⟩
  · refine ⟨fun pins s' σ H' D I h' => ?_⟩
    obtain ⟨Ech, hW, h1, h2, Qn, hQ, h3⟩ := h'
    exact (pss_one (ps_set (i := 2) sc_law_heard.nd rfl (.inl rfl) (pe_weak (act W pn xe Ech _ _ tk hW)))).run pins s' σ H' D I ⟨Qn, hQ, h1, h2, h3⟩
  · obtain ⟨E1, Q1, h, hQ, hE⟩ := h
    refine ⟨E1, fun cls d σ' H' z => ?_, rfl, hc, Q1, fun v H' q => ⟨_, rfl, rfl, _, rfl, iteT ?_⟩, h⟩
    · obtain ⟨C, wd, fl, dd, v, rfl, hk, rfl, hx, k⟩ := hE cls d H' z
      refine ⟨true, hk.tk T, fun _ a ha hl => ?_, fun z => by cases z⟩
      match σ', hl with
      | [x0, x1, x2, x3, x4], _ =>
        have hx' : upd H' a (HeldO (.ref C) (some dd) a) dd = some (.xd [(fl, v)]) := by rw [upd_ne (ne_of_none hx ha)]; exact hx
        have s1 := Same.new (o := HeldO (.ref C) (some dd) a) ha
        refine ⟨_, rfl, rfl, _, rfl, iteF ?_⟩
        cases hk with
        | nm =>
          refine ⟨_, rfl, a, A.c_BadName, dd, _, .ref A.c_BadName, .ref A.c_BadName, true, rfl, T.exN, upd_same, hx', (fun u h => h), kit_self, ?_⟩
          refine ⟨_, rfl, a, A.c_BadName, dd, _, .ref A.c_TooMany, .ref A.c_TooMany, false, rfl, T.exN, upd_same, hx', (fun u h => h), kit_ne T.nn_BadName_TooMany T.ic_TooMany T.ty_TooMany T.xBadName_TooMany, ?_⟩
          refine ⟨_, rfl, a, A.c_BadName, dd, _, .ref A.c_BadPlace, .ref A.c_BadPlace, false, rfl, T.exN, upd_same, hx', (fun u h => h), kit_ne T.nn_BadName_BadPlace T.ic_BadPlace T.ty_BadPlace T.xBadName_BadPlace, ?_⟩
          refine ⟨sz (by show 3 ≤ 1000000; omega), fun l hl => ?_⟩
          have s2 := Same.new (o := .lst [V.bl true, .bl false, .bl false]) hl
          refine ⟨_, rfl, .inl ⟨rfl, _, SqL.of upd_same⟩, l, [true, false, false], true, rfl, rfl, SqL.of upd_same, rfl, _, rfl, iteF' (by decide) ?_⟩
          refine ⟨_, rfl, l, _, _, _, rfl, rfl, SqL.of upd_same, rfl, true, rfl, iteT ?_⟩
          exact ⟨_, rfl, a, dd, _, v, rfl, s2 _ _ upd_same, s2 _ _ hx', by simp [List.lookup], sz (by show 2 ≤ 1000000; omega), fun p hp => k _ p (s1.trans s2) hp⟩
        | mny =>
          refine ⟨_, rfl, a, A.c_TooMany, dd, _, .ref A.c_BadName, .ref A.c_BadName, false, rfl, T.exM, upd_same, hx', (fun u h => h), kit_ne T.nn_BadName_TooMany.symm T.ic_BadName T.ty_BadName T.xTooMany_BadName, ?_⟩
          refine ⟨_, rfl, a, A.c_TooMany, dd, _, .ref A.c_TooMany, .ref A.c_TooMany, true, rfl, T.exM, upd_same, hx', (fun u h => h), kit_self, ?_⟩
          refine ⟨_, rfl, a, A.c_TooMany, dd, _, .ref A.c_BadPlace, .ref A.c_BadPlace, false, rfl, T.exM, upd_same, hx', (fun u h => h), kit_ne T.nn_BadPlace_TooMany.symm T.ic_BadPlace T.ty_BadPlace T.xTooMany_BadPlace, ?_⟩
          refine ⟨sz (by show 3 ≤ 1000000; omega), fun l hl => ?_⟩
          have s2 := Same.new (o := .lst [V.bl false, .bl true, .bl false]) hl
          refine ⟨_, rfl, .inl ⟨rfl, _, SqL.of upd_same⟩, l, [false, true, false], true, rfl, rfl, SqL.of upd_same, rfl, _, rfl, iteF' (by decide) ?_⟩
          refine ⟨_, rfl, l, _, _, _, rfl, rfl, SqL.of upd_same, rfl, false, rfl, iteF ?_⟩
          refine ⟨_, rfl, l, _, _, _, rfl, rfl, SqL.of upd_same, rfl, true, rfl, iteT ?_⟩
          exact ⟨_, rfl, a, dd, _, v, rfl, s2 _ _ upd_same, s2 _ _ hx', by simp [List.lookup], sz (by show 2 ≤ 1000000; omega), fun p hp => k _ p (s1.trans s2) hp⟩
        | plc =>
          refine ⟨_, rfl, a, A.c_BadPlace, dd, _, .ref A.c_BadName, .ref A.c_BadName, false, rfl, T.exP, upd_same, hx', (fun u h => h), kit_ne T.nn_BadName_BadPlace.symm T.ic_BadName T.ty_BadName T.xBadPlace_BadName, ?_⟩
          refine ⟨_, rfl, a, A.c_BadPlace, dd, _, .ref A.c_TooMany, .ref A.c_TooMany, false, rfl, T.exP, upd_same, hx', (fun u h => h), kit_ne T.nn_BadPlace_TooMany T.ic_TooMany T.ty_TooMany T.xBadPlace_TooMany, ?_⟩
          refine ⟨_, rfl, a, A.c_BadPlace, dd, _, .ref A.c_BadPlace, .ref A.c_BadPlace, true, rfl, T.exP, upd_same, hx', (fun u h => h), kit_self, ?_⟩
          refine ⟨sz (by show 3 ≤ 1000000; omega), fun l hl => ?_⟩
          have s2 := Same.new (o := .lst [V.bl false, .bl false, .bl true]) hl
          refine ⟨_, rfl, .inl ⟨rfl, _, SqL.of upd_same⟩, l, [false, false, true], true, rfl, rfl, SqL.of upd_same, rfl, _, rfl, iteF' (by decide) ?_⟩
          refine ⟨_, rfl, l, _, _, _, rfl, rfl, SqL.of upd_same, rfl, false, rfl, iteF ?_⟩
          refine ⟨_, rfl, l, _, _, _, rfl, rfl, SqL.of upd_same, rfl, false, rfl, iteF ?_⟩
          exact ⟨_, rfl, a, dd, _, v, rfl, s2 _ _ upd_same, s2 _ _ hx', by simp [List.lookup], sz (by show 2 ≤ 1000000; omega), fun p hp => k _ p (s1.trans s2) hp⟩
    · obtain ⟨a, ns, rfl, pa, k⟩ := hQ v H' q
      obtain ⟨dx, fx, ex⟩ := pa.ins
      refine ⟨_, rfl, .ref a, .ref A.c_Place, .ref A.c_Place, .ref A.c_Place, true, rfl, .own _, T.tyP ex, kit_self, true, rfl, iteT ?_⟩
      exact ⟨_, rfl, a, dx, fx, rfl, ex, a, ns, rfl, pa, fun t ht => ⟨sz (by show 2 ≤ 1000000; omega), fun p hp => k t p ht hp⟩⟩
end
end NK

namespace NK
open PySem PySem.Spec PyProof.Rows L2 NA TL
theorem passF {X : Cx} : Passes (L2.CX X.prog X.w) X (fun _ _ _ => False) := passes_call LamX.takes0 (fun _ _ _ _ h => h)
theorem pick_nat {ns : List Nat} {B : Nat} {v : V} (h : v ∈ ns.map (fun n : Nat => V.int (n : Int))) (hB : ∀ n ∈ ns, n ≤ B) : ∃ n : Nat, v = .int (n : Int) ∧ n ≤ B := by
  obtain ⟨n, hn, rfl⟩ := List.mem_map.mp h
  exact ⟨n, rfl, hB n hn⟩
theorem pick_str {ns : List Str} {v : V} (h : v ∈ ns.map V.str) (hB : ∀ n ∈ ns, isNm n = true) : ∃ n, v = .str n ∧ isNm n = true := by
  obtain ⟨n, hn, rfl⟩ := List.mem_map.mp h
  exact ⟨n, rfl, hB n hn⟩
def Nms (ns : List Str) : Prop := ∀ n ∈ ns, isNm n = true
theorem Nms.app {a b : List Str} (h : Nms a) (k : Nms b) : Nms (a ++ b) := fun n hn => (List.mem_append.mp hn).elim (h n) (k n)
/-- a slice of a list of texts -/
theorem cut_strs (ns : List Str) (lo hi : Option Int) : ∃ ms : List Str, cutV (ns.map V.str) lo hi = ms.map V.str ∧ (∀ m ∈ ms, m ∈ ns) ∧ ms.length ≤ ns.length := by
  refine ⟨(ns.drop (HT.sIx (ns.map V.str).length 0 lo)).take (HT.sIx (ns.map V.str).length (ns.map V.str).length hi - HT.sIx (ns.map V.str).length 0 lo), ?_, fun m hm => List.mem_of_mem_drop (List.mem_of_mem_take hm), ?_⟩
  · unfold cutV
    rw [List.map_take, List.map_drop]
  · rw [List.length_take, List.length_drop]; omega
theorem cut_take (xs : List V) (k : Nat) : cutV xs none (some (k : Int)) = xs.take k := by
  unfold cutV
  rw [HT.sIx_nat, HT.sIx_none, List.drop_zero, Nat.sub_zero]
  by_cases hk : k ≤ xs.length
  · rw [Nat.min_eq_left hk]
  · rw [Nat.min_eq_right (by omega), List.take_length, List.take_of_length_le (by omega)]
section
variable {P : Program} {w : World} {K : PySem.W.Frag} {mg : Str → Option Value} {base : Heap} {A : Ad}
theorem sam_free {p b : Addr} {H H' : Hp} {xs : List V} (e : Sam p H H') (hp : H p = some (.lst xs)) (hp' : ∃ ys, H' p = some (.lst ys)) (h : H' b = none) : H b = none := by
  cases hb : H b with
  | none => rfl
  | some o =>
    by_cases z : b = p
    · obtain ⟨ys, hy⟩ := hp'
      rw [z, hy] at h; cases h
    · rw [e _ _ z hb] at h; cases h
def sp_lnames : Sp := fun vs H Q _ => ∃ (pn L : Addr) (b : Nat), vs = [.ref pn] ∧ Pen L H pn (b + 9) ∧ ∀ l (ns : List Str) H', Sam pn H H' → Pen L H' pn b → H l = none → H' l = some (.lst (ns.map V.str)) → ns.length ≤ 8 → Nms ns → Q (.ref l) H'
theorem ok_lnames (T : Tx P K mg A) : FnR P w K mg base CX0 3 A.f_law_names sp_lnames := by
  refine fnr T.F_law_names sc_law_names (fun _ _ _ _ _ _ us hl => match us, hl with | [_], _ => rfl) (fun vs H Q E h => ?_) (fun cdv A' outer s H vs Q E hr h => ?_)
  · obtain ⟨pn, L, b, rfl, _⟩ := h; rfl
  · obtain ⟨pn, L, b, rfl, hp, k⟩ := h
    refine ⟨_, pss_one (ps_ret (pe_lc (own := [("_law_k", 1)]) (g := gName 1) (tt := tYes) rfl sc_law_names.nd (pi_range1 (by rfl) T.z_range (pa_cons (pe_cl (ok_pick T) hr (by rfl) T.mg_law_pick T.kp_law_pick pass0 (pa_cons (pv 0) (pa_cons (pe_lst (pa_cons pe_int (pa_cons pe_int (pa_cons pe_int (pa_cons pe_int (pa_cons pe_int (pa_cons pe_int pa_nil))))))) pa_nil))) pa_nil))
        (blkOk_by (N := ["_law_pen_here", "_law_k"]) (sc := defScope s_law_names) (by decide +kernel)) (fun _ _ _ _ _ => pg_name (i := 1) sc_law_names.nd rfl (Or.inl rfl)) (fun _ _ _ _ _ => pts_nil)
        (fun _ _ _ _ _ => pe_cl (ok_pick T) hr (by rfl) T.mg_law_pick T.kp_law_pick pass0 (pa_cons (pv 0) (pa_cons (pe_lst (pa_cons pe_str (pa_cons pe_str (pa_cons pe_str (pa_cons pe_str (pa_cons pe_str (pa_cons pe_str pa_nil))))))) pa_nil))))), ?_⟩
    obtain ⟨xs, hpl⟩ := hp.lst
    refine ⟨_, rfl, sz (by show 6 ≤ 1000000; omega), fun q hq => ?_⟩
    have s2 := Same.new (o := .lst [V.int 0, V.int 1, V.int 2, V.int 3, V.int 7, V.int 8]) hq
    have nq : q ≠ pn := (ne_of_none hpl hq).symm
    refine ⟨pn, L, q, _, b + 8, rfl, hp.same s2, upd_same, nq, by show 1 ≤ 6; omega, by show 6 ≤ 100000; omega, fun v H3 hv e3 pen3 => ?_⟩
    obtain ⟨n, rfl, hn⟩ := pick_nat (ns := [0, 1, 2, 3, 7, 8]) (B := 8) hv (by decide)
    have e30 : Sam pn H H3 := (Sam.of s2).trans e3
    obtain ⟨xs3, hp3⟩ := pen3.lst
    refine ⟨_, rfl, by omega, by omega, fun D hD => ?_⟩
    have nD : D ≠ pn := (ne_of_none hp3 hD).symm
    obtain ⟨xsL, hpL⟩ := pen3.ints
    have nDL : D ≠ L := (ne_of_none hpL hD).symm
    refine lc_range (lo := 0) (n := (n : Int).toNat) (fun j Hx => ∃ ts : List Str, Hx D = some (.lst (ts.map V.str)) ∧ ts.length = j ∧ Nms ts ∧ Sam pn H3 Hx ∧ Pen L Hx pn (b + (8 - j)))
      ⟨[], upd_same, rfl, (fun _ h => (List.not_mem_nil h).elim), Sam.new (Sam.refl H3) hD, pen3.same (Same.new hD)⟩ ?_ ?_
    · rintro j Hx hj ⟨ts, hDx, htl, hts, e7, pen7⟩
      refine ⟨rfl, ?_⟩
      unfold tYes
      dsimp only
      rw [if_pos rfl]
      obtain ⟨xs7, hp7⟩ := pen7.lst
      refine ⟨_, rfl, sz (by show 6 ≤ 1000000; omega), fun q7 hq7 => ?_⟩
      have s7 := Same.new (o := .lst [V.str "a", .str "b", .str "ab", .str "a0", .str "0", .str "abcdefgh"]) hq7
      have nq7 : q7 ≠ pn := (ne_of_none hp7 hq7).symm
      refine ⟨pn, L, q7, _, b + (8 - (j + 1)), rfl, (pen7.same s7).less (by omega), upd_same, nq7, by show 1 ≤ 6; omega, by show 6 ≤ 100000; omega, fun v H8 hv e8 pen8 => ?_⟩
      obtain ⟨m, rfl, hm⟩ := pick_str (ns := ["a", "b", "ab", "a0", "0", "abcdefgh"]) hv (by decide +kernel)
      have e9 := (Sam.of s7).trans e8
      refine ⟨_, e9 _ _ nD hDx, by rw [List.length_map]; exact szl (by omega), ts ++ [m], by rw [upd_same, List.map_append]; rfl, by rw [List.length_append, List.length_singleton, htl], fun t ht => ?_, Sam.mut (e7.trans e9) hD, pen8.mut nD nDL⟩
      rcases List.mem_append.mp ht with ht | ht
      · exact hts t ht
      · rw [List.mem_singleton.mp ht]; exact hm
    · rintro Hx ⟨ts, hDx, htl, hts, e7, pen7⟩
      exact k D ts Hx (e30.trans e7) (pen7.less (by omega)) (sam_free e30 hpl ⟨_, hp3⟩ hD) hDx (by omega) hts
/-- names near others -/
def sp_near : Sp := fun vs H Q _ => ∃ (pn L l : Addr) (ns : List Str) (b : Nat), vs = [.ref pn, .ref l] ∧ Pen L H pn (b + 11) ∧ H l = some (.lst (ns.map V.str)) ∧ l ≠ pn ∧ Good ns ∧ ∀ r (ms : List Str) H', Sam pn H H' → Pen L H' pn b → H r = none → H' r = some (.lst (ms.map V.str)) → Good ms → Q (.ref r) H'
theorem ok_near (T : Tx P K mg A) : FnR P w K mg base CX0 4 A.f_law_near sp_near := by
  refine fnr T.F_law_near sc_law_near (fun _ _ _ _ _ _ us hl => match us, hl with | [_, _], _ => rfl) (fun vs H Q E h => ?_) (fun cdv A' outer s H vs Q E hr h => ?_)
  · obtain ⟨pn, L, l, ns, b, rfl, _⟩ := h; rfl
  · obtain ⟨pn, L, l, ns, b, rfl, hp, hl, hne, gd, k⟩ := h
    have r1 : Room 1 _ := hr.mono (by decide)
    refine ⟨_, pss_cons (ps_par (i := 2) (j := 3) (by rfl) sc_law_near.nd rfl rfl (by decide) rfl rfl (pa_cons (pe_cl (ok_draw T) r1 (by rfl) T.mg_law_draw T.kp_law_draw pass0 (pa_cons (pv 0) (pa_cons pe_int pa_nil)))
          (pa_cons (pe_cl (ok_draw T) r1 (by rfl) T.mg_law_draw T.kp_law_draw pass0 (pa_cons (pv 0) (pa_cons (pe_op op_add (pe_callB call_len_seq (by rfl) T.z_len PySem.boot_len (pa_cons (pv 1) pa_nil)) pe_int) pa_nil))) pa_nil)) (by rfl))
      (pss_cons (ps_if (pt_cmpR op_eq (pv 2) pe_int (nomark _)) (pss_one (ps_ret (pe_callTy call_list_of (by rfl) T.z_list (by decide +kernel) (pa_cons (pv 1) pa_nil)))) pss_nil)
      (pss_cons (ps_if (pt_cmpR op_eq (pv 2) pe_int (nomark _)) (pss_one (ps_ret (pe_slice sl_list (pv 1) po_none (po_some (pv 3))))) pss_nil)
      (pss_cons (ps_if (pt_cmpR op_eq (pv 2) pe_int (nomark _)) (pss_one (ps_ret (pe_slice sl_list (pe_op op_cat (pv 1) (pe_cl (ok_lnames T) hr (by rfl) T.mg_law_names T.kp_law_names pass0 (pa_cons (pv 0) pa_nil))) po_none (po_some pe_int)))) pss_nil)
      (pss_cons (ps_if (pt_cmpR op_eq (pv 2) pe_int (nomark _)) (pss_one (ps_ret (pe_slice sl_list (pe_op op_cat (pe_op op_cat (pe_slice sl_list (pv 1) po_none (po_some (pv 3))) (pe_lst (pa_cons pe_str pa_nil))) (pe_slice sl_list (pv 1) (po_some (pe_op op_add (pv 3) pe_int)) po_none)) po_none (po_some pe_int)))) pss_nil)
      (pss_cons (ps_if (pt_cmpR op_eq (pv 2) pe_int (nomark _)) (pss_one (ps_ret (pe_slice sl_list (pe_op op_cat (pe_op op_cat (pe_slice sl_list (pv 1) po_none (po_some (pv 3))) (pe_lst (pa_cons pe_str pa_nil))) (pe_slice sl_list (pv 1) (po_some (pv 3)) po_none)) po_none (po_some pe_int)))) pss_nil)
      (pss_one (ps_ret (pe_cl (ok_lnames T) hr (by rfl) T.mg_law_names T.kp_law_names pass0 (pa_cons (pv 0) pa_nil))))))))), ?_⟩
    obtain ⟨xs0, hp0⟩ := hp.lst
    refine ⟨_, rfl, pn, L, 6, b + 10, rfl, hp, by decide, by decide, fun d H1 hd e1 pen1 => ?_⟩
    have hl1 := e1 _ _ hne hl
    have h8 := gd.1
    refine ⟨_, rfl, _, rfl, l, _, rfl, .inl (SqL.of hl1), _, _, rfl, rfl, pn, L, _, b + 9, rfl, pen1, by rw [List.length_map]; omega, by rw [List.length_map]; omega, fun sp H2 hsp e2 pen2 => ⟨_, _, rfl, ?_⟩⟩
    have hl2 := e2 _ _ hne hl1
    have e02 := e1.trans e2
    obtain ⟨xs2, hp2⟩ := pen2.lst
    have fin : ∀ r (ms : List Str) H', Same H2 H' → H2 r = none → H' r = some (.lst (ms.map V.str)) → Good ms → Q (.ref r) H' := fun r ms H' s hr hr' g' => k r ms H' (e02.trans (Sam.of s)) ((pen2.same s).less (by omega)) (sam_free e02 hp0 ⟨_, hp2⟩ hr) hr' g'
    have step : ∀ {j : Int} {a b : Prop}, (decide (V.int d = V.int j) = true → a) → b → if decide (V.int d = V.int j) = true then a else b := fun {j a b} h1 h2 => by
      by_cases h : decide (V.int d = V.int j) = true
      · rw [if_pos h]; exact h1 h
      · rw [if_neg h]; exact h2
    refine ⟨_, rfl, rfl, _, rfl, step (fun _ => ?_) ?_⟩
    · exact ⟨_, rfl, l, _, rfl, .inl (SqL.of hl2), fun r hr => fin r ns _ (Same.new hr) hr upd_same gd⟩
    refine ⟨_, rfl, rfl, _, rfl, step (fun _ => ?_) ?_⟩
    · obtain ⟨ms, em, hm1, hm2⟩ := cut_strs ns none (some (sp : Int))
      refine ⟨_, rfl, _, rfl, _, rfl, l, _, rfl, SqL.of hl2, fun r hr => fin r ms _ (Same.new hr) hr (by rw [upd_same, em]) ⟨by omega, fun n hn => gd.2 n (hm1 n hn)⟩⟩
    refine ⟨_, rfl, rfl, _, rfl, step (fun _ => ?_) ?_⟩
    · refine ⟨_, rfl, _, rfl, pn, L, b, rfl, pen2, fun l2 ms H3 e3 pen3 hl20 hl23 hlen hms => ?_⟩
      refine ⟨l, l2, _, _, rfl, rfl, e3 _ _ hne hl2, hl23, by rw [List.length_map, List.length_map]; exact sz (by omega), fun q hq => ⟨_, rfl, q, _, rfl, SqL.of upd_same, fun r hr => ?_⟩⟩
      have s4 := (Same.new (o := .lst (ns.map V.str ++ ms.map V.str)) hq).trans (Same.new (o := .lst (cutV (ns.map V.str ++ ms.map V.str) none (some 8))) hr)
      obtain ⟨xs3, hp3⟩ := pen3.lst
      have e03 := e02.trans e3
      refine k r ((ns ++ ms).take 8) _ (e03.trans (Sam.of s4)) (pen3.same s4) (sam_free e03 hp0 ⟨_, hp3⟩ ((Same.new hq).free hr)) ?_ ⟨by rw [List.length_take]; omega, fun n hn => ?_⟩
      · rw [upd_same, ← List.map_append, show (8 : Int) = ((8 : Nat) : Int) from rfl, cut_take, List.map_take]
      · exact Nms.app gd.2 hms n (List.mem_of_mem_take hn)
    obtain ⟨m1, em1, hm1, hm1l⟩ := cut_strs ns none (some (sp : Int))
    have last : ∀ (c : Str) (lo : Option Int) {Hq : Hp} {q3 r : Addr}, isNm c = true → Same H2 Hq → Hq q3 = none → (upd Hq q3 (.lst ((cutV (ns.map V.str) none (some (sp : Int)) ++ [V.str c]) ++ cutV (ns.map V.str) lo none))) r = none →
        Q (.ref r) (upd (upd Hq q3 (.lst ((cutV (ns.map V.str) none (some (sp : Int)) ++ [V.str c]) ++ cutV (ns.map V.str) lo none))) r (.lst (cutV ((cutV (ns.map V.str) none (some (sp : Int)) ++ [V.str c]) ++ cutV (ns.map V.str) lo none) none (some 8)))) := fun c lo Hq q3 r hc s3 h3 hr => by
      obtain ⟨m2, em2, hm2, hm2l⟩ := cut_strs ns lo none
      have s4 := (s3.trans (Same.new (o := .lst ((cutV (ns.map V.str) none (some (sp : Int)) ++ [V.str c]) ++ cutV (ns.map V.str) lo none)) h3)).trans (Same.new (o := .lst (cutV ((cutV (ns.map V.str) none (some (sp : Int)) ++ [V.str c]) ++ cutV (ns.map V.str) lo none) none (some 8))) hr)
      refine fin r ((m1 ++ [c] ++ m2).take 8) _ s4 ((s3.trans (Same.new h3)).free hr) ?_ ⟨by rw [List.length_take]; omega, fun n hn => ?_⟩
      · rw [upd_same, em1, em2, show [V.str c] = [c].map V.str from rfl, ← List.map_append, ← List.map_append, show (8 : Int) = ((8 : Nat) : Int) from rfl, cut_take, List.map_take]
      · have hn := List.mem_of_mem_take hn
        rcases List.mem_append.mp hn with hn | hn
        · rcases List.mem_append.mp hn with hn | hn
          · exact gd.2 n (hm1 n hn)
          · rw [List.mem_singleton.mp hn]; exact hc
        · exact gd.2 n (hm2 n hn)
    have l8 : ∀ lo hi, (cutV (ns.map V.str) lo hi).length ≤ 8 := fun lo hi => by
      have := cutV_length (ns.map V.str) lo hi
      rw [List.length_map] at this
      omega
    refine ⟨_, rfl, rfl, _, rfl, step (fun _ => ?_) ?_⟩
    · refine ⟨_, rfl, _, rfl, _, rfl, l, _, rfl, SqL.of hl2, fun u1 hu1 => ⟨sz (by show 1 ≤ 1000000; omega), fun q1 hq1 => ?_⟩⟩
      have a1 := Same.new (o := .lst (cutV (ns.map V.str) none (some (sp : Int)))) hu1
      have a2 := Same.new (o := .lst [V.str "b"]) hq1
      refine ⟨u1, q1, _, _, rfl, rfl, a2 _ _ upd_same, upd_same, by have := l8 none (some (sp : Int)); simp only [List.length_cons, List.length_nil]; exact sz (by omega), fun q2 hq2 => ?_⟩
      have a3 := Same.new (o := .lst (cutV (ns.map V.str) none (some (sp : Int)) ++ [V.str "b"])) hq2
      refine ⟨_, rfl, _, rfl, _, _, rfl, rfl, _, rfl, l, _, rfl, SqL.of (a3 _ _ (a2 _ _ (a1 _ _ hl2))), fun u2 hu2 => ?_⟩
      have a4 := Same.new (o := .lst (cutV (ns.map V.str) (some ((sp : Int) + 1)) none)) hu2
      refine ⟨q2, u2, _, _, rfl, rfl, a4 _ _ upd_same, upd_same, by have h1 := l8 none (some (sp : Int)); have h2 := l8 (some ((sp : Int) + 1)) none; simp only [List.length_append, List.length_cons, List.length_nil]; exact sz (by omega), fun q3 hq3 => ⟨_, rfl, q3, _, rfl, SqL.of upd_same, fun r hr => ?_⟩⟩
      exact last "b" _ (by decide +kernel) (((a1.trans a2).trans a3).trans a4) hq3 hr
    refine ⟨_, rfl, rfl, _, rfl, step (fun _ => ?_) ?_⟩
    · refine ⟨_, rfl, _, rfl, _, rfl, l, _, rfl, SqL.of hl2, fun u1 hu1 => ⟨sz (by show 1 ≤ 1000000; omega), fun q1 hq1 => ?_⟩⟩
      have a1 := Same.new (o := .lst (cutV (ns.map V.str) none (some (sp : Int)))) hu1
      have a2 := Same.new (o := .lst [V.str "a"]) hq1
      refine ⟨u1, q1, _, _, rfl, rfl, a2 _ _ upd_same, upd_same, by have := l8 none (some (sp : Int)); simp only [List.length_cons, List.length_nil]; exact sz (by omega), fun q2 hq2 => ?_⟩
      have a3 := Same.new (o := .lst (cutV (ns.map V.str) none (some (sp : Int)) ++ [V.str "a"])) hq2
      refine ⟨_, rfl, _, rfl, _, rfl, l, _, rfl, SqL.of (a3 _ _ (a2 _ _ (a1 _ _ hl2))), fun u2 hu2 => ?_⟩
      have a4 := Same.new (o := .lst (cutV (ns.map V.str) (some (sp : Int)) none)) hu2
      refine ⟨q2, u2, _, _, rfl, rfl, a4 _ _ upd_same, upd_same, by have h1 := l8 none (some (sp : Int)); have h2 := l8 (some (sp : Int)) none; simp only [List.length_append, List.length_cons, List.length_nil]; exact sz (by omega), fun q3 hq3 => ⟨_, rfl, q3, _, rfl, SqL.of upd_same, fun r hr => ?_⟩⟩
      exact last "a" _ (by decide +kernel) (((a1.trans a2).trans a3).trans a4) hq3 hr
    exact ⟨_, rfl, pn, L, b, rfl, pen2, fun l2 ms H3 e3 pen3 hl20 hl23 hlen hms => k l2 ms H3 (e02.trans e3) pen3 (sam_free e02 hp0 ⟨_, hp2⟩ hl20) hl23 ⟨hlen, hms⟩⟩
end
end NK

namespace NK
open PySem PySem.Spec PyProof.Rows L2 NA TL
section
variable {P : Program} {w : World} {K : PySem.W.Frag} {mg : Str → Option Value} {base : Heap} {A : Ad}
theorem Tx.addS (T : Tx P K mg A) : Spc K A.c_Place "__add__" A.f_Place_add := ⟨T.at_Place_add, T.fn_Place_add⟩
theorem Tx.andS (T : Tx P K mg A) : Spc K A.c_Place "__and__" A.f_Place_and := ⟨T.at_Place_and, T.fn_Place_and⟩
theorem Tx.inS (T : Tx P K mg A) : Spc K A.c_Place "__contains__" A.f_Place_contains := ⟨T.at_Place_contains, T.fn_Place_contains⟩
theorem Tx.addF (T : Tx P K mg A) : BinF K A.c_Place "add" := by
  refine ⟨⟨_, T.ra_Place, .inl rfl⟩, fun S h => ?_, fun S h => ?_⟩ <;> simp only [kinds, List.mem_cons, List.not_mem_nil, or_false] at h
  · rcases h with rfl | rfl | rfl | rfl | rfl | rfl | rfl
    · exact T.badd_NoneType
    · exact T.badd_bool
    · exact T.badd_int
    · exact T.badd_str
    · exact T.badd_list
    · exact T.badd_tuple
    · exact T.badd_dict
  · rcases h with rfl | rfl | rfl | rfl | rfl | rfl | rfl
    · exact T.bradd_NoneType
    · exact T.bradd_bool
    · exact T.bradd_int
    · exact T.bradd_str
    · exact T.bradd_list
    · exact T.bradd_tuple
    · exact T.bradd_dict
theorem Tx.andF (T : Tx P K mg A) : BinF K A.c_Place "and" := by
  refine ⟨⟨_, T.rn_Place, .inl rfl⟩, fun S h => ?_, fun S h => ?_⟩ <;> simp only [kinds, List.mem_cons, List.not_mem_nil, or_false] at h
  · rcases h with rfl | rfl | rfl | rfl | rfl | rfl | rfl
    · exact T.band_NoneType
    · exact T.band_bool
    · exact T.band_int
    · exact T.band_str
    · exact T.band_list
    · exact T.band_tuple
    · exact T.band_dict
  · rcases h with rfl | rfl | rfl | rfl | rfl | rfl | rfl
    · exact T.brand_NoneType
    · exact T.brand_bool
    · exact T.brand_int
    · exact T.brand_str
    · exact T.brand_list
    · exact T.brand_tuple
    · exact T.brand_dict
theorem Tx.apart (T : Tx P K mg A) : Apart K A.c_Place := by
  refine ⟨fun S h => ?_, fun S h => ?_⟩ <;> simp only [kinds, List.mem_cons, List.not_mem_nil, or_false] at h
  · rcases h with rfl | rfl | rfl | rfl | rfl | rfl | rfl
    · exact T.dnNoneType_Place
    · exact T.dnbool_Place
    · exact T.dnint_Place
    · exact T.sustr_Place
    · exact T.dnlist_Place
    · exact T.dntuple_Place
    · exact T.dndict_Place
  · rcases h with rfl | rfl | rfl | rfl | rfl | rfl | rfl
    · exact T.suNoneType_Place
    · exact T.subool_Place
    · exact T.suint_Place
    · exact T.su_Place
    · exact T.sulist_Place
    · exact T.sutuple_Place
    · exact T.sudict_Place
theorem v_mk0 {H : Hp} {Q : VK} {E : XK} {σ : L2.St} (k : RetP A H [] Q) : StX.tMakeR A.c_Place (sp_init A) E tNil σ H Q := mk_pl (ns := []) good_nil k
theorem v_addN {H : Hp} {a : Addr} {ns : List Str} {n : Str} {Q : VK} {E : XK} (h : Pl A H a ns) (hn : isNm n = true) (hl : ns.length < 8) (k : RetP A H (ns ++ [n]) Q) : rBinK A.c_Place (sp_addX A K) E (.ref a) (.str n) H Q := by
  obtain ⟨dx, fs, e⟩ := h.ins
  exact ⟨a, dx, fs, _, rfl, e, .str n, a, .str n, ns, rfl, h, .inl ⟨n, rfl, hn, fun _ => k, fun e => by omega⟩⟩
/-- the place of a list of names -/
def sp_made (A : Ad) (K : PySem.W.Frag) : Sp := fun vs H Q _ => ∃ (l : Addr) (ns : List Str), vs = [.ref l] ∧ H l = some (.lst (ns.map V.str)) ∧ Good ns ∧ RetP A H ns Q
theorem ok_made (T : Tx P K mg A) : FnR P w K mg base CX0 5 A.f_law_made (sp_made A K) := by
  refine fnr T.F_law_made sc_law_made (fun _ _ _ _ _ _ us hl => match us, hl with | [_], _ => rfl) (fun vs H Q E h => ?_) (fun cdv A' outer s H vs Q E hr h => ?_)
  · obtain ⟨l, ns, rfl, _⟩ := h; rfl
  · obtain ⟨l, ns, rfl, hl, g, k⟩ := h
    refine ⟨_, pss_cons (ps_set (i := 1) sc_law_made.nd rfl (.inl rfl) (pe_mk0 T.mkP (ok_init T) (hr.mono (by decide)) (by rfl) T.mg_Place pass0))
      (pss_cons (ps_for PassesOwn.never rfl (pi_list (pv 0)) (pg_name (i := 2) sc_law_made.nd rfl (.inl rfl))
        (pss_one (ps_set (i := 1) sc_law_made.nd rfl (.inl rfl) (pe_op (op_binK T.addS T.addF T.apart T.sf_Place (ok_addX T) hr passF) (pv 1) (pv 2)))))
      (pss_one (ps_ret (pv 1)))), ?_⟩
    refine q_set (v_mk0 fun x H2 hx s2 p2 => ?_)
    refine ⟨_, rfl, l, rfl, ⟨_, SqL.of (s2 _ _ hl)⟩, for_list (K := K) (a := l) (xs := ns.map V.str) (fun i σ H' => ∃ x sv, σ = [some (.ref l), some (.ref x), sv] ∧ Same H H' ∧ H x = none ∧ Pl A H' x (ns.take i)) ?_ (fun i σ H' _ h => ?_) (fun i y σ H' hy h => ?_) (fun σ H' h => ?_)⟩
    · exact ⟨x, none, rfl, s2, hx, p2⟩
    · obtain ⟨_, _, _, e, _⟩ := h; exact SqL.of (e _ _ hl)
    · obtain ⟨x, sv, rfl, e3, hx3, px⟩ := h
      rw [List.getElem?_map] at hy
      obtain ⟨n, hn, rfl⟩ := Option.map_eq_some_iff.mp hy
      have hi := (List.getElem?_eq_some_iff.mp hn).1
      have h8 := g.1
      have hnm : isNm n = true := g.2 n (List.mem_of_getElem? hn)
      refine ⟨_, rfl, _, rfl, v_addN px hnm (by rw [List.length_take]; omega) fun y H4 hy s4 p4 => ?_⟩
      rw [show ns.take i ++ [n] = ns.take (i + 1) by rw [List.take_add_one, hn]; rfl] at p4
      exact ⟨y, _, rfl, e3.trans s4, e3.free hy, p4⟩
    · obtain ⟨x, sv, rfl, e3, hx3, px⟩ := h
      rw [List.length_map, List.take_length] at px
      exact ⟨_, rfl, k x H' hx3 e3 px⟩
theorem com_prefix : ∀ {ns ms : List Str} {j : Nat}, j ≤ ns.length → j ≤ ms.length → ns.take j = ms.take j → (j = ns.length ∨ j = ms.length ∨ ns[j]? ≠ ms[j]?) → com ns ms = ns.take j
  | [], ms, j, h1, _, _, _ => by
    have : j = 0 := by simpa using h1
    subst this; simp [com]
  | a :: as, [], j, _, h2, _, _ => by
    have : j = 0 := by simpa using h2
    subst this; simp [com]
  | a :: as, b :: bs, 0, _, _, _, h => by
    have : a ≠ b := by
      rcases h with h | h | h
      · simp at h
      · simp at h
      · intro e; exact h (by simp [e])
    simp [com, this]
  | a :: as, b :: bs, j + 1, h1, h2, he, h => by
    have e0 : a = b ∧ as.take j = bs.take j := by simpa using he
    obtain ⟨rfl, e1⟩ := e0
    have ih := com_prefix (ns := as) (ms := bs) (j := j) (by simpa using h1) (by simpa using h2) e1 (by simpa using h)
    simp [com, ih]
def sp_common : Sp := fun vs H Q _ => ∃ (l m : Addr) (ns ms : List Str), vs = [.ref l, .ref m] ∧ H l = some (.lst (ns.map V.str)) ∧ H m = some (.lst (ms.map V.str)) ∧ Good ns ∧ Good ms ∧ ∀ t H', Same H H' → H' t = some (.tup ((com ns ms).map V.str)) → Q (.ref t) H'
theorem ok_common (T : Tx P K mg A) : FnR P w K mg base CX0 1 A.f_law_common sp_common := by
  refine fnr T.F_law_common sc_law_common (fun _ _ _ _ _ _ us hl => match us, hl with | [_, _], _ => rfl) (fun vs H Q E h => ?_) (fun cdv A' outer s H vs Q E hr h => ?_)
  · obtain ⟨l, m, ns, ms, rfl, _⟩ := h; rfl
  · obtain ⟨l, m, ns, ms, rfl, hl, hm, g1, g2, k⟩ := h
    refine ⟨_, pss_cons (ps_set (i := 2) sc_law_common.nd rfl (.inl rfl) (pe_lst pa_nil))
      (pss_cons (ps_for PassesOwn.never rfl (pi_zip (by rfl) T.z_zip (pa_cons (pv 0) (pa_cons (pv 1) pa_nil))) (pg_tup rfl (pgs_cons (pg_name (i := 3) sc_law_common.nd rfl (.inl rfl)) (pgs_cons (pg_name (i := 4) sc_law_common.nd rfl (.inl rfl)) pgs_nil)))
        (pss_cons (ps_if (pt_cmpR op_ne (pv 3) (pv 4) (nomark _)) (pss_one (ps_ret (pe_callTy call_tuple_of (by rfl) T.z_tuple (by decide +kernel) (pa_cons (pv 2) pa_nil)))) pss_nil)
        (pss_one (ps_expr (pe_bm PySem.F.plainAttrs_list PySem.F.slot_list_append PySem.F.type_list_append mt_append (pv 2) (pa_cons (pv 3) pa_nil))))))
      (pss_one (ps_ret (pe_callTy call_tuple_of (by rfl) T.z_tuple (by decide +kernel) (pa_cons (pv 2) pa_nil))))), ?_⟩
    refine ⟨sz (by show 0 ≤ 1000000; omega), fun D hD => ?_⟩
    have s1 := Same.new (o := .lst []) hD
    have h8 := g1.1
    refine ⟨_, rfl, _, rfl, l, m, _, _, rfl, SqL.of (s1 _ _ hl), SqL.of (s1 _ _ hm), for_it (walk_zip (K := K) (a := l) (b := m) (xs := ns.map V.str) (ys := ms.map V.str) (n := min ns.length ms.length) (by rw [List.length_map, List.length_map])) (fun j σ H' => ∃ v3 v4, σ = [some (.ref l), some (.ref m), some (.ref D), v3, v4] ∧ Same H H' ∧ H' D = some (.lst ((ns.take j).map V.str)) ∧ ns.take j = ms.take j) ?_ (fun j σ H' _ h => ?_) (fun j v σ H' H2 hj h hy => ?_) (fun σ H' h => ?_)⟩
    · exact ⟨_, _, rfl, s1, upd_same, by simp⟩
    · obtain ⟨_, _, _, e, _⟩ := h
      exact ⟨SqL.of (e _ _ hl), SqL.of (e _ _ hm)⟩
    · obtain ⟨v3, v4, rfl, e3, hD3, ht⟩ := h
      obtain ⟨Tt, x, y, rfl, hT, rfl, hx, hy⟩ := hy
      have hx : (ns.map V.str)[j]? = some x := hx
      have hy : (ms.map V.str)[j]? = some y := hy
      rw [List.getElem?_map] at hx hy
      obtain ⟨n, hn, rfl⟩ := Option.map_eq_some_iff.mp hx
      obtain ⟨n', hn', rfl⟩ := Option.map_eq_some_iff.mp hy
      have s4 := Same.new (o := .tup [V.str n, V.str n']) hT
      refine ⟨Tt, _, rfl, SqT.of upd_same, rfl, _, _, rfl, _, _, rfl, rfl, ?_⟩
      refine ⟨_, rfl, _, rfl, rfl, _, rfl, ?_⟩
      have hD4 := s4 _ _ hD3
      have lj : (ns.take j).length ≤ 8 := by rw [List.length_take]; omega
      by_cases e : n = n'
      · subst e
        refine iteF' (by simp) ?_
        refine ⟨_, rfl, .inl ⟨rfl, _, SqL.of hD4⟩, _, rfl, D, _, _, rfl, rfl, hD4, by rw [List.length_map]; exact szl (by omega), ?_⟩
        refine ⟨_, _, rfl, Same.mut (e3.trans s4) hD, ?_, ?_⟩
        · rw [upd_same, List.take_add_one, hn, List.map_append]; rfl
        · rw [List.take_add_one, List.take_add_one, hn, hn', ht]
      · refine iteT' (by
          have : V.str n ≠ V.str n' := fun z => e (by injection z)
          simp [this]) ?_
        refine ⟨_, rfl, D, _, rfl, .inl ⟨SqL.of hD4, fun t htn => ?_⟩⟩
        have hc : com ns ms = ns.take j := com_prefix (by have := (List.getElem?_eq_some_iff.mp hn).1; omega) (by have := (List.getElem?_eq_some_iff.mp hn').1; omega) ht (.inr (.inr (by rw [hn, hn']; exact fun z => e (Option.some.inj z))))
        exact k t _ ((e3.trans s4).trans (Same.new htn)) (by rw [upd_same, hc])
    · obtain ⟨v3, v4, rfl, e3, hD3, ht⟩ := h
      refine ⟨_, rfl, D, _, rfl, .inl ⟨SqL.of hD3, fun t htn => ?_⟩⟩
      have hc : com ns ms = ns.take (min ns.length ms.length) := com_prefix (by omega) (by omega) ht (by omega)
      exact k t _ (e3.trans (Same.new htn)) (by rw [upd_same, hc])
end
end NK

namespace NK
open PySem PySem.Spec PyProof.Rows L2 NA TL
section
variable {P : Program} {w : World} {K : PySem.W.Frag} {mg : Str → Option Value} {base : Heap} {A : Ad}
theorem Tx.strS (T : Tx P K mg A) : Spc K A.c_Place "__str__" A.f_Place_str := ⟨T.at_Place_str, T.fn_Place_str⟩
theorem Tx.reprS (T : Tx P K mg A) : Spc K A.c_Place "__repr__" A.f_Place_repr := ⟨T.at_Place_repr, T.fn_Place_repr⟩
def sp_str (A : Ad) : Sp := fun vs H Q _ => ∃ a ns, vs = [.ref a] ∧ Pl A H a ns ∧ Q (.str (txt ns)) H
theorem ok_str (T : Tx P K mg A) : FnR P w K mg base CX0 1 A.f_Place_str (sp_str A) := by
  refine fnr T.F_Place_str sc_Place_str (fun _ _ _ _ _ _ us hl => match us, hl with | [_], _ => rfl) (fun vs H Q E h => ?_) (fun cdv A' outer s H vs Q E hr h => ?_)
  · obtain ⟨a, ns, rfl, _⟩ := h; rfl
  · obtain ⟨a, ns, rfl, ⟨g, dx, t, h1, h2⟩, k⟩ := h
    refine ⟨_, pss_one (ps_ret (pe_joined (.cons pe_str (.cons (pe_fmt (pe_join pe_str (pe_fld (pv 0) rfl))) .nil)))), ?_⟩
    have h3 := sum_len g.len8
    have h4 := g.1
    have h5 := join_len g
    have e0 : Str.empty ++ ("/" : Str) = "/" := by decide +kernel
    refine ⟨_, rfl, sz (by rw [e0, slash_len]; omega), ⟨_, rfl⟩, _, rfl, a, _, dx, _, _, rfl, h1, T.cl, T.np, lkp t, _, t, ns, rfl, rfl, .inr (SqT.of h2), by rw [slash_len]; omega, .inl ⟨_, rfl, sz (by omega), _, rfl, ?_, ?_⟩⟩
    · rw [e0, strLen_append, slash_len]
      exact sz (by omega)
    · rw [e0]
      exact k
def sp_repr (A : Ad) : Sp := fun vs H Q _ => ∃ a ns, vs = [.ref a] ∧ Pl A H a ns ∧ Q (.str ("Place(" ++ reprText (txt ns) ++ ")")) H
theorem joinL_mem : ∀ {ps : List (List Nat)} {c : Nat}, c ∈ joinL [47] ps → c = 47 ∨ ∃ p ∈ ps, c ∈ p
  | [], c, h => by simp [joinL] at h
  | [p], c, h => by
    rw [show joinL [47] [p] = p from by simp [joinL]] at h
    exact .inr ⟨p, by simp, h⟩
  | p :: q :: r, c, h => by
    rw [show joinL [47] (p :: q :: r) = p ++ 47 :: joinL [47] (q :: r) from by simp [joinL]] at h
    rcases List.mem_append.mp h with h | h
    · exact .inr ⟨p, by simp, h⟩
    · rcases List.mem_cons.mp h with h | h
      · exact .inl h
      · rcases joinL_mem h with h | ⟨z, hz, h⟩
        · exact .inl h
        · exact .inr ⟨z, List.mem_cons_of_mem _ hz, h⟩
theorem rt_len {ns : List Str} (g : Good ns) : (reprText (txt ns)).length ≤ 1000 := by
  have h1 := PySem.StrLaws.reprText_len (txt ns) fun c hc => by
    have hc : c ∈ tl (txt ns) := hc
    rw [txt_tl] at hc
    have sg : ∀ c ∈ tl sgn, c < 16 ^ 8 := by rw [sgn_tl]; decide
    rcases List.mem_cons.mp hc with rfl | hc
    · decide
    · rcases joinL_mem hc with rfl | ⟨p, hp, hc⟩
      · decide
      · obtain ⟨n, hn, rfl⟩ := List.mem_map.mp hp
        exact sg c ((isNm_iff.mp (g.2 n hn)).2.2 c hc)
  have h2 := txt_len g
  omega
theorem ok_repr (T : Tx P K mg A) : FnR P w K mg base CX0 3 A.f_Place_repr (sp_repr A) := by
  refine fnr T.F_Place_repr sc_Place_repr (fun _ _ _ _ _ _ us hl => match us, hl with | [_], _ => rfl) (fun vs H Q E h => ?_) (fun cdv A' outer s H vs Q E hr h => ?_)
  · obtain ⟨a, ns, rfl, _⟩ := h; rfl
  · obtain ⟨a, ns, rfl, pa, k⟩ := h
    refine ⟨_, pss_one (ps_ret (pe_joined (.cons pe_str (.cons (pe_fmtR (pe_callTy (call_strC T.strS (ok_str T) hr pass0) (by rfl) T.z_str (by decide +kernel) (pa_cons (pv 0) pa_nil))) (.cons pe_str .nil))))), ?_⟩
    obtain ⟨dx, fs, e⟩ := pa.ins
    have hl := rt_len pa.good
    have e0 : Str.empty ++ ("Place(" : Str) = "Place(" := by decide +kernel
    have e1 : ("Place(" : Str).length = 6 := by decide +kernel
    have e2 : (")" : Str).length = 1 := by decide +kernel
    refine ⟨_, rfl, sz (by rw [e0, e1]; omega), _, rfl, a, dx, fs, rfl, e, a, ns, rfl, pa, _, rfl, .inl ⟨_, rfl, sz (by omega), _, rfl, ?_, _, rfl, ?_, ?_⟩⟩
    · rw [e0, strLen_append, e1]; exact sz (by omega)
    · rw [e0, strLen_append, strLen_append, e1, e2]; exact sz (by omega)
    · rw [e0]; exact k
end
end NK

namespace NK
open PySem PySem.Spec PyProof.Rows L2 NA TL LamX
theorem com_comm : ∀ ns ms : List Str, com ns ms = com ms ns
  | [], [] => rfl
  | [], _ :: _ => rfl
  | _ :: _, [] => rfl
  | a :: as, b :: bs => by
    unfold com
    by_cases e : a = b
    · subst e; rw [if_pos rfl, if_pos rfl, com_comm as bs]
    · rw [if_neg e, if_neg (Ne.symm e)]
theorem tabs_mut {T : List (Addr × Str)} {H H' : Hp} {l : Addr} {xs : List V} (hl : H l = some (.lst xs)) (e : Sam l H H') (t : Tabs T H) : Tabs T H' := fun p hp => by
  obtain ⟨ps, h1, h2, h3⟩ := t p hp
  have ne : ∀ {b : Addr} {o : HO}, H b = some o → (∀ xs, o ≠ .lst xs) → b ≠ l := fun {b o} h n z => by
    rw [z, hl] at h
    exact n xs (Option.some.inj h).symm
  refine ⟨ps, e _ _ (ne h1 fun _ z => nomatch z) h1, h2, fun pos cv hc => ?_⟩
  obtain ⟨c, e1, e2⟩ := h3 pos cv hc
  exact ⟨c, e1, e _ _ (ne e2 fun _ z => nomatch z) e2⟩
theorem Pen.extN {L : Addr} {H H' : Hp} {pn : Addr} {b : Nat} (h : Pen L H pn b) (e : ExtN H H') : Pen L H' pn b := by
  obtain ⟨ns, a, r, h1, h2, h3⟩ := h
  exact ⟨ns, a, r, e _ _ h1 (fun _ z => nomatch z), e _ _ h2 (fun _ z => nomatch z), h3⟩
/-- all but the object at p and the tables is as it was -/
def ExtM (p : Addr) (H H' : Hp) : Prop := ∀ b o, b ≠ p → H b = some o → (∀ ps, o ≠ .tbl ps) → H' b = some o
theorem ExtM.sam {p : Addr} {H H' : Hp} (e : Sam p H H') : ExtM p H H' := fun b o n h _ => e b o n h
theorem ExtM.ext {p : Addr} {H H' : Hp} (e : ExtN H H') : ExtM p H H' := fun b o _ h n => e b o h n
theorem ExtM.trans {p : Addr} {H H1 H2 : Hp} (a : ExtM p H H1) (b : ExtM p H1 H2) : ExtM p H H2 := fun c o n h m => b c o n (a c o n h m) m
theorem eqv_strsL (ns ms : List Str) : PyData.eqv (.list (ns.map PyData.str)) (.list (ms.map PyData.str)) = decide (ns = ms) := by
  rw [PyData.eqv, eqvAll_strs]
theorem shaped_strsL {ns : List Str} (h : Oks ns) : SeqAt.shaped (.list (ns.map PyData.str)) = true := by
  unfold SeqAt.shaped
  have := depth_strs ns
  rw [Bool.and_eq_true]
  exact ⟨by rw [PyData.canLay0]; exact canLay_strs ns h, decide_eq_true (by rw [PyData.depth]; omega)⟩
theorem c_eqLs {K : PySem.W.Frag} {H : Hp} {p q : Addr} {ns ms : List Str} {Q : VK} (o1 : Oks ns) (o2 : Oks ms) (hp : SqL K H p (ns.map V.str)) (hq : SqL K H q (ms.map V.str)) (k : Q (.bl (decide (ns = ms))) H) : rEqD K (.ref p) (.ref q) H Q :=
  ⟨_, _, .lst hp (dp_strs ns), .lst hq (dp_strs ms), shaped_strsL o1, shaped_strsL o2, by rw [eqv_strsL]; exact k⟩
section
variable {P : Program} {w : World} {K : PySem.W.Frag} {mg : Str → Option Value} {base : Heap} {A : Ad}
theorem Pl.extN {H H' : Hp} {a : Addr} {ns : List Str} (h : Pl A H a ns) (e : ExtN H H') : Pl A H' a ns := by
  obtain ⟨g, dx, t, h1, h2⟩ := h
  exact ⟨g, dx, t, e _ _ h1 (fun _ z => nomatch z), e _ _ h2 (fun _ z => nomatch z)⟩
abbrev Tb (A : Ad) : List (Addr × Str) := [(A.t_law_pair_right, "_law_pair_right.<locals>.<lambda>"), (A.t_law_refused_right, "_law_refused_right.<locals>.<lambda>")]
theorem passLam {X : Cx} {A' : Around} {outer : List Env} {s : Shared} {H : Hp} {E : XK} {scope : Scope} {f c' : Addr} : Passes (L2.CX X.prog X.w) (LamX.lamCx X A' outer s H E scope f c') E :=
  passes_call (X := LamX.lamCx X A' outer s H E scope f c') (W := fun cls d _ H => E cls d H) (takes_of rfl rfl rfl rfl) (fun _ _ _ _ h => h)
theorem pe_heard {X : Cx} {k : Nat} {c Pt : Addr} {params : Arguments} {body : Expr} {scope : Scope} {t : XK → TE} {p lpos pos : Pos} (T : Tx X.prog X.K X.mg A) (hg : Gl X "_law_heard") (TB : LamX.TabB X.base X.mg c Pt) (hcode : X.env.code = .ref c) (hmT : (Pt, X.env.qual ++ "<lambda>") ∈ Tb A)
    (hu : ∀ p ∈ Tb A, p.1 = Pt → p.2 = X.env.qual ++ "<lambda>") (hr : Room (k + 2) X.A) (hk : 2 ≤ k) (L : LamX.LamS X.env.scope scope) (hdef : defaultsOf params X.env = ([], []))
    (hbind : ∀ (q : Str) (cl : List (Str × Addr)) (pm cv ctv : Value), bindArgs (PySem.W.kla_fn "<lambda>" q params body scope cl pm cv ctv) ⟨[], []⟩ = pure [])
    (hbody : ∀ (A : Around) (outer : List Env) (s : Shared) (H : Hp) (E : XK) (f c' : Addr), Room k (A.deeper (LamX.lamEnv X scope s.heap.objs.size f c')) → PE (LamX.lamCx X A outer s H E scope f c') body (t E)) :
    PE X (.Call (.Name "_law_heard" p) [.Lambda params body scope lpos] [] pos) (LamX.tLam (Tb A) (TTh A) t) := by
  obtain ⟨fd, F⟩ := T.F_law_heard
  obtain ⟨oc, od, kV, doc, pm, an, cdv, ct, osl, e, lk, hcd⟩ := id F.ex
  subst e
  have hr2 : Room 2 (X.A.deeper (envOfC "_law_heard" (defScope s_law_heard) 0 0 .none)) := Room.deeper (k := 2) (hr.mono (by omega)) _
  exact LamX.pe_lamcall (Ng := ["_law_ask", "_law_caught", "_law_found", "error", "_law_kinds"]) (k := k) hg T.mg_law_heard T.kp_law_heard lk hcd (.all fun us hl => match us, hl with | [_], _ => rfl) sc_law_heard rfl (.inl rfl) (heard_gives T hr2) TB hcode hmT hu hr L hdef hbind hbody
/-- an ask that gives a place -/
theorem v_heardM {ns : List Str} {t : XK → TE} {σ : L2.St} {H : Hp} {Q : VK} (hT : Tabs (Tb A) H)
    (h : ∀ H1, ExtN H H1 → ∀ (E1 : XK) (Q1 : VK), RetP A H1 ns Q1 → t E1 σ H1 Q1)
    (k : ∀ q u H', ExtN H H' → Tabs (Tb A) H' → (∀ b o, H b = some o → (∀ ps, o ≠ .tbl ps) → b ≠ q) → H' q = some (.tup [.str "made", .ref u]) → H' u = some (.tup (ns.map V.str)) → Q (.ref q) H') : tLam (Tb A) (TTh A) t σ H Q := by
  refine ⟨hT, fun H1 e1 t1 => ?_⟩
  refine ⟨fun _ _ _ => False, fun v H' => ∃ a, v = .ref a ∧ Same H1 H' ∧ Pl A H' a ns, h H1 e1 _ _ (fun a H' _ s1 pa => ⟨a, rfl, s1, pa⟩), ?_, fun _ _ _ z => z.elim⟩
  rintro v H' ⟨a, rfl, s1, pa⟩
  refine ⟨a, ns, rfl, pa, fun u p hu hp => ?_⟩
  have s2 := s1.trans (Same.new (o := .tup [V.str "made", .ref u]) hp)
  exact k p u _ (e1.trans (.of s2)) (t1.ext s2) (fun b o hb hn => ne_of_none (e1 b o hb hn) (s1.free hp)) upd_same (Same.new hp _ _ hu)
/-- an ask that is refused -/
theorem v_heardX {C : Addr} {wd f : Str} {x : V} {t : XK → TE} {σ : L2.St} {H : Hp} {Q : VK} (hk : ErK A C wd f) (hT : Tabs (Tb A) H)
    (h : ∀ H1, ExtN H H1 → ∀ (E1 : XK) (Q1 : VK), ErrV C f H1 x E1 → t E1 σ H1 Q1)
    (k : ∀ q H', ExtN H H' → Tabs (Tb A) H' → (∀ b o, H b = some o → (∀ ps, o ≠ .tbl ps) → b ≠ q) → H' q = some (.tup [.str wd, x]) → Q (.ref q) H') : tLam (Tb A) (TTh A) t σ H Q := by
  refine ⟨hT, fun H1 e1 t1 => ?_⟩
  refine ⟨fun cls d H' => cls = .ref C ∧ ∃ H2 dd, Same H1 H2 ∧ H2 dd = none ∧ d = some dd ∧ H' = upd H2 dd (.xd [(f, x)]), fun _ _ => False, h H1 e1 _ _ (fun H' d s1 hd => ⟨rfl, H', d, s1, hd, rfl, rfl⟩), fun v H' z => z.elim, ?_⟩
  rintro cls d H' ⟨rfl, H2, dd, s1, hd, rfl, rfl⟩
  refine ⟨C, wd, f, dd, x, rfl, hk, rfl, upd_same, fun Hn p sn hp => ?_⟩
  have s2 : Same H1 Hn := (s1.trans (Same.new hd)).trans sn
  have s3 := s2.trans (Same.new (o := .tup [V.str wd, x]) hp)
  exact k p _ (e1.trans (.of s3)) (t1.ext s3) (fun b o hb hn => ne_of_none (e1 b o hb hn) (s2.free hp)) upd_same
theorem Knd.isP (T : Tx P K mg A) {H : Hp} {x : V} {t : String} (h : Knd H x t) : IsP A K H x false := ⟨.type t, h.ty, kit_sub rfl T.ic_Place T.ty_Place (T.apart.up t h.mem)⟩
theorem isP_pl (T : Tx P K mg A) {H : Hp} {a : Addr} {ns : List Str} (p : Pl A H a ns) : IsP A K H (.ref a) true := by
  obtain ⟨dx, fx, ex⟩ := p.ins
  exact ⟨_, T.tyP ex, kit_self⟩
theorem v_andP {H : Hp} {a b : Addr} {ns ms : List Str} {Q : VK} {E : XK} (h : Pl A H a ns) (h' : Pl A H b ms) (k : RetP A H (com ns ms) Q) : rBinC A.c_Place (sp_andX A K) E (.ref a) (.ref b) H Q := by
  obtain ⟨dx, fs, e⟩ := h.ins
  obtain ⟨dy, gs, e'⟩ := h'.ins
  exact ⟨a, dx, fs, b, dy, gs, rfl, rfl, e, e', a, .ref b, ns, rfl, h, .inl ⟨b, ms, rfl, h', k⟩⟩
theorem v_inP {H : Hp} {a b : Addr} {ns ms : List Str} {Q : VK} {E : XK} {neg : Bool} (h : Pl A H a ns) (h' : Pl A H b ms) (k : ∀ H', Same H H' → Q (.bl (if neg then !decide (ms.take ns.length = ns) else decide (ms.take ns.length = ns))) H') : rInC A.c_Place (sp_contains A K) E neg (.ref b) (.ref a) H Q := by
  obtain ⟨dx, fs, e⟩ := h.ins
  exact ⟨a, dx, fs, rfl, e, a, .ref b, ns, rfl, h, .inl ⟨b, ms, rfl, h', fun H' e => ⟨_, rfl, k H' e⟩⟩⟩
theorem v_inT (T : Tx P K mg A) {H : Hp} {a : Addr} {ns ms : List Str} {Q : VK} {E : XK} {neg : Bool} (h : Pl A H a ns) (g : Good ms) (k : ∀ H', Same H H' → Q (.bl (if neg then !decide (ms.take ns.length = ns) else decide (ms.take ns.length = ns))) H') : rInC A.c_Place (sp_contains A K) E neg (.str (txt ms)) (.ref a) H Q := by
  obtain ⟨dx, fs, e⟩ := h.ins
  refine ⟨a, dx, fs, rfl, e, a, .str (txt ms), ns, rfl, h, .inr ⟨Knd.isP T (.str _), .inl ⟨txt ms, rfl, by have := txt_len g; omega, fun H' e => ⟨_, rfl, ?_⟩⟩⟩⟩
  rw [isTx_txt g, names_txt g.2, Bool.true_and]
  exact k H' e
end
end NK

namespace NK
open PySem PySem.Spec PyProof.Rows L2 NA TL LamX
theorem eqv_bl3 (a b c : Bool) : PyData.eqv (.list [.bool a, .bool b, .bool c]) (.list [.bool a, .bool b, .bool c]) = true := by cases a <;> cases b <;> cases c <;> decide +kernel
theorem shaped_bl3 (a b c : Bool) : SeqAt.shaped (.list [.bool a, .bool b, .bool c]) = true := by cases a <;> cases b <;> cases c <;> decide +kernel
/-- [('made', names), ('made', names)] as data -/
abbrev mdD (ns : List Str) : PyData := .list [.tuple [.str "made", .tuple (ns.map PyData.str)], .tuple [.str "made", .tuple (ns.map PyData.str)]]
theorem mdD_shaped {ns : List Str} (h : Oks ns) : SeqAt.shaped (mdD ns) = true := by
  unfold SeqAt.shaped mdD
  have := depth_strs ns
  have c := canLay_strs ns h
  have e : PyData.strOk "made" = true := by decide +kernel
  rw [Bool.and_eq_true]
  refine ⟨?_, decide_eq_true ?_⟩
  · simp only [PyData.canLay0, PyData.canLayAll0, c, e, Bool.and_self]
  · simp only [PyData.depth, PyData.depthAll]; omega
theorem mdD_eq (ns : List Str) : PyData.eqv (mdD ns) (mdD ns) = true := by
  have e := eqvAll_strs ns ns
  rw [decide_eq_true rfl] at e
  unfold mdD
  simp only [PyData.eqv, PyData.eqvAll, e]
  decide +kernel
section
variable {P : Program} {w : World} {K : PySem.W.Frag} {mg : Str → Option Value} {base : Heap} {A : Ad}
def sp_pair (A : Ad) : Sp := fun vs H Q _ => ∃ (l m : Addr) (ns ms : List Str), vs = [.ref l, .ref m] ∧ H l = some (.lst (ns.map V.str)) ∧ H m = some (.lst (ms.map V.str)) ∧ Good ns ∧ Good ms ∧ Tabs (Tb A) H ∧ ∀ H', ExtN H H' → Tabs (Tb A) H' → Q (.bl true) H'
theorem ok_pair (T : Tx P K mg A) (TB : LamX.TabB base mg A.k_law_pair_right A.t_law_pair_right) : FnG P w K mg base CX0 9 A.f_law_pair_right (sp_pair A) := by
  refine fng T.FK_law_pair_right sc_law_pair_right (fun _ _ _ _ _ _ us hl => match us, hl with | [_, _], _ => rfl) (fun vs H Q E h => ?_) (fun A' outer s H vs Q E hr hg h => ?_)
  · obtain ⟨l, m, ns, ms, rfl, _⟩ := h; rfl
  · obtain ⟨l, m, ns, ms, rfl, hl, hm, g1, g2, hT, k⟩ := h
    have r1 : Room 1 _ := hr.mono (by decide)
    have r2 : Room 2 _ := hr.mono (by decide)
    have r3 : Room 3 _ := hr.mono (by decide)
    have r5 : Room 5 _ := hr.mono (by decide)
    have r7 : Room 7 _ := hr.mono (by decide)
    have hu : ∀ p ∈ Tb A, p.1 = A.t_law_pair_right → p.2 = ("_law_pair_right.<locals>.<lambda>" : Str) := fun p hp e => by
      simp only [List.mem_cons, List.not_mem_nil, or_false] at hp
      rcases hp with rfl | rfl
      · rfl
      · exact (T.nn_law_pair_right_law_refused_right e.symm).elim
    refine ⟨_, pss_jn (ps_asg (pe_tup (pa_cons (pe_cl (ok_made T) r5 (by rfl) T.mg_law_made T.kp_law_made pass0 (pa_cons (pv 0) pa_nil)) (pa_cons (pe_cl (ok_made T) r5 (by rfl) T.mg_law_made T.kp_law_made pass0 (pa_cons (pv 1) pa_nil)) pa_nil)))
          (pg_tup rfl (pgs_cons (pg_name (i := 4) sc_law_pair_right.nd rfl (.inr rfl)) (pgs_cons (pg_name (i := 5) sc_law_pair_right.nd rfl (.inr rfl)) pgs_nil))))
      (pss_jn (ps_set (i := 2) sc_law_pair_right.nd rfl (.inl rfl) (pe_cmpR (op_eqD hr.units) (pe_slice sl_list (pv 1) po_none (po_some (pe_callB call_len_seq (by rfl) T.z_len PySem.boot_len (pa_cons (pv 0) pa_nil)))) (pv 0) (nomark _)))
      (pss_jn (ps_if (pt_cmpR (op_neD hr.units) (pe_lst (pa_cons (pe_cmpR (op_inC T.inS (ok_contains T) r3 pass0) (pv 5) (pv 4) rfl) (pa_cons (pe_cmpR (op_inC T.inS (ok_contains T) r3 pass0) (pe_prp (pv 5) T.cl T.textP (ok_text T) r3 noErr) (pv 4) rfl) (pa_cons (pe_cmpR (op_inC T.inS (ok_contains T) r3 pass0) (pv 4) (pv 5) rfl) pa_nil))))
          (pe_lst (pa_cons (pv 2) (pa_cons (pv 2) (pa_cons (pe_cmpR (op_eqD hr.units) (pe_slice sl_list (pv 0) po_none (po_some (pe_callB call_len_seq (by rfl) T.z_len PySem.boot_len (pa_cons (pv 1) pa_nil)))) (pv 1) (nomark _)) pa_nil)))) (nomark _)) (pss_one (ps_ret pe_bl)) pss_nil)
      (pss_cons (ps_set (i := 3) sc_law_pair_right.nd rfl (.inl rfl) (pe_lst (pa_cons (pe_heard (k := 5) T (by rfl) TB rfl List.mem_cons_self hu r7 (by omega) (LamX.lamS_by (sc := defScope s_law_pair_right) (by decide +kernel)) rfl (fun _ _ _ _ _ => rfl)
          (fun _ _ _ _ _ _ _ hr' => pe_op (op_binC T.andS T.sf_Place (ok_andX T) (hr'.mono (by decide)) passLam) (pv 4) (pv 5))) pa_nil)))
      (pss_cons (ps_expr (pe_bm PySem.F.plainAttrs_list PySem.F.slot_list_append PySem.F.type_list_append mt_append (pv 3) (pa_cons (pe_heard (k := 5) T (by rfl) TB rfl List.mem_cons_self hu r7 (by omega) (LamX.lamS_by (sc := defScope s_law_pair_right) (by decide +kernel)) rfl (fun _ _ _ _ _ => rfl)
          (fun _ _ _ _ _ _ _ hr' => pe_op (op_binC T.andS T.sf_Place (ok_andX T) (hr'.mono (by decide)) passLam) (pv 5) (pv 4))) pa_nil)))
      (pss_cons (ps_if (pt_cmpR (op_neD hr.units) (pv 3) (pe_op op_rep (pe_lst (pa_cons (pe_tup (pa_cons pe_str (pa_cons (pe_cl (ok_common T) r1 (by rfl) T.mg_law_common T.kp_law_common pass0 (pa_cons (pv 0) (pa_cons (pv 1) pa_nil))) pa_nil))) pa_nil)) pe_int) (nomark _)) (pss_one (ps_ret pe_bl)) pss_nil)
      (pss_one (ps_ret (pe_and (pe_cmpR (op_eqD hr.units) (pe_prp (pv 4) T.cl T.namesP (ok_names T) r2 noErr) (pe_callTy call_tuple_of (by rfl) T.z_tuple (by decide +kernel) (pa_cons (pv 0) pa_nil)) (nomark _))
        (pe_one (pe_cmpR (op_eqD hr.units) (pe_prp (pv 5) T.cl T.namesP (ok_names T) r2 noErr) (pe_callTy call_tuple_of (by rfl) T.z_tuple (by decide +kernel) (pa_cons (pv 1) pa_nil)) (nomark _))))))))))), ?_⟩
    have slc : ∀ {H' : Hp} {p : Addr} {xs ys : List Str} {Q : VK}, H' p = some (.lst (xs.map V.str)) → (∀ r Hr, Same H' Hr → Hr r = some (.lst ((xs.take ys.length).map V.str)) → Q (.ref r) Hr) → rSlL K (.ref p) none (some ((ys.map V.str).length : Nat)) H' Q := fun {H' p xs ys Q} h kq =>
      ⟨p, _, rfl, SqL.of h, fun r hr => kq r _ (Same.new hr) (by rw [upd_same, cut_take, List.length_map, List.map_take])⟩
    refine ⟨fun σ' H' => ∃ x y, σ' = [some (.ref l), some (.ref m), none, none, some (.ref x), some (.ref y)] ∧ Same H H' ∧ Pl A H' x ns ∧ Pl A H' y ms, ?_, ?_⟩
    · refine ⟨_, rfl, l, ns, rfl, hl, g1, fun x H1 hx s1 px => ⟨_, rfl, m, ms, rfl, s1 _ _ hm, g2, fun y H2 hy s2 py => ⟨sz (by show 2 ≤ 1000000; omega), fun p hp => ?_⟩⟩⟩
      refine ⟨p, _, rfl, SqT.of upd_same, rfl, _, _, rfl, _, _, rfl, rfl, x, y, rfl, (s1.trans s2).trans (Same.new hp), (px.same s2).same (Same.new hp), py.same (Same.new hp)⟩
    rintro σ' H1 ⟨x, y, rfl, s1, px, py⟩
    refine ⟨fun σ' H' => σ' = [some (.ref l), some (.ref m), some (.bl (decide (ms.take ns.length = ns))), none, some (.ref x), some (.ref y)] ∧ Same H1 H', ?_, ?_⟩
    · refine s_set ⟨_, rfl, _, rfl, l, _, rfl, .inl (SqL.of (s1 _ _ hl)), _, rfl, slc (s1 _ _ hm) fun r Hr sr hr' => ⟨_, rfl, ?_⟩⟩
      exact c_eqLs (g2.take _).oks g1.oks (SqL.of hr') (SqL.of (sr _ _ (s1 _ _ hl))) ⟨rfl, sr⟩
    rintro σ' H2 ⟨rfl, s2⟩
    have px2 := px.same s2
    have py2 := py.same s2
    refine ⟨fun σ' H' => σ' = [some (.ref l), some (.ref m), some (.bl (decide (ms.take ns.length = ns))), none, some (.ref x), some (.ref y)] ∧ Same H2 H', ?_, ?_⟩
    · refine ⟨_, rfl, _, rfl, v_inP px2 py2 fun H3 s3 => ?_⟩
      obtain ⟨dy, fy, ey⟩ := (py2.same s3).ins
      refine ⟨_, rfl, y, dy, fy, rfl, ey, y, ms, rfl, py2.same s3, _, rfl, v_inT T (px2.same s3) g2 fun H4 s4 => ?_⟩
      refine ⟨_, rfl, _, rfl, v_inP ((py2.same s3).same s4) ((px2.same s3).same s4) fun H5 s5 => ⟨sz (by show 3 ≤ 1000000; omega), fun q hq => ?_⟩⟩
      have s6 := Same.new (o := .lst [V.bl (if false = true then !decide (ms.take ns.length = ns) else decide (ms.take ns.length = ns)), V.bl (if false = true then !decide (ms.take ns.length = ns) else decide (ms.take ns.length = ns)), V.bl (if false = true then !decide (ns.take ms.length = ms) else decide (ns.take ms.length = ms))]) hq
      have s26 := ((s3.trans s4).trans s5).trans s6
      have s06 := (s1.trans s2).trans s26
      refine ⟨_, rfl, _, rfl, _, rfl, _, rfl, m, _, rfl, .inl (SqL.of (s06 _ _ hm)), _, rfl, slc (s06 _ _ hl) fun r Hr sr hr' => ⟨_, rfl, ?_⟩⟩
      refine c_eqLs (g1.take _).oks g2.oks (SqL.of hr') (SqL.of (sr _ _ (s06 _ _ hm))) ⟨sz (by show 3 ≤ 1000000; omega), fun q2 hq2 => ?_⟩
      have s7 := Same.new (o := .lst [V.bl (decide (ms.take ns.length = ns)), V.bl (decide (ms.take ns.length = ns)), V.bl (decide (ns.take ms.length = ms))]) hq2
      refine ⟨.list [.bool _, .bool _, .bool _], .list [.bool _, .bool _, .bool _], .lst (SqL.of (s7 _ _ (sr _ _ upd_same))) (.cons (.bl _) (.cons (.bl _) (.cons (.bl _) .nil))), .lst (SqL.of upd_same) (.cons (.bl _) (.cons (.bl _) (.cons (.bl _) .nil))), shaped_bl3 _ _ _, shaped_bl3 _ _ _, _, rfl, iteF' ?_ ?_⟩
      · have := eqv_bl3 (decide (ms.take ns.length = ns)) (decide (ms.take ns.length = ns)) (decide (ns.take ms.length = ms))
        simp only [Bool.false_eq_true, if_false]
        rw [this]; rfl
      · exact ⟨rfl, (s26.trans sr).trans s7⟩
    rintro σ' H3 ⟨rfl, s3⟩
    have s03 := (s1.trans s2).trans s3
    have px3 := px2.same s3
    have py3 := py2.same s3
    have t3 := hT.ext s03
    refine q_set (v_heardM (ns := com ns ms) t3 (fun H4 e4 E1 Q1 q1 => ⟨_, rfl, _, rfl, v_andP (px3.extN e4) (py3.extN e4) q1⟩) fun q1 u1 H4 e4 t4 f4 hq1 hu1 => ?_)
    refine ⟨sz (by show 1 ≤ 1000000; omega), fun L hL => ?_⟩
    have s5 := Same.new (o := .lst [V.ref q1]) hL
    have hL5 : upd H4 L (.lst [V.ref q1]) L = some (.lst [V.ref q1]) := upd_same
    have e35 : ExtN H3 (upd H4 L (.lst [V.ref q1])) := e4.trans (.of s5)
    have t5 := t4.ext s5
    have hq15 := s5 _ _ hq1
    have hu15 := s5 _ _ hu1
    have nL : ∀ b o, H3 b = some o → (∀ ps, o ≠ .tbl ps) → b ≠ L := fun b o hb hn => ne_of_none (e4 b o hb hn) hL
    have nq1 : q1 ≠ L := ne_of_none hq1 hL
    have nu1 : u1 ≠ L := ne_of_none hu1 hL
    generalize upd H4 L (.lst [V.ref q1]) = H5 at hL5 e35 t5 hq15 hu15 ⊢
    refine ⟨_, rfl, .inl ⟨rfl, _, SqL.of hL5⟩, v_heardM (ns := com ms ns) t5 (fun H6 e6 E1 Q1 q1 => ⟨_, rfl, _, rfl, v_andP ((py3.extN e35).extN e6) ((px3.extN e35).extN e6) q1⟩) fun q2 u2 H6 e6 t6 f6 hq2 hu2 => ?_⟩
    have hL6 := e6 _ _ hL5 (fun _ z => nomatch z)
    have nq2 : q2 ≠ L := (f6 L _ hL5 (fun _ z => nomatch z)).symm
    have nu2 : u2 ≠ L := fun z => by rw [z, hL6] at hu2; cases hu2
    refine ⟨L, _, _, rfl, rfl, hL6, szl (by show 1 ≤ 1000000; omega), ?_⟩
    have sm : Sam L H6 (upd H6 L (.lst ([V.ref q1] ++ [V.ref q2]))) := Sam.upd (Sam.refl H6)
    have hL7 : upd H6 L (.lst ([V.ref q1] ++ [V.ref q2])) L = some (.lst [V.ref q1, V.ref q2]) := upd_same
    have t7 := tabs_mut hL6 sm t6
    have hq17 := sm _ _ nq1 (e6 _ _ hq15 (fun _ z => nomatch z))
    have hu17 := sm _ _ nu1 (e6 _ _ hu15 (fun _ z => nomatch z))
    have hq27 := sm _ _ nq2 hq2
    have hu27 := sm _ _ nu2 hu2
    have e37 : ExtN H3 (upd H6 L (.lst ([V.ref q1] ++ [V.ref q2]))) := fun b o hb hn => by
      rw [upd_ne (nL b o hb hn)]; exact (e35.trans e6) b o hb hn
    rw [com_comm ms ns] at hu27
    generalize upd H6 L (.lst ([V.ref q1] ++ [V.ref q2])) = H7 at hL7 t7 hq17 hu17 hq27 hu27 e37 ⊢
    have hl7 := e37 _ _ (s03 _ _ hl) (fun _ z => nomatch z)
    have hm7 := e37 _ _ (s03 _ _ hm) (fun _ z => nomatch z)
    refine ⟨_, rfl, _, rfl, _, rfl, l, m, ns, ms, rfl, hl7, hm7, g1, g2, fun t H8 s8 ht => ⟨sz (by show 2 ≤ 1000000; omega), fun p1 hp1 => ⟨sz (by show 1 ≤ 1000000; omega), fun p2 hp2 => ?_⟩⟩⟩
    have s9 := Same.new (o := .tup [V.str "made", .ref t]) hp1
    have s10 := Same.new (o := .lst [V.ref p1]) hp2
    refine ⟨p2, 2, _, rfl, rfl, upd_same, by decide, by decide, sz (by show 1 * 2 ≤ 1000000; omega), fun p3 hp3 => ?_⟩
    have eR : (List.replicate (2 : Int).toNat [V.ref p1]).flatten = [V.ref p1, V.ref p1] := rfl
    rw [eR]
    have s11 := Same.new (o := .lst [V.ref p1, V.ref p1]) hp3
    have sT := ((s8.trans s9).trans s10).trans s11
    have ht' := s11 _ _ (s10 _ _ (s9 _ _ ht))
    have hp1' := s11 _ _ (s10 _ _ (upd_same (H := H8) (a := p1) (o := .tup [V.str "made", .ref t])))
    have oc : Oks (com ns ms) := (com_good g1).oks
    refine ⟨mdD (com ns ms), mdD (com ns ms), .lst (SqL.of (sT _ _ hL7)) (.cons (.tup (SqT.of (sT _ _ hq17)) (.cons (.str _) (.cons (.tup (SqT.of (sT _ _ hu17)) (dp_strs _)) .nil))) (.cons (.tup (SqT.of (sT _ _ hq27)) (.cons (.str _) (.cons (.tup (SqT.of (sT _ _ hu27)) (dp_strs _)) .nil))) .nil)),
      .lst (SqL.of upd_same) (.cons (.tup (SqT.of hp1') (.cons (.str _) (.cons (.tup (SqT.of ht') (dp_strs _)) .nil))) (.cons (.tup (SqT.of hp1') (.cons (.str _) (.cons (.tup (SqT.of ht') (dp_strs _)) .nil))) .nil)), mdD_shaped oc, mdD_shaped oc, _, rfl, iteF' (by rw [mdD_eq]; rfl) ?_⟩
    have px11 := (px3.extN e37).same sT
    have py11 := (py3.extN e37).same sT
    obtain ⟨dx, fx, ex⟩ := px11.ins
    refine ⟨_, rfl, x, dx, fx, rfl, ex, x, ns, rfl, px11, fun w1 hw1 => ⟨_, rfl, l, _, rfl, .inl ⟨SqL.of (sT _ _ hl7), fun w2 hw2 => ?_⟩⟩⟩
    have s12 := Same.new (o := .tup (ns.map V.str)) hw2
    refine c_eqT g1.oks g1.oks (SqT.of (s12 _ _ hw1)) (SqT.of upd_same) ⟨_, rfl, iteT' (decide_eq_true rfl) ?_⟩
    have py12 := py11.same s12
    obtain ⟨dy, fy, ey⟩ := py12.ins
    refine ⟨_, rfl, y, dy, fy, rfl, ey, y, ms, rfl, py12, fun w3 hw3 => ⟨_, rfl, m, _, rfl, .inl ⟨SqL.of (s12 _ _ (sT _ _ hm7)), fun w4 hw4 => ?_⟩⟩⟩
    have s13 := Same.new (o := .tup (ms.map V.str)) hw4
    refine c_eqT g2.oks g2.oks (SqT.of (s13 _ _ hw3)) (SqT.of upd_same) ?_
    rw [decide_eq_true rfl]
    have sZ := (sT.trans s12).trans s13
    exact k _ (((ExtN.of s03).trans e37).trans (.of sZ)) (t7.ext sZ)
end
end NK

namespace NK
open PySem PySem.Spec PyProof.Rows L2 NA TL LamX
/-- a short text of plain signs -/
def Sh (z : Str) : Prop := z.length ≤ 100 ∧ ∀ c ∈ tl z, c < 200
theorem Sh.rt {z : Str} (h : Sh z) : (reprText z).length ≤ 1002 := by
  have := PySem.StrLaws.reprText_len z fun c hc => Nat.lt_trans (h.2 c hc) (by decide)
  have := h.1
  omega
theorem txt_sh {ns : List Str} (g : Good ns) : Sh (txt ns) := by
  refine ⟨by have := txt_len g; omega, fun c hc => ?_⟩
  rw [txt_tl] at hc
  rcases List.mem_cons.mp hc with rfl | hc
  · omega
  · rcases joinL_mem hc with rfl | ⟨p, hp, hc⟩
    · omega
    · obtain ⟨n, hn, rfl⟩ := List.mem_map.mp hp
      have sg : ∀ c ∈ tl sgn, c < 200 := by rw [sgn_tl]; decide
      exact sg c ((isNm_iff.mp (g.2 n hn)).2.2 c hc)
/-- the things that a place is tried with -/
inductive Thg (A : Ad) (H : Hp) : V → Prop
  | non : Thg A H .non
  | bl (b : Bool) : Thg A H (.bl b)
  | int {i : Int} : 0 ≤ i → i ≤ 8 → Thg A H (.int i)
  | str {z : Str} : Sh z → Thg A H (.str z)
  | lst {a : Addr} {zs : List Str} : H a = some (.lst (zs.map V.str)) → (∀ z ∈ zs, Sh z) → zs.length ≤ 2 → Thg A H (.ref a)
  | tup {a : Addr} {zs : List Str} : H a = some (.tup (zs.map V.str)) → (∀ z ∈ zs, Sh z) → zs.length ≤ 2 → Thg A H (.ref a)
  | own {q : Addr} {ns : List Str} : Pl A H q ns → Thg A H (.ref q)
  | dic {a : Addr} : H a = some (.dK []) → Thg A H (.ref a)
section
variable {P : Program} {w : World} {K : PySem.W.Frag} {mg : Str → Option Value} {base : Heap} {A : Ad}
theorem Thg.map {p : Addr} {H H' : Hp} {x : V} {xs : List V} (h : Thg A H x) (hp : H p = some (.lst xs)) (hx : x ≠ .ref p) (e : ExtM p H H') : Thg A H' x := by
  cases h with
  | non => exact .non
  | bl b => exact .bl b
  | int h1 h2 => exact .int h1 h2
  | str h1 => exact .str h1
  | lst h g l => exact .lst (e _ _ (fun z => hx (by rw [z])) h fun _ z => nomatch z) g l
  | tup h g l => exact .tup (e _ _ (fun z => hx (by rw [z])) h fun _ z => nomatch z) g l
  | own h =>
    obtain ⟨g, dx, t, h1, h2⟩ := h
    exact .own ⟨g, dx, t, e _ _ (fun z => by rw [z, hp] at h1; cases h1) h1 (fun _ z => nomatch z), e _ _ (fun z => by rw [z, hp] at h2; cases h2) h2 (fun _ z => nomatch z)⟩
  | dic h => exact .dic (e _ _ (fun z => by rw [z, hp] at h; cases h) h fun _ z => nomatch z)
theorem Thg.ext {H H' : Hp} {x : V} (h : Thg A H x) (e : ExtN H H') : Thg A H' x := by
  cases h with
  | non => exact .non
  | bl b => exact .bl b
  | int h1 h2 => exact .int h1 h2
  | str h1 => exact .str h1
  | lst h g l => exact .lst (e _ _ h fun _ z => nomatch z) g l
  | tup h g l => exact .tup (e _ _ h fun _ z => nomatch z) g l
  | own h => exact .own (h.extN e)
  | dic h => exact .dic (e _ _ h fun _ z => nomatch z)
theorem sum_sh : ∀ {zs : List Str}, (∀ z ∈ zs, Sh z) → ((zs.map reprText).map (·.length)).sum ≤ 1002 * zs.length
  | [], _ => by simp
  | a :: as, h => by
    have h1 := (h a (by simp)).rt
    have h2 := sum_sh (zs := as) fun n hn => h n (List.mem_cons_of_mem _ hn)
    simp only [List.map_cons, List.sum_cons, List.length_cons]
    omega
theorem rp_shs {X : Cx} {n : Nat} {as : List Addr} {G : Hp → Prop} {zs : List Str} (g : ∀ z ∈ zs, Sh z) : ∀ (i : Nat) (x : V), (zs.map V.str)[i]? = some x → ∃ t, (zs.map reprText)[i]? = some t ∧ Rp X n as G x t := fun i x h => by
  rw [List.getElem?_map] at h
  obtain ⟨m, hm, rfl⟩ := Option.map_eq_some_iff.mp h
  exact ⟨reprText m, by rw [List.getElem?_map, hm]; rfl, .str (sz (by have := (g m (List.mem_of_getElem? hm)).rt; omega))⟩
theorem log_small {i : Int} (h0 : 0 ≤ i) (h1 : i ≤ 8) : i.natAbs.log2 < 1920 := by
  have : i.natAbs ≤ 8 := by omega
  have h2 : i.natAbs.log2 ≤ i.natAbs := Nat.log2_le_self _
  omega
theorem small_len {i : Int} (h1 : 0 ≤ i) (h2 : i ≤ 8) : (toString i : Str).length ≤ 100000 := by
  obtain ⟨k, rfl⟩ := Int.eq_ofNat_of_zero_le h1
  have : k ≤ 8 := by omega
  match k, this with
  | 0, _ => decide +kernel
  | 1, _ => decide +kernel
  | 2, _ => decide +kernel
  | 3, _ => decide +kernel
  | 4, _ => decide +kernel
  | 5, _ => decide +kernel
  | 6, _ => decide +kernel
  | 7, _ => decide +kernel
  | 8, _ => decide +kernel
theorem Thg.rp {X : Cx} (T : Tx X.prog X.K X.mg A) {H : Hp} {x : V} (h : Thg A H x) : ∃ (as : List Addr) (G : Hp → Prop) (t : Str), G H ∧ (∀ H H', ExtN H H' → G H → G H') ∧ (∀ b ∈ as, ∃ o, H b = some o ∧ ∀ ps, o ≠ .tbl ps) ∧ Rp X 5 as G x t ∧ t.length ≤ 100000 := by
  cases h with
  | non => exact ⟨[], fun _ => True, _, trivial, fun _ _ _ _ => trivial, (fun _ h => (List.not_mem_nil h).elim), .non, by decide +kernel⟩
  | bl b => exact ⟨[], fun _ => True, _, trivial, fun _ _ _ _ => trivial, (fun _ h => (List.not_mem_nil h).elim), .bl b, by cases b <;> decide +kernel⟩
  | @int i h1 h2 => exact ⟨[], fun _ => True, _, trivial, fun _ _ _ _ => trivial, (fun _ h => (List.not_mem_nil h).elim), .int (log_small h1 h2), small_len h1 h2⟩
  | @str z h1 => exact ⟨[], fun _ => True, _, trivial, fun _ _ _ _ => trivial, (fun _ h => (List.not_mem_nil h).elim), .str (sz (by have := h1.rt; omega)), by have := h1.rt; omega⟩
  | @tup a zs h g l =>
    refine ⟨[a], fun H' => H' a = some (.tup (zs.map V.str)), tupleText (zs.map reprText), h, (fun H H' e h => e _ _ h (fun _ z => nomatch z)), fun b hb => ?_, (Rp.tup (n := 0) (as := []) List.not_mem_nil (by simp) (fun H h => h) (fun H H' e h => e _ _ h) (rp_shs g)).mono (by omega) (fun _ h => h), ?_⟩
    · rw [List.mem_singleton.mp hb]; exact ⟨_, h, (fun _ z => nomatch z)⟩
    · have h1 := tupleText_len_le (zs.map reprText)
      have h2 := sum_sh g
      rw [List.length_map] at h1
      omega
  | @lst a zs h g l =>
    refine ⟨[a], fun H' => H' a = some (.lst (zs.map V.str)), listText (zs.map reprText), h, (fun H H' e h => e _ _ h (fun _ z => nomatch z)), fun b hb => ?_, (Rp.lst (n := 0) (as := []) List.not_mem_nil (by simp) (fun H h => h) (fun H H' e h => e _ _ h) (rp_shs g)).mono (by omega) (fun _ h => h), ?_⟩
    · rw [List.mem_singleton.mp hb]; exact ⟨_, h, (fun _ z => nomatch z)⟩
    · have h1 := listText_len_le (zs.map reprText)
      have h2 := sum_sh g
      rw [List.length_map] at h1
      omega
  | @own q ns g =>
    have hl := rt_len g.good
    have e1 : ("Place(" : Str).length = 6 := by decide +kernel
    have e2 : (")" : Str).length = 1 := by decide +kernel
    refine ⟨[], fun H' => Pl A H' q ns, "Place(" ++ reprText (txt ns) ++ ")", g, (fun H H' e h => h.extN e), (fun _ h => (List.not_mem_nil h).elim),
      (Rp.own (n := 3) T.reprS (ok_repr T) (E := E0) (fun _ _ _ _ _ _ _ z => z.elim) fun H hH => ⟨hH.ins, fun Q hQ => ⟨q, ns, rfl, hH, hQ H (Same.refl H)⟩⟩).mono (by omega) (fun _ h => h), ?_⟩
    rw [strLen_append, strLen_append, e1, e2]; omega
  | @dic a h =>
    refine ⟨[a], fun H' => H' a = some (.dK []), _, h, (fun H H' e h => e _ _ h (fun _ z => nomatch z)), fun b hb => ?_, .dic0 (fun H h => h), by decide +kernel⟩
    rw [List.mem_singleton.mp hb]; exact ⟨_, h, (fun _ z => nomatch z)⟩
/-- repr((word, x)) twice -/
theorem rp_pair {X : Cx} {as : List Addr} {G : Hp → Prop} {wd ty : Str} {y : V} (gm : ∀ H H', ExtN H H' → G H → G H') (hw : (reprText wd).length ≤ 100) (tl0 : ty.length ≤ 100000) (rp : Rp X 5 as G y ty) {q : Addr} {H' : Hp} {Q : VK} (nq : q ∉ as) (hq : H' q = some (.tup [V.str wd, y])) (g' : G H')
    (kq : ∀ H'', Same H' H'' → Q (.str (tupleText [reprText wd, ty])) H'') : rReprG X 5 [.ref q] H' Q := by
  refine ⟨q, as, [.str wd, y], [reprText wd, ty], fun H'' => H'' q = some (.tup [V.str wd, y]) ∧ G H'', _, rfl, nq, rfl, ⟨hq, g'⟩, (fun Ha Hb e h => ⟨e _ _ h.1, gm _ _ (.of e) h.2⟩), .inr ⟨rfl, fun H'' h => h.1⟩, (fun i z hz => ?_), ?_, kq⟩
  · match i, hz with
    | 0, hz =>
      have : V.str wd = z := by simpa using hz
      subst this
      exact ⟨_, rfl, .str (sz (by omega))⟩
    | 1, hz =>
      have : y = z := by simpa using hz
      subst this
      exact ⟨_, rfl, rp.imp fun H'' h => h.2⟩
    | i + 2, hz => simp at hz
  · have h1 := tupleText_len_le [reprText wd, ty]
    simp only [List.map_cons, List.map_nil, List.sum_cons, List.sum_nil, List.length_cons, List.length_nil] at h1
    exact sz (by omega)
/-- what is no place, and no text of one -/
inductive Knn (H : Hp) : V → Prop
  | str {z : Str} : z.length ≤ 100000 → isTx z = false → Knn H (.str z)
  | oth {x : V} {t : String} : Knd H x t → t ≠ "str" → Knn H x
theorem kit_str : ∀ T ∈ kinds, T ≠ "str" → ∀ K : PySem.W.Frag, PySem.W.kitOne K (.type T) (.type "str") = some false := by
  intro T hT hn K
  simp only [kinds, List.mem_cons, List.not_mem_nil, or_false] at hT
  rcases hT with rfl | rfl | rfl | rfl | rfl | rfl | rfl
  · rfl
  · rfl
  · rfl
  · exact (hn rfl).elim
  · rfl
  · rfl
  · rfl
theorem v_inN (T : Tx P K mg A) {H : Hp} {a : Addr} {x : V} {ns : List Str} {Q : VK} {E : XK} (h : Pl A H a ns) (hx : Knn H x) (k : ∀ H', Same H H' → Q (.bl false) H') : rInC A.c_Place (sp_contains A K) E false x (.ref a) H Q := by
  obtain ⟨dx, fs, e⟩ := h.ins
  cases hx with
  | @str z hl hz =>
    refine ⟨a, dx, fs, rfl, e, a, .str z, ns, rfl, h, .inr ⟨Knd.isP T (.str _), .inl ⟨z, rfl, hl, fun H' e => ⟨_, rfl, ?_⟩⟩⟩⟩
    rw [hz, Bool.false_and]
    exact k H' e
  | @oth x t hk hn =>
    exact ⟨a, dx, fs, rfl, e, a, x, ns, rfl, h, .inr ⟨Knd.isP T hk, .inr ⟨⟨_, hk.ty, kit_str t hk.mem hn K⟩, fun H' e => ⟨_, rfl, k H' e⟩⟩⟩⟩
theorem spt_end : ∀ r : List Nat, [] ∈ spt (r ++ [47])
  | [] => by simp [spt]
  | c :: r => by
    have ih := spt_end r
    show [] ∈ (if c = 47 then [] :: spt (r ++ [47]) else match spt (r ++ [47]) with | [] => [[c]] | x :: xs => (c :: x) :: xs)
    by_cases hc : c = 47
    · rw [if_pos hc]; simp
    · rw [if_neg hc]
      cases hs : spt (r ++ [47]) with
      | nil => exact (spt_ne _ hs).elim
      | cons x xs =>
        rw [hs] at ih
        rcases List.mem_cons.mp ih with h | h
        · -- the last part is behind a slash
          subst h
          cases r with
          | nil =>
            rw [show spt ([] ++ [47]) = [[], []] from rfl] at hs
            cases hs; simp
          | cons d r =>
            have hd : d = 47 := by
              by_cases hd : d = 47
              · exact hd
              · have hs' : (if d = 47 then [] :: spt (r ++ [47]) else match spt (r ++ [47]) with | [] => [[d]] | x :: xs => (d :: x) :: xs) = [] :: xs := hs
                rw [if_neg hd] at hs'
                split at hs' <;> simp at hs'
            subst hd
            have hs' : (if (47 : Nat) = 47 then [] :: spt (r ++ [47]) else match spt (r ++ [47]) with | [] => [[47]] | x :: xs => (47 :: x) :: xs) = [] :: xs := hs
            rw [if_pos rfl] at hs'
            have : xs = spt (r ++ [47]) := by simpa using hs'.symm
            rw [this]
            exact List.mem_cons_of_mem _ (spt_end r)
        · exact List.mem_cons_of_mem _ h
theorem txt_slash {ns : List Str} : isTx (txt ns ++ "/") = false := by
  have et : tl (txt ns ++ "/") = 47 :: (joinL [47] (ns.map tl) ++ [47]) := by
    rw [tl_append, txt_tl, slash_tl]; rfl
  have hne : txt ns ++ "/" ≠ "/" := fun e => by
    have := congrArg tl e
    rw [et, slash_tl] at this
    simp at this
  have hm : Sx [] ∈ namesIn (txt ns ++ "/") := by
    unfold namesIn
    rw [if_neg hne, et]
    exact List.mem_map.mpr ⟨[], spt_end _, rfl⟩
  have hall : (namesIn (txt ns ++ "/")).all isNm = false := by
    rw [List.all_eq_false]
    exact ⟨_, hm, by decide +kernel⟩
  unfold isTx
  rw [hall, Bool.and_false]
end
end NK

namespace NK
open PySem PySem.Spec PyProof.Rows L2 NA TL LamX
theorem c_cat {K : PySem.W.Frag} {H : Hp} {p q : Addr} {xs ys : List V} {Q : VK} (h : H p = some (.tup xs)) (h' : H q = some (.tup ys)) (hl : xs.length + ys.length ≤ sizeLine) (k : ∀ r H', Same H H' → H' r = some (.tup (xs ++ ys)) → Q (.ref r) H') : rCatA K (.ref p) (.ref q) H Q := by
  refine ⟨p, q, xs, ys, rfl, rfl, SqT.of h, SqT.of h', hl, fun e => ?_, fun _ e => ?_, fun _ _ r hr => k r _ (Same.new hr) upd_same⟩
  · subst e; exact k q H (Same.refl H) h'
  · subst e; exact k p H (Same.refl H) (by rw [List.append_nil]; exact h)
/-- ('made', names), ('many', 8) as data -/
abbrev mdT (ns : List Str) : PyData := .tuple [.str "made", .tuple (ns.map PyData.str)]
theorem mdT_shaped {ns : List Str} (h : Oks ns) : SeqAt.shaped (mdT ns) = true := by
  unfold SeqAt.shaped mdT
  have := depth_strs ns
  have c := canLay_strs ns h
  have e : PyData.strOk "made" = true := by decide +kernel
  rw [Bool.and_eq_true]
  refine ⟨?_, decide_eq_true ?_⟩
  · simp only [PyData.canLay0, PyData.canLayAll0, c, e, Bool.and_self]
  · simp only [PyData.depth, PyData.depthAll]; omega
theorem mdT_eq (ns : List Str) : PyData.eqv (mdT ns) (mdT ns) = true := by
  have e := eqvAll_strs ns ns
  rw [decide_eq_true rfl] at e
  unfold mdT
  simp only [PyData.eqv, PyData.eqvAll, e]
  decide +kernel
theorem Pl.extM {A : Ad} {p : Addr} {H H' : Hp} {a : Addr} {ns : List Str} {xs : List V} (h : Pl A H a ns) (hp : H p = some (.lst xs)) (e : ExtM p H H') : Pl A H' a ns := by
  obtain ⟨g, dx, t, h1, h2⟩ := h
  exact ⟨g, dx, t, e _ _ (fun z => by rw [z, hp] at h1; cases h1) h1 (fun _ z => nomatch z), e _ _ (fun z => by rw [z, hp] at h2; cases h2) h2 (fun _ z => nomatch z)⟩
/-- what is no name -/
def NoNm (K : PySem.W.Frag) (H : Hp) (x : V) : Prop := (∃ n : Str, x = .str n ∧ n.length ≤ 100000 ∧ isNm n = false) ∨ (∃ t, TyX K H x t ∧ PySem.W.kitOne K t (.type "str") = some false)
section
variable {P : Program} {w : World} {K : PySem.W.Frag} {mg : Str → Option Value} {base : Heap} {A : Ad}
theorem kit_subT {K : PySem.W.Frag} {C : Addr} {b : Bool} (h : PySem.W.subIn K (.ref C) (.type "str") = some b) : PySem.W.kitOne K (.ref C) (.type "str") = some b := by
  unfold PySem.W.kitOne
  rw [if_neg (by simp)]
  show (if PySem.W.kitMeta "str" = true then PySem.W.subIn K (.ref C) (.type "str") else none) = some b
  rw [if_pos (by decide +kernel), h]
/-- what is put behind a place and refused: a thing of another kind, or a place -/
inductive Trd (A : Ad) (H : Hp) : V → Prop
  | str {z : Str} : Sh z → isNm z = false → Trd A H (.str z)
  | oth {x : V} {t : String} : Thg A H x → Knd H x t → t ≠ "str" → Trd A H x
  | own {q : Addr} {ns : List Str} : Pl A H q ns → Trd A H (.ref q)
theorem Trd.thg {H : Hp} {x : V} (h : Trd A H x) : Thg A H x := by
  cases h with
  | str h1 h2 => exact .str h1
  | oth h1 h2 h3 => exact h1
  | own h1 => exact .own h1
theorem Knd.ext {H H' : Hp} {x : V} {t : String} (h : Knd H x t) (e : ExtN H H') : Knd H' x t := by
  cases h with
  | non => exact .non
  | bl b => exact .bl b
  | int i => exact .int i
  | str z => exact .str z
  | lst h => exact .lst (e _ _ h fun _ z => nomatch z)
  | tup h => exact .tup (e _ _ h fun _ z => nomatch z)
  | dic h => exact .dic (e _ _ h fun _ z => nomatch z)
theorem v_addR (T : Tx P K mg A) {H : Hp} {a : Addr} {x : V} {ns : List Str} {Q : VK} {E : XK} (h : Pl A H a ns) (hx : Trd A H x) (k : ErrV A.c_BadName "value" H x E) : rBinC A.c_Place (sp_addX A K) E (.ref a) x H Q ∨ rBinK A.c_Place (sp_addX A K) E (.ref a) x H Q := by
  obtain ⟨dx, fs, e⟩ := h.ins
  cases hx with
  | @str z h1 h2 => exact .inr ⟨a, dx, fs, _, rfl, e, .str z, a, .str z, ns, rfl, h, .inr ⟨.inl ⟨z, rfl, by have := h1.1; omega, h2⟩, k⟩⟩
  | @oth x t h1 h2 h3 => exact .inr ⟨a, dx, fs, _, rfl, e, h2, a, x, ns, rfl, h, .inr ⟨.inr ⟨_, h2.ty, kit_str t h2.mem h3 K⟩, k⟩⟩
  | @own q ms h1 =>
    obtain ⟨dy, gs, e'⟩ := h1.ins
    exact .inl ⟨a, dx, fs, q, dy, gs, rfl, rfl, e, e', a, .ref q, ns, rfl, h, .inr ⟨.inr ⟨_, T.tyP e', kit_subT T.sustr_Place⟩, k⟩⟩
theorem Trd.ext {H H' : Hp} {x : V} (h : Trd A H x) (e : ExtN H H') : Trd A H' x := by
  cases h with
  | str h1 h2 => exact .str h1 h2
  | oth h1 h2 h3 => exact .oth (h1.ext e) (Knd.ext h2 e) h3
  | own h1 => exact .own (h1.extN e)
def sp_refused (A : Ad) : Sp := fun vs H Q _ => ∃ (pn L l : Addr) (ns : List Str) (b : Nat), vs = [.ref pn, .ref l] ∧ Pen L H pn (b + 3) ∧ H l = some (.lst (ns.map V.str)) ∧ l ≠ pn ∧ Good ns ∧ Tabs (Tb A) H ∧ ∀ H', ExtM pn H H' → Pen L H' pn b → Tabs (Tb A) H' → Q (.bl true) H'
theorem ok_refused (T : Tx P K mg A) (TB : LamX.TabB base mg A.k_law_refused_right A.t_law_refused_right) : FnG P w K mg base CX0 9 A.f_law_refused_right (sp_refused A) := by
  refine fng T.FK_law_refused_right sc_law_refused_right (fun _ _ _ _ _ _ us hl => match us, hl with | [_, _], _ => rfl) (fun vs H Q E h => ?_) (fun A' outer s H vs Q E hr hg h => ?_)
  · obtain ⟨pn, L, l, ns, b, rfl, _⟩ := h; rfl
  · obtain ⟨pn, L, l, ns, b, rfl, hp, hl, hne, g, hT, k⟩ := h
    have r2 : Room 2 _ := hr.mono (by decide)
    have r3 : Room 3 _ := hr.mono (by decide)
    have r5 : Room 5 _ := hr.mono (by decide)
    have r7 : Room 7 _ := hr.mono (by decide)
    have hu : ∀ p ∈ Tb A, p.1 = A.t_law_refused_right → p.2 = ("_law_refused_right.<locals>.<lambda>" : Str) := fun p hp e => by
      simp only [List.mem_cons, List.not_mem_nil, or_false] at hp
      rcases hp with rfl | rfl
      · exact (T.nn_law_pair_right_law_refused_right e).elim
      · rfl
    have hmT : (A.t_law_refused_right, ("_law_refused_right.<locals>.<lambda>" : Str)) ∈ Tb A := List.mem_cons_of_mem _ List.mem_cons_self
    refine ⟨_, pss_cons (ps_set (i := 3) sc_law_refused_right.nd rfl (.inr rfl) (pe_cl (ok_made T) r5 (by rfl) T.mg_law_made T.kp_law_made pass0 (pa_cons (pv 1) pa_nil)))
      (pss_jn (ps_set (i := 4) sc_law_refused_right.nd rfl (.inr rfl) (pe_cl (ok_pick T) r2 (by rfl) T.mg_law_pick T.kp_law_pick pass0 (pa_cons (pv 0) (pa_cons (pe_lst
          (pa_cons pe_non (pa_cons pe_bl (pa_cons pe_int (pa_cons pe_int (pa_cons (pe_prp (pv 3) T.cl T.textP (ok_text T) r3 noErr) (pa_cons pe_str (pa_cons pe_str (pa_cons pe_str (pa_cons (pe_lst pa_nil) (pa_cons (pe_tup (pa_cons (pe_prp (pv 3) T.cl T.textP (ok_text T) r3 noErr) pa_nil)) (pa_cons pe_dnewK pa_nil)))))))))))) pa_nil))))
      (pss_jn (ps_if (pt_cmpR op_ne (pe_callB (call_reprG (n := 5) r7 hg) (by rfl) T.z_repr (by decide +kernel) (pa_cons (pe_heard (k := 5) T (by rfl) TB rfl hmT hu r7 (by omega) (LamX.lamS_by (sc := defScope s_law_refused_right) (by decide +kernel)) rfl (fun _ _ _ _ _ => rfl)
            (fun _ _ _ _ _ _ _ hr' => pe_op (op_binK T.andS T.andF T.apart T.sf_Place (ok_andX T) (hr'.mono (by decide)) passLam) (pv 3) (pv 4))) pa_nil))
          (pe_callB (call_reprG (n := 5) r7 hg) (by rfl) T.z_repr (by decide +kernel) (pa_cons (pe_tup (pa_cons pe_str (pa_cons (pv 4) pa_nil))) pa_nil)) (nomark _)) (pss_one (ps_ret pe_bl)) pss_nil)
      (pss_jn (ps_set (i := 5) sc_law_refused_right.nd rfl (.inr rfl) (pe_cl (ok_pick T) r2 (by rfl) T.mg_law_pick T.kp_law_pick pass0 (pa_cons (pv 0) (pa_cons (pe_lst
          (pa_cons pe_non (pa_cons pe_bl (pa_cons pe_int (pa_cons pe_int (pa_cons pe_str (pa_cons pe_str (pa_cons pe_str (pa_cons (pe_op op_add_str (pe_prp (pv 3) T.cl T.textP (ok_text T) r3 noErr) pe_str) (pa_cons (pe_lst (pa_cons (pe_prp (pv 3) T.cl T.textP (ok_text T) r3 noErr) pa_nil)) (pa_cons pe_dnewK (pa_cons (pe_tup pa_nil) (pa_cons pe_str pa_nil))))))))))))) pa_nil))))
      (pss_jn (ps_if (pt_cmpR (op_inC T.inS (ok_contains T) r3 pass0) (pv 5) (pv 3) rfl) (pss_one (ps_ret pe_bl)) pss_nil)
      (pss_jn (ps_set (i := 5) sc_law_refused_right.nd rfl (.inr rfl) (pe_cl (ok_pick T) r2 (by rfl) T.mg_law_pick T.kp_law_pick pass0 (pa_cons (pv 0) (pa_cons (pe_lst
          (pa_cons pe_non (pa_cons pe_bl (pa_cons pe_int (pa_cons pe_str (pa_cons pe_str (pa_cons pe_str (pa_cons pe_str (pa_cons pe_str (pa_cons (pe_lst (pa_cons pe_str pa_nil)) (pa_cons (pe_tup (pa_cons pe_str pa_nil)) (pa_cons (pv 3) (pa_cons pe_dnewK (pa_cons pe_str (pa_cons pe_str pa_nil))))))))))))))) pa_nil))))
      (pss_jn (ps_if (pt_cmpR op_ne (pe_callB (call_reprG (n := 5) r7 hg) (by rfl) T.z_repr (by decide +kernel) (pa_cons (pe_heard (k := 5) T (by rfl) TB rfl hmT hu r7 (by omega) (LamX.lamS_by (sc := defScope s_law_refused_right) (by decide +kernel)) rfl (fun _ _ _ _ _ => rfl)
            (fun _ _ _ _ _ _ _ hr' => pe_op (op_binA T.addS T.addF T.apart T.sf_Place (ok_addX T) (hr'.mono (by decide)) passLam) (pv 3) (pv 5))) pa_nil))
          (pe_callB (call_reprG (n := 5) r7 hg) (by rfl) T.z_repr (by decide +kernel) (pa_cons (pe_tup (pa_cons pe_str (pa_cons (pv 5) pa_nil))) pa_nil)) (nomark _)) (pss_one (ps_ret pe_bl)) pss_nil)
      (pss_jn (ps_set (i := 2) sc_law_refused_right.nd rfl (.inl rfl) (pe_ifExp (pt_cmpR op_eq (pe_callB call_len_seq (by rfl) T.z_len PySem.boot_len (pa_cons (pv 1) pa_nil)) pe_int (nomark _)) (pe_tup (pa_cons pe_str (pa_cons pe_int pa_nil)))
          (pe_tup (pa_cons pe_str (pa_cons (pe_op op_catA (pe_callTy call_tuple_of (by rfl) T.z_tuple (by decide +kernel) (pa_cons (pv 1) pa_nil)) (pe_tup (pa_cons pe_str pa_nil))) pa_nil)))))
      (pss_one (ps_ret (pe_and (pe_cmpR (op_eqD hr.units) (pe_heard (k := 5) T (by rfl) TB rfl hmT hu r7 (by omega) (LamX.lamS_by (sc := defScope s_law_refused_right) (by decide +kernel)) rfl (fun _ _ _ _ _ => rfl)
          (fun _ _ _ _ _ _ _ hr' => pe_op (op_binK T.addS T.addF T.apart T.sf_Place (ok_addX T) (hr'.mono (by decide)) passLam) (pv 3) pe_str)) (pv 2) (nomark _))
        (pe_one (pe_cmpR (op_eqD hr.units) (pe_prp (pv 3) T.cl T.namesP (ok_names T) r2 noErr) (pe_callTy call_tuple_of (by rfl) T.z_tuple (by decide +kernel) (pa_cons (pv 1) pa_nil)) (nomark _))))))))))))), ?_⟩
    refine ⟨_, rfl, l, ns, rfl, hl, g, fun x H1 hx s1 px => ?_⟩
    have pen1 := hp.same s1
    have t1 := hT.ext s1
    have hl1 := s1 _ _ hl
    clear hp hT hl hx
    obtain ⟨xs1, hp1⟩ := pen1.lst
    obtain ⟨dx, fx, ex⟩ := px.ins
    have shT : Sh (txt ns) := txt_sh g
    have fits : ∀ (c : Str), (reprText c).length ≤ 1000000 → (reprText c).length ≤ sizeLine := fun c h => sz h
    -- the first value
    refine ⟨fun σ' H' => ∃ o, σ' = [some (.ref pn), some (.ref l), none, some (.ref x), some o, none] ∧ ExtM pn H1 H' ∧ Pen L H' pn (b + 2) ∧ Tabs (Tb A) H' ∧ Thg A H' o ∧ ∃ t, Knd H' o t, ?_, ?_⟩
    · refine s_set ⟨_, rfl, _, rfl, x, dx, fx, rfl, ex, x, ns, rfl, px, sz (by show 0 ≤ 1000000; omega), fun p1 h1 => ?_⟩
      have a1 := Same.new (o := .lst []) h1
      refine ⟨_, rfl, x, dx, fx, rfl, a1 _ _ ex, x, ns, rfl, px.same a1, sz (by show 1 ≤ 1000000; omega), fun p2 h2 => fun p3 h3 => ⟨sz (by show 11 ≤ 1000000; omega), fun p4 h4 => ?_⟩⟩
      have a2 := Same.new (o := .tup [V.str (txt ns)]) h2
      have a3 := Same.new (o := .dK []) h3
      have a4 := Same.new (o := .lst [V.non, .bl true, .int 0, .int 7, .str (txt ns), .str "/", .str "", .str "a", .ref p1, .ref p2, .ref p3]) h4
      have s4 := ((a1.trans a2).trans a3).trans a4
      have n1 : p1 ≠ pn := (ne_of_none hp1 h1).symm
      have n2 : p2 ≠ pn := (ne_of_none (a1 _ _ hp1) h2).symm
      have n3 : p3 ≠ pn := (ne_of_none ((a1.trans a2) _ _ hp1) h3).symm
      have n4 : p4 ≠ pn := (ne_of_none (((a1.trans a2).trans a3) _ _ hp1) h4).symm
      refine ⟨pn, L, p4, _, b + 2, rfl, pen1.same s4, upd_same, n4, by show 1 ≤ 11; omega, by show 11 ≤ 100000; omega, fun v H5 hv e5 pen5 => ?_⟩
      have t5 := tabs_mut (s4 _ _ hp1) e5 (t1.ext s4)
      have e15 : ExtM pn H1 H5 := (ExtM.sam (Sam.of s4)).trans (.sam e5)
      have fin : ∀ o t, Thg A H5 o → Knd H5 o t → ∃ o', [some (V.ref pn), some (.ref l), none, some (.ref x), some o, none] = [some (V.ref pn), some (.ref l), none, some (.ref x), some o', none] ∧ ExtM pn H1 H5 ∧ Pen L H5 pn (b + 2) ∧ Tabs (Tb A) H5 ∧ Thg A H5 o' ∧ ∃ t, Knd H5 o' t := fun o t h1 h2 => ⟨o, rfl, e15, pen5, t5, h1, t, h2⟩
      have q1 : H5 p1 = some (.lst (([] : List Str).map V.str)) := e5 _ _ n1 (a4 _ _ (a3 _ _ (a2 _ _ upd_same)))
      have q2 : H5 p2 = some (.tup ([txt ns].map V.str)) := e5 _ _ n2 (a4 _ _ (a3 _ _ upd_same))
      have q3 : H5 p3 = some (.dK []) := e5 _ _ n3 (a4 _ _ upd_same)
      simp only [List.mem_cons, List.not_mem_nil, or_false] at hv
      rcases hv with rfl | rfl | rfl | rfl | rfl | rfl | rfl | rfl | rfl | rfl | rfl
      · exact fin _ _ .non .non
      · exact fin _ _ (.bl _) (.bl _)
      · exact fin _ _ (.int (by omega) (by omega)) (.int _)
      · exact fin _ _ (.int (by omega) (by omega)) (.int _)
      · exact fin _ _ (.str shT) (.str _)
      · exact fin _ _ (.str ⟨by decide +kernel, by decide +kernel⟩) (.str _)
      · exact fin _ _ (.str ⟨by decide +kernel, by decide +kernel⟩) (.str _)
      · exact fin _ _ (.str ⟨by decide +kernel, by decide +kernel⟩) (.str _)
      · exact fin _ _ (.lst q1 (fun z hz => (List.not_mem_nil hz).elim) (by decide)) (.lst q1)
      · exact fin _ _ (.tup q2 (fun z hz => by rw [List.mem_singleton.mp hz]; exact shT) (by simp)) (.tup q2)
      · exact fin _ _ (.dic q3) (.dic q3)
    rintro σ' H2 ⟨o, rfl, e2, pen2, t2, th2, kd2, hk2⟩
    have px2 := Pl.extM px hp1 e2
    refine ⟨fun σ' H' => σ' = [some (.ref pn), some (.ref l), none, some (.ref x), some o, none] ∧ ExtM pn H1 H' ∧ Pen L H' pn (b + 2) ∧ Tabs (Tb A) H', ?_, ?_⟩
    · refine v_heardX (x := o) .plc t2 (fun H3 e3 E1 Q1 hE => ?_) fun q2 H5 e5 t5 f5 h5 => ?_
      · obtain ⟨dx3, fx3, ex3⟩ := (px2.extN e3).ins
        have hk3 := Knd.ext hk2 e3
        exact ⟨_, rfl, _, rfl, x, dx3, fx3, _, rfl, ex3, hk3, x, o, ns, rfl, px2.extN e3, .inr ⟨Knd.isP T hk3, hE⟩⟩
      · obtain ⟨as, G, ty, gH, gm, gas, rp, tl0⟩ := th2.rp (X := (cxOf CX0 P w K mg base ["_law_pen_here", "_law_some", "_law_due", "_law_here", "_law_odd", "_law_thing"] "_law_refused_right" (defScope s_law_refused_right) A.f_law_refused_right (.ref A.k_law_refused_right) A' outer s H E).nox) T
        have nq2 : q2 ∉ as := fun hm => by
          obtain ⟨o, ho, hn⟩ := gas q2 hm
          exact f5 q2 o ho hn rfl
        unfold tNil
        dsimp only
        refine rp_pair gm (by decide +kernel) tl0 rp nq2 h5 (gm _ _ e5 gH) fun H6 s6 => ?_
        refine ⟨_, rfl, sz (by show 2 ≤ 1000000; omega), fun q3 hq3 => ?_⟩
        have s7 := Same.new (o := .tup [V.str "place", o]) hq3
        have nq3 : q3 ∉ as := fun hm => by
          obtain ⟨o', ho, hn⟩ := gas q3 hm
          have := s6 _ _ (e5 _ _ ho hn)
          rw [this] at hq3; cases hq3
        dsimp only
        refine rp_pair gm (by decide +kernel) tl0 rp nq3 upd_same (gm _ _ (.of (s6.trans s7)) (gm _ _ e5 gH)) fun H8 s8 => ?_
        refine ⟨rfl, _, rfl, iteF' (by simp) ?_⟩
        have s9 := (s6.trans s7).trans s8
        have e9 := e5.trans (.of s9)
        exact ⟨rfl, e2.trans (.ext e9), pen2.extN e9, t5.ext s9⟩
    rintro σ' H3 ⟨rfl, e3, pen3, t3⟩
    clear th2 hk2 px2 e2 pen2 t2
    have px3 := Pl.extM px hp1 e3
    obtain ⟨xs3, hp3⟩ := pen3.lst
    obtain ⟨dx3, fx3, ex3⟩ := px3.ins
    -- the second value
    refine ⟨fun σ' H' => ∃ y, σ' = [some (.ref pn), some (.ref l), none, some (.ref x), some o, some y] ∧ ExtM pn H1 H' ∧ Pen L H' pn (b + 1) ∧ Tabs (Tb A) H' ∧ Knn H' y, ?_, ?_⟩
    · have lT : (txt ns).length ≤ 100 := shT.1
      have l1 : ("/" : Str).length = 1 := slash_len
      refine s_set ⟨_, rfl, _, rfl, x, dx3, fx3, rfl, ex3, x, ns, rfl, px3, _, _, rfl, rfl, sz (by rw [l1]; omega), ?_⟩
      refine ⟨_, rfl, x, dx3, fx3, rfl, ex3, x, ns, rfl, px3, sz (by show 1 ≤ 1000000; omega), fun p1 h1 => fun p2 h2 => ⟨sz (by show 0 ≤ 1000000; omega), fun p3 h3 => ⟨sz (by show 12 ≤ 1000000; omega), fun p4 h4 => ?_⟩⟩⟩
      have a1 := Same.new (o := .lst [V.str (txt ns)]) h1
      have a2 := Same.new (o := .dK []) h2
      have a3 := Same.new (o := .tup []) h3
      have a4 := Same.new (o := .lst [V.non, .bl true, .int 0, .int 7, .str "", .str "a", .str "//", .str (txt ns ++ "/"), .ref p1, .ref p2, .ref p3, .str "/A"]) h4
      have s4 := ((a1.trans a2).trans a3).trans a4
      have n1 : p1 ≠ pn := (ne_of_none hp3 h1).symm
      have n2 : p2 ≠ pn := (ne_of_none (a1 _ _ hp3) h2).symm
      have n3 : p3 ≠ pn := (ne_of_none ((a1.trans a2) _ _ hp3) h3).symm
      have n4 : p4 ≠ pn := (ne_of_none (((a1.trans a2).trans a3) _ _ hp3) h4).symm
      refine ⟨pn, L, p4, _, b + 1, rfl, pen3.same s4, upd_same, n4, by show 1 ≤ 12; omega, by show 12 ≤ 100000; omega, fun v H5 hv e5 pen5 => ?_⟩
      have t5 := tabs_mut (s4 _ _ hp3) e5 (t3.ext s4)
      have e15 : ExtM pn H1 H5 := e3.trans ((ExtM.sam (Sam.of s4)).trans (.sam e5))
      have fin : ∀ o', Knn H5 o' → ∃ y, [some (V.ref pn), some (.ref l), none, some (.ref x), some o, some o'] = [some (V.ref pn), some (.ref l), none, some (.ref x), some o, some y] ∧ ExtM pn H1 H5 ∧ Pen L H5 pn (b + 1) ∧ Tabs (Tb A) H5 ∧ Knn H5 y := fun o' h1 => ⟨o', rfl, e15, pen5, t5, h1⟩
      simp only [List.mem_cons, List.not_mem_nil, or_false] at hv
      rcases hv with rfl | rfl | rfl | rfl | rfl | rfl | rfl | rfl | rfl | rfl | rfl | rfl
      · exact fin _ (.oth .non (by decide))
      · exact fin _ (.oth (.bl _) (by decide))
      · exact fin _ (.oth (.int _) (by decide))
      · exact fin _ (.oth (.int _) (by decide))
      · exact fin _ (.str (by decide +kernel) (by decide +kernel))
      · exact fin _ (.str (by decide +kernel) (by decide +kernel))
      · exact fin _ (.str (by decide +kernel) (by decide +kernel))
      · exact fin _ (.str (by rw [strLen_append, l1]; omega) txt_slash)
      · exact fin _ (.oth (.lst (e5 _ _ n1 (a4 _ _ (a3 _ _ (a2 _ _ upd_same))))) (by decide))
      · exact fin _ (.oth (.dic (e5 _ _ n2 (a4 _ _ (a3 _ _ upd_same)))) (by decide))
      · exact fin _ (.oth (.tup (e5 _ _ n3 (a4 _ _ upd_same))) (by decide))
      · exact fin _ (.str (by decide +kernel) (by decide +kernel))
    rintro σ' H4 ⟨y, rfl, e4, pen4, t4, kn4⟩
    refine ⟨fun σ' H' => σ' = [some (.ref pn), some (.ref l), none, some (.ref x), some o, some y] ∧ ExtM pn H1 H' ∧ Pen L H' pn (b + 1) ∧ Tabs (Tb A) H', ?_, ?_⟩
    · refine ⟨_, rfl, _, rfl, v_inN T (Pl.extM px hp1 e4) kn4 fun H5 s5 => ⟨_, rfl, iteF' rfl ⟨rfl, e4.trans (.sam (Sam.of s5)), pen4.same s5, t4.ext s5⟩⟩⟩
    rintro σ' H5 ⟨rfl, e5, pen5, t5⟩
    clear kn4 e4 pen4 t4 e3 pen3 t3 px3 ex3 hp3
    have px5 := Pl.extM px hp1 e5
    obtain ⟨xs5, hp5⟩ := pen5.lst
    -- the third value
    refine ⟨fun σ' H' => ∃ y, σ' = [some (.ref pn), some (.ref l), none, some (.ref x), some o, some y] ∧ ExtM pn H1 H' ∧ Pen L H' pn b ∧ Tabs (Tb A) H' ∧ Trd A H' y, ?_, ?_⟩
    · refine s_set ⟨_, rfl, sz (by show 1 ≤ 1000000; omega), fun p1 h1 => ⟨sz (by show 1 ≤ 1000000; omega), fun p2 h2 => ⟨_, rfl, fun p3 h3 => ⟨sz (by show 14 ≤ 1000000; omega), fun p4 h4 => ?_⟩⟩⟩⟩
      have a1 := Same.new (o := .lst [V.str "a"]) h1
      have a2 := Same.new (o := .tup [V.str "a"]) h2
      have a3 := Same.new (o := .dK []) h3
      have a4 := Same.new (o := .lst [V.non, .bl true, .int 0, .str "", .str "A", .str "a/b", .str "/a", .str "abcdefgh9", .ref p1, .ref p2, .ref x, .ref p3, .str "a b", .str "a\n"]) h4
      have s4 := ((a1.trans a2).trans a3).trans a4
      have n1 : p1 ≠ pn := (ne_of_none hp5 h1).symm
      have n2 : p2 ≠ pn := (ne_of_none (a1 _ _ hp5) h2).symm
      have n3 : p3 ≠ pn := (ne_of_none ((a1.trans a2) _ _ hp5) h3).symm
      have n4 : p4 ≠ pn := (ne_of_none (((a1.trans a2).trans a3) _ _ hp5) h4).symm
      refine ⟨pn, L, p4, _, b, rfl, pen5.same s4, upd_same, n4, by show 1 ≤ 14; omega, by show 14 ≤ 100000; omega, fun v H6 hv e6 pen6 => ?_⟩
      have t6 := tabs_mut (s4 _ _ hp5) e6 (t5.ext s4)
      have e16 : ExtM pn H1 H6 := e5.trans ((ExtM.sam (Sam.of s4)).trans (.sam e6))
      have fin : ∀ o', Trd A H6 o' → ∃ y', [some (V.ref pn), some (.ref l), none, some (.ref x), some o, some o'] = [some (V.ref pn), some (.ref l), none, some (.ref x), some o, some y'] ∧ ExtM pn H1 H6 ∧ Pen L H6 pn b ∧ Tabs (Tb A) H6 ∧ Trd A H6 y' := fun o' h1 => ⟨o', rfl, e16, pen6, t6, h1⟩
      have q1 : H6 p1 = some (.lst ([("a" : Str)].map V.str)) := e6 _ _ n1 (a4 _ _ (a3 _ _ (a2 _ _ upd_same)))
      have q2 : H6 p2 = some (.tup ([("a" : Str)].map V.str)) := e6 _ _ n2 (a4 _ _ (a3 _ _ upd_same))
      have q3 : H6 p3 = some (.dK []) := e6 _ _ n3 (a4 _ _ upd_same)
      have sh1 : ∀ z ∈ [("a" : Str)], Sh z := fun z hz => by rw [List.mem_singleton.mp hz]; exact ⟨by decide +kernel, by decide +kernel⟩
      simp only [List.mem_cons, List.not_mem_nil, or_false] at hv
      rcases hv with rfl | rfl | rfl | rfl | rfl | rfl | rfl | rfl | rfl | rfl | rfl | rfl | rfl | rfl
      · exact fin _ (.oth .non .non (by decide))
      · exact fin _ (.oth (.bl _) (.bl _) (by decide))
      · exact fin _ (.oth (.int (by omega) (by omega)) (.int _) (by decide))
      · exact fin _ (.str ⟨by decide +kernel, by decide +kernel⟩ (by decide +kernel))
      · exact fin _ (.str ⟨by decide +kernel, by decide +kernel⟩ (by decide +kernel))
      · exact fin _ (.str ⟨by decide +kernel, by decide +kernel⟩ (by decide +kernel))
      · exact fin _ (.str ⟨by decide +kernel, by decide +kernel⟩ (by decide +kernel))
      · exact fin _ (.str ⟨by decide +kernel, by decide +kernel⟩ (by decide +kernel))
      · exact fin _ (.oth (.lst q1 sh1 (by decide)) (.lst q1) (by decide))
      · exact fin _ (.oth (.tup q2 sh1 (by decide)) (.tup q2) (by decide))
      · exact fin _ (.own (Pl.extM px hp1 e16))
      · exact fin _ (.oth (.dic q3) (.dic q3) (by decide))
      · exact fin _ (.str ⟨by decide +kernel, by decide +kernel⟩ (by decide +kernel))
      · exact fin _ (.str ⟨by decide +kernel, by decide +kernel⟩ (by decide +kernel))
    rintro σ' H6 ⟨y, rfl, e6, pen6, t6, tr6⟩
    have px6 := Pl.extM px hp1 e6
    refine ⟨fun σ' H' => σ' = [some (.ref pn), some (.ref l), none, some (.ref x), some o, some y] ∧ ExtM pn H1 H' ∧ Pen L H' pn b ∧ Tabs (Tb A) H', ?_, ?_⟩
    · refine v_heardX (x := y) .nm t6 (fun H7 e7 E1 Q1 hE => ⟨_, rfl, _, rfl, v_addR T (px6.extN e7) (tr6.ext e7) hE⟩) fun q2 H7 e7 t7 f7 h7 => ?_
      obtain ⟨as, G, ty, gH, gm, gas, rp, tl0⟩ := tr6.thg.rp (X := (cxOf CX0 P w K mg base ["_law_pen_here", "_law_some", "_law_due", "_law_here", "_law_odd", "_law_thing"] "_law_refused_right" (defScope s_law_refused_right) A.f_law_refused_right (.ref A.k_law_refused_right) A' outer s H E).nox) T
      have nq2 : q2 ∉ as := fun hm => by
        obtain ⟨o, ho, hn⟩ := gas q2 hm
        exact f7 q2 o ho hn rfl
      unfold tNil
      dsimp only
      refine rp_pair gm (by decide +kernel) tl0 rp nq2 h7 (gm _ _ e7 gH) fun H8 s8 => ?_
      refine ⟨_, rfl, sz (by show 2 ≤ 1000000; omega), fun q3 hq3 => ?_⟩
      have s9 := Same.new (o := .tup [V.str "name", y]) hq3
      have nq3 : q3 ∉ as := fun hm => by
        obtain ⟨o', ho, hn⟩ := gas q3 hm
        have := s8 _ _ (e7 _ _ ho hn)
        rw [this] at hq3; cases hq3
      dsimp only
      refine rp_pair gm (by decide +kernel) tl0 rp nq3 upd_same (gm _ _ (.of (s8.trans s9)) (gm _ _ e7 gH)) fun H9 s10 => ?_
      refine ⟨rfl, _, rfl, iteF' (by simp) ?_⟩
      have s11 := (s8.trans s9).trans s10
      have e11 := e7.trans (.of s11)
      exact ⟨rfl, e6.trans (.ext e11), pen6.extN e11, t7.ext s11⟩
    rintro σ' H7 ⟨rfl, e7, pen7, t7⟩
    clear tr6 e6 pen6 t6 px6 e5 pen5 t5 px5 hp5
    have hl7 := e7 _ _ hne hl1 (fun _ z => nomatch z)
    have px7 := Pl.extM px hp1 e7
    have g8 := g.1
    refine ⟨fun σ' H' => ∃ d, σ' = [some (.ref pn), some (.ref l), some (.ref d), some (.ref x), some o, some y] ∧ Same H7 H' ∧ ((ns.length = 8 ∧ H' d = some (.tup [.str "many", .int 8])) ∨ (ns.length < 8 ∧ ∃ u, H' d = some (.tup [.str "made", .ref u]) ∧ H' u = some (.tup ((ns ++ [("z9" : Str)]).map V.str)))), ?_, ?_⟩
    · refine s_set ⟨_, rfl, l, _, rfl, .inl (SqL.of hl7), rfl, _, rfl, ?_⟩
      by_cases h8 : ns.length = 8
      · refine iteT' (decide_eq_true (by rw [List.length_map, h8]; rfl)) ⟨sz (by show 2 ≤ 1000000; omega), fun d hd => ?_⟩
        exact ⟨d, rfl, Same.new hd, .inl ⟨h8, upd_same⟩⟩
      · refine iteF' (decide_eq_false fun e => h8 (by rw [List.length_map] at e; injection e with e; omega)) ?_
        refine ⟨_, rfl, l, _, rfl, .inl ⟨SqL.of hl7, fun u1 hu1 => ⟨sz (by show 1 ≤ 1000000; omega), fun u2 hu2 => ?_⟩⟩⟩
        have a1 := Same.new (o := .tup (ns.map V.str)) hu1
        have a2 := Same.new (o := .tup [V.str "z9"]) hu2
        refine c_cat (a2 _ _ upd_same) upd_same (by rw [List.length_map]; exact sz (by show ns.length + 1 ≤ 1000000; omega)) fun u3 H8 s8 hu3 => ⟨sz (by show 2 ≤ 1000000; omega), fun d hd => ?_⟩
        have a3 := Same.new (o := .tup [V.str "made", .ref u3]) hd
        exact ⟨d, rfl, ((a1.trans a2).trans s8).trans a3, .inr ⟨by omega, u3, upd_same, a3 _ _ (by rw [hu3, List.map_append]; rfl)⟩⟩
    rintro σ' H8 ⟨d, rfl, s8, hd⟩
    have e8 : ExtM pn H1 H8 := e7.trans (.sam (Sam.of s8))
    have px8 := px7.same s8
    have hl8 := s8 _ _ hl7
    have t8 := t7.ext s8
    have pen8 := pen7.same s8
    have rest : ∀ {H9 : Hp}, ExtN H8 H9 → Tabs (Tb A) H9 → (tOp (rEqD K) (tPrp A.c_Place (sp_names A) E0 (tVar 3)) (tCB (fun xs H Q => ∃ p ys, xs = [.ref p] ∧ ((SqL K H p ys ∧ ∀ l, H l = none → Q (.ref l) (upd H l (.tup ys))) ∨ (SqT K H p ys ∧ Q (.ref p) H))) (tCons (tVar 1) tNil))) [some (.ref pn), some (.ref l), some (.ref d), some (.ref x), some o, some y] H9 Q := fun {H9} e9 t9 => by
      have px9 := px8.extN e9
      have hl9 := e9 _ _ hl8 (fun _ z => nomatch z)
      obtain ⟨dx9, fx9, ex9⟩ := px9.ins
      refine ⟨_, rfl, x, dx9, fx9, rfl, ex9, x, ns, rfl, px9, fun w1 hw1 => ⟨_, rfl, l, _, rfl, .inl ⟨SqL.of hl9, fun w2 hw2 => ?_⟩⟩⟩
      have s10 := Same.new (o := .tup (ns.map V.str)) hw2
      refine c_eqT g.oks g.oks (SqT.of (s10 _ _ hw1)) (SqT.of upd_same) ?_
      rw [decide_eq_true rfl]
      have e10 := e9.trans (.of s10)
      exact k _ ((ExtM.sam (Sam.of s1)).trans (e8.trans (.ext e10))) (pen8.extN e10) (t9.ext s10)
    rcases hd with ⟨h8, hd⟩ | ⟨h8, u, hd, hu⟩
    · refine v_heardX (x := .int 8) .mny t8 (fun H9 e9 E1 Q1 hE => ?_) fun q H9 e9 t9 f9 hq => ?_
      · obtain ⟨dx9, fx9, ex9⟩ := (px8.extN e9).ins
        exact ⟨_, rfl, x, dx9, fx9, _, rfl, ex9, .str _, x, .str "z9", ns, rfl, px8.extN e9, .inl ⟨"z9", rfl, by decide +kernel, fun h => by omega, fun _ => hE⟩⟩
      · refine ⟨_, rfl, .tuple [.str "many", .int 8], .tuple [.str "many", .int 8], .tup (SqT.of hq) (.cons (.str _) (.cons (.int _) .nil)), .tup (SqT.of (e9 _ _ hd (fun _ z => nomatch z))) (.cons (.str _) (.cons (.int _) .nil)), by decide +kernel, by decide +kernel, _, rfl, iteT' (by decide +kernel) (rest e9 t9)⟩
    · have gz : Good (ns ++ [("z9" : Str)]) := g.snoc h8 (by decide +kernel)
      refine v_heardM (ns := ns ++ [("z9" : Str)]) t8 (fun H9 e9 E1 Q1 hR => ?_) fun q v H9 e9 t9 f9 hq hv => ?_
      · obtain ⟨dx9, fx9, ex9⟩ := (px8.extN e9).ins
        exact ⟨_, rfl, x, dx9, fx9, _, rfl, ex9, .str _, x, .str "z9", ns, rfl, px8.extN e9, .inl ⟨"z9", rfl, by decide +kernel, fun _ => hR, fun h => by omega⟩⟩
      · refine ⟨_, rfl, mdT (ns ++ [("z9" : Str)]), mdT (ns ++ [("z9" : Str)]), .tup (SqT.of hq) (.cons (.str _) (.cons (.tup (SqT.of hv) (dp_strs _)) .nil)), .tup (SqT.of (e9 _ _ hd (fun _ z => nomatch z))) (.cons (.str _) (.cons (.tup (SqT.of (e9 _ _ hu (fun _ z => nomatch z))) (dp_strs _)) .nil)), mdT_shaped gz.oks, mdT_shaped gz.oks, _, rfl, iteT' (mdT_eq _) (rest e9 t9)⟩
end
end NK

namespace NK
open PySem PySem.Spec PyProof.Rows L2 NA TL LamX
section
variable {P : Program} {w : World} {K : PySem.W.Frag} {mg : Str → Option Value} {base : Heap} {A : Ad}
def spLaw (A : Ad) (K : PySem.W.Frag) : Sp := fun vs H Q _ => ∃ (a : Addr) (ns : List Int), vs = [.ref a] ∧ SqL K H a (ns.map V.int) ∧ ns.length ≤ 63 ∧ Tabs (Tb A) H ∧ ∀ H', Q (.bl true) H'
theorem ok_law (T : Tx P K mg A) (TB : LamX.TabB base mg A.k_law_pair_right A.t_law_pair_right) (TB2 : LamX.TabB base mg A.k_law_refused_right A.t_law_refused_right) : FnG P w K mg base CX0 10 A.f_law (spLaw A K) := by
  refine fnge T.F_law sc_law (fun _ _ _ _ _ _ us hl => match us, hl with | [_], _ => rfl) (fun vs H Q E h => ?_) (fun cdv A' outer s H vs Q E hr hg h => ?_)
  · obtain ⟨a, ns, rfl, _⟩ := h; rfl
  · obtain ⟨a, ns, rfl, hS, hns, hT, k⟩ := h
    have r1 : Room 1 _ := hr.mono (by decide)
    have r2 : Room 2 _ := hr.mono (by decide)
    have r3 : Room 3 _ := hr.mono (by decide)
    have r4 : Room 4 _ := hr.mono (by decide)
    refine ⟨_, pss_cons (ps_set (i := 1) sc_law.nd rfl (.inl rfl) (pe_cl (ok_pen T) r1 (by rfl) T.mg_law_pen T.kp_law_pen pass0 (pa_cons (pv 0) pa_nil)))
      (pss_cons (ps_for PassesOwn.never rfl (pi_range1 (by rfl) T.z_range (pa_cons pe_int pa_nil)) (pg_name (i := 2) sc_law.nd rfl (.inl rfl))
        (pss_cons (ps_set (i := 3) sc_law.nd rfl (.inl rfl) (pe_cl (ok_lnames T) r3 (by rfl) T.mg_law_names T.kp_law_names pass0 (pa_cons (pv 1) pa_nil)))
        (pss_cons (ps_set (i := 4) sc_law.nd rfl (.inl rfl) (pe_cl (ok_near T) r4 (by rfl) T.mg_law_near T.kp_law_near pass0 (pa_cons (pv 1) (pa_cons (pv 3) pa_nil))))
        (pss_cons (ps_if (PW.pt (pw_or (pt_not (pt_val (pe_clG (ok_pair T TB) hr hg (by rfl) T.mg_law_pair_right T.kp_law_pair_right pass0 (pa_cons (pv 3) (pa_cons (pv 4) pa_nil))))) (pw_or1 (pt_not (pt_val (pe_clG (ok_pair T TB) hr hg (by rfl) T.mg_law_pair_right T.kp_law_pair_right pass0 (pa_cons (pv 3) (pa_cons (pv 3) pa_nil)))))))) (pss_one (ps_ret pe_bl)) pss_nil)
        (pss_one (ps_if (pt_not (pt_val (pe_clG (ok_refused T TB2) hr hg (by rfl) T.mg_law_refused_right T.kp_law_refused_right pass0 (pa_cons (pv 1) (pa_cons (pe_cl (ok_pick T) r2 (by rfl) T.mg_law_pick T.kp_law_pick pass0 (pa_cons (pv 1) (pa_cons (pe_lst (pa_cons (pv 3) (pa_cons (pv 4) pa_nil))) pa_nil))) pa_nil))))) (pss_one (ps_ret pe_bl)) pss_nil))))))
      (pss_one (ps_ret pe_bl))), ?_⟩
    refine ⟨_, rfl, a, ns, rfl, hS, fun pn L H1 hpn s1 pen1 => ?_⟩
    have t1 := hT.ext s1
    refine ⟨_, rfl, by decide, by decide, for_range (lo := 0) (n := 8) (fun i σ H' => ∃ v2 v3 v4, σ = [some (.ref a), some (.ref pn), v2, v3, v4] ∧ Pen L H' pn (24 * (8 - i)) ∧ Tabs (Tb A) H') ⟨_, _, _, rfl, pen1.less (by omega), t1⟩ ?_ (fun σ H' h => k H')⟩
    rintro i σ H0 hi ⟨v2, v3, v4, rfl, pen0, t0⟩
    obtain ⟨c, hc⟩ : ∃ c, c = 24 * (8 - (i + 1)) := ⟨_, rfl⟩
    have pen0 : Pen L H0 pn (c + 15 + 9) := pen0.less (by omega)
    obtain ⟨xs0, hp0⟩ := pen0.lst
    refine ⟨_, rfl, pn, L, c + 15, rfl, pen0, fun l1 n1 H2 e2 pen2 h10 h1 hl1 hn1 => ?_⟩
    obtain ⟨xs2, hp2⟩ := pen2.lst
    have t2 := tabs_mut hp0 e2 t0
    have g1 : Good n1 := ⟨hl1, hn1⟩
    have ne1 : l1 ≠ pn := (ne_of_none hp0 h10).symm
    refine ⟨_, rfl, _, rfl, pn, L, l1, n1, c + 4, rfl, pen2, h1, ne1, g1, fun l2 n2 H3 e3 pen3 h20 h2 g2 => ?_⟩
    obtain ⟨xs3, hp3⟩ := pen3.lst
    have t3 := tabs_mut hp2 e3 t2
    have ne2 : l2 ≠ pn := (ne_of_none hp2 h20).symm
    have h13 := e3 _ _ ne1 h1
    refine ⟨_, rfl, _, rfl, l1, l2, n1, n2, rfl, h13, h2, g1, g2, t3, fun H4 e4 t4 => ⟨_, rfl, iteF' rfl ?_⟩⟩
    have h14 := e4 _ _ h13 (fun _ z => nomatch z)
    have h24 := e4 _ _ h2 (fun _ z => nomatch z)
    refine ⟨_, rfl, _, rfl, l1, l1, n1, n1, rfl, h14, h14, g1, g1, t4, fun H5 e5 t5 => ⟨_, rfl, iteF' rfl ?_⟩⟩
    have h15 := e5 _ _ h14 (fun _ z => nomatch z)
    have h25 := e5 _ _ h24 (fun _ z => nomatch z)
    have pen5 := (pen3.extN e4).extN e5
    obtain ⟨xs5, hp5⟩ := pen5.lst
    refine ⟨_, rfl, _, rfl, _, rfl, _, rfl, sz (by show 2 ≤ 1000000; omega), fun q hq => ?_⟩
    have s6 := Same.new (o := .lst [V.ref l1, V.ref l2]) hq
    have nq : q ≠ pn := (ne_of_none hp5 hq).symm
    refine ⟨pn, L, q, _, c + 3, rfl, pen5.same s6, upd_same, nq, by show 1 ≤ 2; omega, by show 2 ≤ 100000; omega, fun v H7 hv e7 pen7 => ?_⟩
    have t7 := tabs_mut (s6 _ _ hp5) e7 (t5.ext s6)
    have one : ∀ lx nx, H7 lx = some (.lst (nx.map V.str)) → lx ≠ pn → Good nx → sp_refused A [.ref pn, .ref lx] H7 (fun v H1 => ∃ k, v = .bl k ∧ (fun b H1 => if (!b) = true then tRet (tC (V.bl false)) { nx := fun σ H' => ∃ v2 v3 v4, σ = [some (.ref a), some (.ref pn), v2, v3, v4] ∧ Pen L H' pn (24 * (8 - (i + 1))) ∧ Tabs (Tb A) H', rt := Q, bk := fun σ H' => Q (.bl true) H', ct := fun σ H' => ∃ v2 v3 v4, σ = [some (.ref a), some (.ref pn), v2, v3, v4] ∧ Pen L H' pn (24 * (8 - (i + 1))) ∧ Tabs (Tb A) H' } [some (.ref a), some (.ref pn), some (.int (0 + i)), some (.ref l1), some (.ref l2)] H1 else tNext { nx := fun σ H' => ∃ v2 v3 v4, σ = [some (.ref a), some (.ref pn), v2, v3, v4] ∧ Pen L H' pn (24 * (8 - (i + 1))) ∧ Tabs (Tb A) H', rt := Q, bk := fun σ H' => Q (.bl true) H', ct := fun σ H' => ∃ v2 v3 v4, σ = [some (.ref a), some (.ref pn), v2, v3, v4] ∧ Pen L H' pn (24 * (8 - (i + 1))) ∧ Tabs (Tb A) H' } [some (.ref a), some (.ref pn), some (.int (0 + i)), some (.ref l1), some (.ref l2)] H1) k H1) E0 := fun lx nx hx nex gx =>
      ⟨pn, L, lx, nx, c, rfl, pen7, hx, nex, gx, t7, fun H8 e8 pen8 t8 => ⟨_, rfl, iteF' rfl ⟨_, _, _, rfl, hc ▸ pen8, t8⟩⟩⟩
    simp only [List.mem_cons, List.not_mem_nil, or_false] at hv
    rcases hv with rfl | rfl
    · exact one l1 n1 (e7 _ _ ne1 (s6 _ _ h15)) ne1 g1
    · exact one l2 n2 (e7 _ _ ne2 (s6 _ _ h25)) ne2 g2
end
end NK

namespace NK
open PySem PySem.Spec PyProof.Rows L2 NA LamX
/-- what the law's row needs of the text -/
def LawG (l : PySem.W.OpenLaw) (w : World) (K : PySem.W.Frag) (mg : Str → Option Value) (fa : Addr) (h : Heap) : Prop :=
  ∃ (cs : List (Addr × Addr)) (sp : Sp), (∀ p ∈ cs, h.get? p.2 = some { cls := .none, data := .fields #[] }) ∧ (∀ p ∈ cs, K.lookup p.2 = none) ∧ (∀ p ∈ cs, PySem.W.codeHdIn K p.1 p.2 = true) ∧
    (∀ (H : Hp) (a : Addr) (ns : List Int), ns.length ≤ 63 → (∀ z ∈ ns, Builtin.Int.intBits z ≤ 1048576) → (∀ p ∈ cs, H p.2 = some (.tbl #[])) → SqL K H a (ns.map V.int) → sp [.ref a] H (fun v _ => v = .bl true) fun _ _ _ => False) ∧
    ∀ base : Heap, K.In base → base.Ns mainGlobals mg → (∀ p ∈ cs, LamX.TabB base mg p.1 p.2) → FnG l.prog w K mg base CX0 10 fa sp
theorem all_mk {l : PySem.W.OpenLaw} {w : World} {K : PySem.W.Frag} {mg : Str → Option Value} {fa : Addr} {h : Heap} {A : Ad} (hfa : mg "law" = some (.ref fa)) (T : Tx l.prog K mg A)
    (h0 : h.get? A.t_law_pair_right = some (PySem.W.tabObj #[])) (h1 : h.get? A.t_law_refused_right = some (PySem.W.tabObj #[])) : LawG l w K mg fa h := by
  have e : fa = A.f_law := by
    have := hfa.symm.trans T.mg_law
    injection this with h
    injection h
  subst e
  refine ⟨[(A.k_law_pair_right, A.t_law_pair_right), (A.k_law_refused_right, A.t_law_refused_right)], spLaw A K, fun p hp => ?_, fun p hp => ?_, fun p hp => ?_, fun H a ns hl hb hT hS => ?_, fun base hK hN hT => ?_⟩
  · simp only [List.mem_cons, List.not_mem_nil, or_false] at hp
    rcases hp with rfl | rfl
    · exact h0
    · exact h1
  · simp only [List.mem_cons, List.not_mem_nil, or_false] at hp
    rcases hp with rfl | rfl
    · exact T.nt_law_pair_right
    · exact T.nt_law_refused_right
  · simp only [List.mem_cons, List.not_mem_nil, or_false] at hp
    rcases hp with rfl | rfl
    · exact T.ch_law_pair_right
    · exact T.ch_law_refused_right
  · refine ⟨a, ns, rfl, hS, hl, fun p hp => ?_, fun _ => rfl⟩
    simp only [List.mem_cons, List.not_mem_nil, or_false] at hp
    rcases hp with rfl | rfl
    · exact TabS.nil (hT (A.k_law_pair_right, A.t_law_pair_right) (by simp))
    · exact TabS.nil (hT (A.k_law_refused_right, A.t_law_refused_right) (by simp))
  · exact ok_law T (hT (A.k_law_pair_right, A.t_law_pair_right) (by simp)) (hT (A.k_law_refused_right, A.t_law_refused_right) (by simp))
theorem walk {l : PySem.W.OpenLaw} {q : Program} {loose : List Str} {XP : (Str → Option Value) → Heap → Prop} {YP : World → Heap → Prop} {d : DefRec} {K : Params → PySem.W.Frag} (hn : l.most = some 63) (hdf : d.params.defaults = [])
    (hY : ∀ (w : World) (h : Heap), YP w h → (K w.params).In h)
    (F : ∀ (w : World) (mg : Str → Option Value) (fa : Addr) (h : Heap), YP w h → (K w.params).In h → h.Ns mainGlobals mg → mg d.name = some (.ref fa) → LawG l w (K w.params) mg fa h) :
    PySem.W.WalkO q loose XP YP l.row.toRowW d [] (fun f vs => PySem.call f vs) :=
  walk_G (n := 63) (k := 10) hn (by decide) hdf ⟨rfl, by decide, by decide⟩ hY F
end NK
open PySem PySem.W PyProof.Rows in
set_option maxRecDepth 100000 in
set_option maxHeartbeats 0 in
theorem PySem.Challenge.cw_nearestsays_k03_places_above_and_below_holds : PySem.Challenge.rw_nearestsays_k03_places_above_and_below.Holds := by
  w_on; o_law; k_head; (case hw => w_witness2)
  k_fill
  refine NK.walk (l := PySem.Challenge.rw_nearestsays_k03_places_above_and_below) rfl rfl (fun w h Y => PySem.W.km_in_of Y) ?F
  case F =>
    intro w mg fa h Y KX G hmg
    refine' NK.all_mk hmg (NK.tx_mk KX G ?mg_Place ?pg_Place ?hd_Place ?po_Place ?sa_Place ?mk_Place ?kc_Place ?sf_Place ?ca_Place ?cn_Place ?ct_Place ?cm_Place ?ob_Place ?ne_Place ?rd_Place ?ga_Place ?np_Place ?ic_Place ?ty_Place ?most_Place ?ra_Place ?su_Place ?suNoneType_Place ?subool_Place ?suint_Place ?sulist_Place ?sutuple_Place ?sudict_Place ?sustr_Place ?dnNoneType_Place ?dnbool_Place ?dnint_Place ?dnlist_Place ?dntuple_Place ?dndict_Place ?rn_Place ?mg_TableError ?ga_TableError ?gg_TableError ?be_TableError ?hd_TableError ?ca_TableError ?ob_TableError ?ic_TableError ?ty_TableError ?mg_BadPlace ?ga_BadPlace ?gg_BadPlace ?be_BadPlace ?hd_BadPlace ?ca_BadPlace ?ob_BadPlace ?ic_BadPlace ?ty_BadPlace ?mg_BadName ?ga_BadName ?gg_BadName ?be_BadName ?hd_BadName ?ca_BadName ?ob_BadName ?ic_BadName ?ty_BadName ?mg_TooMany ?ga_TooMany ?gg_TooMany ?be_TooMany ?hd_TooMany ?ca_TooMany ?ob_TooMany ?ic_TooMany ?ty_TooMany ?xa_BadPlace_init ?xb_BadPlace_init ?xc_BadPlace_init ?xd_BadPlace_init ?xe_BadPlace_init ?xf_BadPlace_init ?xg_BadPlace_init ?xh_BadPlace_init ?xi_BadPlace_init ?xj_BadPlace_init ?xk_BadPlace_init ?xl_BadPlace_init ?xm_BadPlace_init ?xn_BadPlace_init ?xo_BadPlace_init ?xp_BadPlace_init ?xq_BadPlace_init ?xr_BadPlace_init ?xs_BadPlace_init ?xt_BadPlace_init ?xu_BadPlace_init ?xa_BadName_init ?xb_BadName_init ?xc_BadName_init ?xd_BadName_init ?xe_BadName_init ?xf_BadName_init ?xg_BadName_init ?xh_BadName_init ?xi_BadName_init ?xj_BadName_init ?xk_BadName_init ?xl_BadName_init ?xm_BadName_init ?xn_BadName_init ?xo_BadName_init ?xp_BadName_init ?xq_BadName_init ?xr_BadName_init ?xs_BadName_init ?xt_BadName_init ?xu_BadName_init ?xa_TooMany_init ?xb_TooMany_init ?xc_TooMany_init ?xd_TooMany_init ?xe_TooMany_init ?xf_TooMany_init ?xg_TooMany_init ?xh_TooMany_init ?xi_TooMany_init ?xj_TooMany_init ?xk_TooMany_init ?xl_TooMany_init ?xm_TooMany_init ?xn_TooMany_init ?xo_TooMany_init ?xp_TooMany_init ?xq_TooMany_init ?xr_TooMany_init ?xs_TooMany_init ?xt_TooMany_init ?xu_TooMany_init ?mg_is_name ?fn_is_name ?l_is_name ?cc_is_name ?kk_is_name ?kp_is_name ?mg_is_text ?fn_is_text ?l_is_text ?cc_is_text ?kk_is_text ?kp_is_text ?mg_names_in ?fn_names_in ?l_names_in ?cc_names_in ?kk_names_in ?kp_names_in ?mg_text_of ?fn_text_of ?l_text_of ?cc_text_of ?kk_text_of ?kp_text_of ?at_Place_init ?fn_Place_init ?l_Place_init ?cc_Place_init ?kk_Place_init ?kp_Place_init ?at_Place_names ?ge_Place_names ?tk_Place_names ?rc_Place_names ?fn_Place_names ?l_Place_names ?cc_Place_names ?kk_Place_names ?kp_Place_names ?at_Place_text ?ge_Place_text ?tk_Place_text ?rc_Place_text ?fn_Place_text ?l_Place_text ?cc_Place_text ?kk_Place_text ?kp_Place_text ?at_Place_add ?fn_Place_add ?l_Place_add ?cc_Place_add ?kk_Place_add ?kp_Place_add ?at_Place_contains ?fn_Place_contains ?l_Place_contains ?cc_Place_contains ?kk_Place_contains ?kp_Place_contains ?at_Place_and ?fn_Place_and ?l_Place_and ?cc_Place_and ?kk_Place_and ?kp_Place_and ?at_Place_str ?fn_Place_str ?l_Place_str ?cc_Place_str ?kk_Place_str ?kp_Place_str ?at_Place_repr ?fn_Place_repr ?l_Place_repr ?cc_Place_repr ?kk_Place_repr ?kp_Place_repr ?mg_law_pen ?fn_law_pen ?l_law_pen ?cc_law_pen ?kk_law_pen ?kp_law_pen ?mg_law_draw ?fn_law_draw ?l_law_draw ?cc_law_draw ?kk_law_draw ?kp_law_draw ?mg_law_pick ?fn_law_pick ?l_law_pick ?cc_law_pick ?kk_law_pick ?kp_law_pick ?mg_law_names ?fn_law_names ?l_law_names ?cc_law_names ?kk_law_names ?kp_law_names ?mg_law_near ?fn_law_near ?l_law_near ?cc_law_near ?kk_law_near ?kp_law_near ?mg_law_made ?fn_law_made ?l_law_made ?cc_law_made ?kk_law_made ?kp_law_made ?mg_law_heard ?fn_law_heard ?l_law_heard ?cc_law_heard ?kk_law_heard ?kp_law_heard ?mg_law_common ?fn_law_common ?l_law_common ?cc_law_common ?kk_law_common ?kp_law_common ?mg_law_pair_right ?fn_law_pair_right ?l_law_pair_right ?cc_law_pair_right ?kk_law_pair_right ?kp_law_pair_right ?mg_law_refused_right ?fn_law_refused_right ?l_law_refused_right ?cc_law_refused_right ?kk_law_refused_right ?kp_law_refused_right ?mg_law ?fn_law ?l_law ?cc_law ?kk_law ?kp_law ?lK_law_pair_right ?cK_law_pair_right ?kC_law_pair_right ?tC_law_pair_right ?hC_law_pair_right ?nt_law_pair_right ?lK_law_refused_right ?cK_law_refused_right ?kC_law_refused_right ?tC_law_refused_right ?hC_law_refused_right ?nt_law_refused_right ?nn_law_pair_right_law_refused_right ?k_SIGNS ?k_LONGEST_NAME ?k_MOST_NAMES ?z_abs ?z_all ?z_int ?z_isinstance ?z_len ?z_list ?z_min ?z_range ?z_repr ?z_str ?z_super ?z_tuple ?z_zip ?tb_BadName ?tb_BadPlace ?tb_TooMany ?nv_BadName ?nv_BadPlace ?nv_TooMany ?xBadName_BadPlace ?xBadName_TooMany ?xBadPlace_BadName ?xBadPlace_TooMany ?xTooMany_BadName ?xTooMany_BadPlace ?nn_BadName_BadPlace ?nn_BadName_TooMany ?nn_BadPlace_TooMany ?badd_NoneType ?badd_bool ?badd_int ?badd_str ?badd_list ?badd_tuple ?badd_dict ?bradd_NoneType ?bradd_bool ?bradd_int ?bradd_str ?bradd_list ?bradd_tuple ?bradd_dict ?band_NoneType ?band_bool ?band_int ?band_str ?band_list ?band_tuple ?band_dict ?brand_NoneType ?brand_bool ?brand_int ?brand_str ?brand_list ?brand_tuple ?brand_dict) ?tb_law_pair_right ?tb_law_refused_right
    (case mg_Place => k_is)
    (case pg_Place => k_is)
    (case hd_Place => k_is)
    (case po_Place => k_is)
    (case sa_Place => k_is)
    (case mk_Place => k_is)
    (case kc_Place => k_is)
    (case sf_Place => k_is)
    (case ca_Place => k_is)
    (case cn_Place => k_is)
    (case ct_Place => k_is)
    (case cm_Place => k_is)
    (case ob_Place => k_is)
    (case ne_Place => k_is)
    (case rd_Place => k_is)
    (case ga_Place => k_is)
    (case np_Place => k_is)
    (case ic_Place => k_is)
    (case ty_Place => k_is)
    (case most_Place => k_is)
    (case ra_Place => k_is)
    (case su_Place => k_is)
    (case suNoneType_Place => k_is)
    (case subool_Place => k_is)
    (case suint_Place => k_is)
    (case sulist_Place => k_is)
    (case sutuple_Place => k_is)
    (case sudict_Place => k_is)
    (case sustr_Place => k_is)
    (case dnNoneType_Place => k_is)
    (case dnbool_Place => k_is)
    (case dnint_Place => k_is)
    (case dnlist_Place => k_is)
    (case dntuple_Place => k_is)
    (case dndict_Place => k_is)
    (case rn_Place => k_is)
    (case mg_TableError => k_is)
    (case ga_TableError => k_is)
    (case gg_TableError => k_is)
    (case be_TableError => k_is)
    (case hd_TableError => k_is)
    (case ca_TableError => k_is)
    (case ob_TableError => k_is)
    (case ic_TableError => k_is)
    (case ty_TableError => k_is)
    (case mg_BadPlace => k_is)
    (case ga_BadPlace => k_is)
    (case gg_BadPlace => k_is)
    (case be_BadPlace => k_is)
    (case hd_BadPlace => k_is)
    (case ca_BadPlace => k_is)
    (case ob_BadPlace => k_is)
    (case ic_BadPlace => k_is)
    (case ty_BadPlace => k_is)
    (case mg_BadName => k_is)
    (case ga_BadName => k_is)
    (case gg_BadName => k_is)
    (case be_BadName => k_is)
    (case hd_BadName => k_is)
    (case ca_BadName => k_is)
    (case ob_BadName => k_is)
    (case ic_BadName => k_is)
    (case ty_BadName => k_is)
    (case mg_TooMany => k_is)
    (case ga_TooMany => k_is)
    (case gg_TooMany => k_is)
    (case be_TooMany => k_is)
    (case hd_TooMany => k_is)
    (case ca_TooMany => k_is)
    (case ob_TooMany => k_is)
    (case ic_TooMany => k_is)
    (case ty_TooMany => k_is)
    (case xa_BadPlace_init => k_is)
    (case xb_BadPlace_init => rfl)
    (case xc_BadPlace_init => k_is)
    (case xd_BadPlace_init => k_is)
    (case xe_BadPlace_init => k_is)
    (case xf_BadPlace_init => k_is)
    (case xg_BadPlace_init => k_is)
    (case xh_BadPlace_init => k_is)
    (case xi_BadPlace_init => k_is)
    (case xj_BadPlace_init => k_is)
    (case xk_BadPlace_init => ks_is)
    (case xl_BadPlace_init => k_is)
    (case xm_BadPlace_init => k_is)
    (case xn_BadPlace_init => k_is)
    (case xo_BadPlace_init => first | rfl | decide +kernel)
    (case xp_BadPlace_init => k_is)
    (case xq_BadPlace_init => k_is)
    (case xr_BadPlace_init => k_is)
    (case xs_BadPlace_init => k_is)
    (case xt_BadPlace_init => rfl)
    (case xu_BadPlace_init => first | rfl | decide +kernel)
    (case xa_BadName_init => k_is)
    (case xb_BadName_init => rfl)
    (case xc_BadName_init => k_is)
    (case xd_BadName_init => k_is)
    (case xe_BadName_init => k_is)
    (case xf_BadName_init => k_is)
    (case xg_BadName_init => k_is)
    (case xh_BadName_init => k_is)
    (case xi_BadName_init => k_is)
    (case xj_BadName_init => k_is)
    (case xk_BadName_init => ks_is)
    (case xl_BadName_init => k_is)
    (case xm_BadName_init => k_is)
    (case xn_BadName_init => k_is)
    (case xo_BadName_init => first | rfl | decide +kernel)
    (case xp_BadName_init => k_is)
    (case xq_BadName_init => k_is)
    (case xr_BadName_init => k_is)
    (case xs_BadName_init => k_is)
    (case xt_BadName_init => rfl)
    (case xu_BadName_init => first | rfl | decide +kernel)
    (case xa_TooMany_init => k_is)
    (case xb_TooMany_init => rfl)
    (case xc_TooMany_init => k_is)
    (case xd_TooMany_init => k_is)
    (case xe_TooMany_init => k_is)
    (case xf_TooMany_init => k_is)
    (case xg_TooMany_init => k_is)
    (case xh_TooMany_init => k_is)
    (case xi_TooMany_init => k_is)
    (case xj_TooMany_init => k_is)
    (case xk_TooMany_init => ks_is)
    (case xl_TooMany_init => k_is)
    (case xm_TooMany_init => k_is)
    (case xn_TooMany_init => k_is)
    (case xo_TooMany_init => first | rfl | decide +kernel)
    (case xp_TooMany_init => k_is)
    (case xq_TooMany_init => k_is)
    (case xr_TooMany_init => k_is)
    (case xs_TooMany_init => k_is)
    (case xt_TooMany_init => rfl)
    (case xu_TooMany_init => first | rfl | decide +kernel)
    (case mg_is_name => k_is)
    (case fn_is_name => k_is)
    (case l_is_name => k_is)
    (case cc_is_name => k_is)
    (case kk_is_name => k_is)
    (case kp_is_name => k_is)
    (case mg_is_text => k_is)
    (case fn_is_text => k_is)
    (case l_is_text => k_is)
    (case cc_is_text => k_is)
    (case kk_is_text => k_is)
    (case kp_is_text => k_is)
    (case mg_names_in => k_is)
    (case fn_names_in => k_is)
    (case l_names_in => k_is)
    (case cc_names_in => k_is)
    (case kk_names_in => k_is)
    (case kp_names_in => k_is)
    (case mg_text_of => k_is)
    (case fn_text_of => k_is)
    (case l_text_of => k_is)
    (case cc_text_of => k_is)
    (case kk_text_of => k_is)
    (case kp_text_of => k_is)
    (case at_Place_init => k_is)
    (case fn_Place_init => k_is)
    (case l_Place_init => k_is)
    (case cc_Place_init => k_is)
    (case kk_Place_init => k_is)
    (case kp_Place_init => k_is)
    (case at_Place_names => k_is)
    (case ge_Place_names => k_is)
    (case tk_Place_names => k_is)
    (case rc_Place_names => k_is)
    (case fn_Place_names => k_is)
    (case l_Place_names => k_is)
    (case cc_Place_names => k_is)
    (case kk_Place_names => k_is)
    (case kp_Place_names => k_is)
    (case at_Place_text => k_is)
    (case ge_Place_text => k_is)
    (case tk_Place_text => k_is)
    (case rc_Place_text => k_is)
    (case fn_Place_text => k_is)
    (case l_Place_text => k_is)
    (case cc_Place_text => k_is)
    (case kk_Place_text => k_is)
    (case kp_Place_text => k_is)
    (case at_Place_add => k_is)
    (case fn_Place_add => k_is)
    (case l_Place_add => k_is)
    (case cc_Place_add => k_is)
    (case kk_Place_add => k_is)
    (case kp_Place_add => k_is)
    (case at_Place_contains => k_is)
    (case fn_Place_contains => k_is)
    (case l_Place_contains => k_is)
    (case cc_Place_contains => k_is)
    (case kk_Place_contains => k_is)
    (case kp_Place_contains => k_is)
    (case at_Place_and => k_is)
    (case fn_Place_and => k_is)
    (case l_Place_and => k_is)
    (case cc_Place_and => k_is)
    (case kk_Place_and => k_is)
    (case kp_Place_and => k_is)
    (case at_Place_str => k_is)
    (case fn_Place_str => k_is)
    (case l_Place_str => k_is)
    (case cc_Place_str => k_is)
    (case kk_Place_str => k_is)
    (case kp_Place_str => k_is)
    (case at_Place_repr => k_is)
    (case fn_Place_repr => k_is)
    (case l_Place_repr => k_is)
    (case cc_Place_repr => k_is)
    (case kk_Place_repr => k_is)
    (case kp_Place_repr => k_is)
    (case mg_law_pen => k_is)
    (case fn_law_pen => k_is)
    (case l_law_pen => k_is)
    (case cc_law_pen => k_is)
    (case kk_law_pen => k_is)
    (case kp_law_pen => k_is)
    (case mg_law_draw => k_is)
    (case fn_law_draw => k_is)
    (case l_law_draw => k_is)
    (case cc_law_draw => k_is)
    (case kk_law_draw => k_is)
    (case kp_law_draw => k_is)
    (case mg_law_pick => k_is)
    (case fn_law_pick => k_is)
    (case l_law_pick => k_is)
    (case cc_law_pick => k_is)
    (case kk_law_pick => k_is)
    (case kp_law_pick => k_is)
    (case mg_law_names => k_is)
    (case fn_law_names => k_is)
    (case l_law_names => k_is)
    (case cc_law_names => k_is)
    (case kk_law_names => k_is)
    (case kp_law_names => k_is)
    (case mg_law_near => k_is)
    (case fn_law_near => k_is)
    (case l_law_near => k_is)
    (case cc_law_near => k_is)
    (case kk_law_near => k_is)
    (case kp_law_near => k_is)
    (case mg_law_made => k_is)
    (case fn_law_made => k_is)
    (case l_law_made => k_is)
    (case cc_law_made => k_is)
    (case kk_law_made => k_is)
    (case kp_law_made => k_is)
    (case mg_law_heard => k_is)
    (case fn_law_heard => k_is)
    (case l_law_heard => k_is)
    (case cc_law_heard => k_is)
    (case kk_law_heard => k_is)
    (case kp_law_heard => k_is)
    (case mg_law_common => k_is)
    (case fn_law_common => k_is)
    (case l_law_common => k_is)
    (case cc_law_common => k_is)
    (case kk_law_common => k_is)
    (case kp_law_common => k_is)
    (case mg_law_pair_right => k_is)
    (case fn_law_pair_right => k_is)
    (case l_law_pair_right => k_is)
    (case cc_law_pair_right => k_is)
    (case kk_law_pair_right => k_is)
    (case kp_law_pair_right => k_is)
    (case mg_law_refused_right => k_is)
    (case fn_law_refused_right => k_is)
    (case l_law_refused_right => k_is)
    (case cc_law_refused_right => k_is)
    (case kk_law_refused_right => k_is)
    (case kp_law_refused_right => k_is)
    (case mg_law => k_is)
    (case fn_law => k_is)
    (case l_law => k_is)
    (case cc_law => k_is)
    (case kk_law => k_is)
    (case kp_law => k_is)
    (case lK_law_pair_right => k_is)
    (case cK_law_pair_right => k_is)
    (case kC_law_pair_right => k_is)
    (case tC_law_pair_right => rfl)
    (case hC_law_pair_right => first | kernel_rfl | rfl | decide +kernel)
    (case nt_law_pair_right => first | k_is | kernel_rfl)
    (case lK_law_refused_right => k_is)
    (case cK_law_refused_right => k_is)
    (case kC_law_refused_right => k_is)
    (case tC_law_refused_right => rfl)
    (case hC_law_refused_right => first | kernel_rfl | rfl | decide +kernel)
    (case nt_law_refused_right => first | k_is | kernel_rfl)
    (case nn_law_pair_right_law_refused_right => decide)
    (case k_SIGNS => k_is)
    (case k_LONGEST_NAME => k_is)
    (case k_MOST_NAMES => k_is)
    (case z_abs => k_is)
    (case z_all => k_is)
    (case z_int => k_is)
    (case z_isinstance => k_is)
    (case z_len => k_is)
    (case z_list => k_is)
    (case z_min => k_is)
    (case z_range => k_is)
    (case z_repr => k_is)
    (case z_str => k_is)
    (case z_super => k_is)
    (case z_tuple => k_is)
    (case z_zip => k_is)
    (case tb_BadName => k_is)
    (case tb_BadPlace => k_is)
    (case tb_TooMany => k_is)
    (case nv_BadName => k_is)
    (case nv_BadPlace => k_is)
    (case nv_TooMany => k_is)
    (case xBadName_BadPlace => k_is)
    (case xBadName_TooMany => k_is)
    (case xBadPlace_BadName => k_is)
    (case xBadPlace_TooMany => k_is)
    (case xTooMany_BadName => k_is)
    (case xTooMany_BadPlace => k_is)
    (case nn_BadName_BadPlace => decide)
    (case nn_BadName_TooMany => decide)
    (case nn_BadPlace_TooMany => decide)
    (case badd_NoneType => k_is)
    (case badd_bool => k_is)
    (case badd_int => k_is)
    (case badd_str => k_is)
    (case badd_list => k_is)
    (case badd_tuple => k_is)
    (case badd_dict => k_is)
    (case bradd_NoneType => k_is)
    (case bradd_bool => k_is)
    (case bradd_int => k_is)
    (case bradd_str => k_is)
    (case bradd_list => k_is)
    (case bradd_tuple => k_is)
    (case bradd_dict => k_is)
    (case band_NoneType => k_is)
    (case band_bool => k_is)
    (case band_int => k_is)
    (case band_str => k_is)
    (case band_list => k_is)
    (case band_tuple => k_is)
    (case band_dict => k_is)
    (case brand_NoneType => k_is)
    (case brand_bool => k_is)
    (case brand_int => k_is)
    (case brand_str => k_is)
    (case brand_list => k_is)
    (case brand_tuple => k_is)
    (case brand_dict => k_is)
    (case tb_law_pair_right => exact PySem.W.km_tabs_of Y _ (by first | decide | simp))
    (case tb_law_refused_right => exact PySem.W.km_tabs_of Y _ (by first | decide | simp))

