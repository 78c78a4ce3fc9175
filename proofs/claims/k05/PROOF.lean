import PyProof.Rows.All
import Wide.All
import OpenK.AllK
import Wide.FinOn
import HandS.ForMost
import HandS.Star
import HandS.Property
import HandS.ClsMeth
import HandS.OwnEq
import HandS.SlotsOwn
import HandS.TupAny
import HandS.IsInst
import HandS.Defaults
import KE.KOpsOwn
import PyProof.InstEq
import HandS.Walk
import KE.LtData
import HandS.Records
import HandS.Style
import PySem.Challenge.RW_nearestsays_k05_whole_places_meet
set_option Elab.async false
set_option linter.all false
set_option maxRecDepth 100000
set_option maxHeartbeats 4000000
/-! Part A: rules for own classes that the hand layer lacks. -/
namespace NA
open PySem PySem.Spec PyProof.Rows L2

section
variable {prog : Program} {w : World} {A : Around} {E : Value → Shared → Prop} {s : Shared} {K : PySem.W.Frag} {x C L f : Addr} {h0 : Heap} {m : Str → Option Value} {ox : Obj} {od : Option Obj} {b tb : Value}
/-- object.__ne__ on an instance with its own == -/
theorem ne_call {Q : Value → Shared → Prop} (hu : A.in1.units < cLine) (X : K.In s.heap) (I : PySem.W.InstAt s.heap x ox C od) (ho : PySem.W.subIn K (.ref C) (.type "object") = some true) (hs : PySem.W.findIn K (.ref C) "__eq__" = some (some (.ref f))) (hf : PySem.W.isFn K (.ref f) = true)
    (h : wpAny (model prog w) A.in1 (call (.ref f) [.ref x, b]) (fun v s' => ∃ r, v = .bool r ∧ Q (.bool (!r)) s') E s) : wpAny (model prog w) A (call (.builtin "object.__ne__") [.ref x, b]) Q E s := by
  refine wpAny_call (codeAny_call_builtin F.cmp_object.ne.plain F.cmpEntry_ne (PySem.W.check_slot F.cmpKind_ne F.cmpSplit_ne (I.type.andThen (PySem.W.looks_subIn X ho)) (F.cmpArgs_ne _ _) ?_))
  show wpAny (model prog w) A.in1 (Builtin.«object.__ne__» ⟨[.ref x, b], []⟩) _ _ s
  unfold Builtin.«object.__ne__»
  repeat (first
    | with_reducible refine wpAny_cRoomFor hu ?_
    | (refine wpAny_bind (m := callSpecialIfBound? (.ref x) (Str.ofString "__eq__") [b])
        (PySem.W.ifBound_K X I hs hf (wpAny_mono h (fun r s' hr => by
          obtain ⟨b, rfl, hq⟩ := hr
          repeat (first | exact hq | exact wpAny_pure hq | exact wpAny_truthy_bool hq | (refine wpAny_bind (m := truthy (.bool _)) (wpAny_truthy_bool ?_)) | wp_step)) fun _ _ e => e)))
    | wp_step)
theorem ifBound_b {M : Model} {name : Str} {id : String} {args : List Value} {Q : Option Value → Shared → Prop} (X : K.In s.heap) (I : PySem.W.InstAt s.heap x ox C od) (hs : PySem.W.findIn K (.ref C) name = some (some (.builtin id))) (S : Slot "object" name id)
    (h : wpAny M A (call (.builtin id) (.ref x :: args)) (fun v => Q (some v)) E s) : wpAny M A (callSpecialIfBound? (.ref x) name args) Q E s := by
  simp only [callSpecialIfBound?, bindSpecialIfBound?]
  refine wpAny_holding (wpAny_bind (wpAny_bind (wpAny_bind (I.type.here ((PySem.W.looks_findIn X hs).here ?_)))))
  simp only [S.bind]
  refine wpAny_bind (wpAny_askSetting (wpAny_ite ?_))
  have fin : wpAny M A (call (.builtin id) ([.ref x] ++ args) >>= fun v => pure (some v)) Q E s := wpAny_bind (wpAny_mono h (fun v s' h' => wpAny_pure h') fun _ _ h' => h')
  split
  · exact wpAny_bind (wpAny_pure (wpAny_pure fin))
  · exact wpAny_tryCatch (wpAny_bind (wpAny_pure (wpAny_pure fin)))
theorem ne_K {Q : Value → Shared → Prop} (hu : A.units + 1 < cLine) (X : K.In s.heap) (I : PySem.W.InstAt s.heap x ox C od) (hb : PySem.W.Looks (model prog w) s.heap (typeOf b) tb) (hn : PySem.W.notFirst K C tb = true)
    (ho : PySem.W.subIn K (.ref C) (.type "object") = some true) (hne : PySem.W.findIn K (.ref C) "__ne__" = some (some (.builtin "object.__ne__"))) (hs : PySem.W.findIn K (.ref C) "__eq__" = some (some (.ref f))) (hf : PySem.W.isFn K (.ref f) = true)
    (h : wpAny (model prog w) A.in1 (call (.ref f) [.ref x, b]) (fun v s' => ∃ r, v = .bool r ∧ Q (.bool (!r)) s') E s) : wpAny (model prog w) A (richCompare .NotEq (.ref x) b) Q E s := by
  have one : wpAny (model prog w) A (tryCompare (.ref x) (cmpInfo .NotEq).2.1 b) (fun r s' => ∃ v, r = some v ∧ Q v s') E s := by
    unfold tryCompare
    refine wpAny_bind (ifBound_b X I hne F.cmp_object.ne (ne_call hu X I ho hs hf (wpAny_mono h (fun v s' hv => ?_) fun _ _ e => e)))
    obtain ⟨r, rfl, hq⟩ := hv
    exact ⟨r, rfl, wpAny_pure ⟨_, rfl, hq⟩⟩
  unfold richCompare
  simp only [oneThing_ref]
  refine wpAny_holding (wpAny_bind (wpAny_cRoomFor (Nat.lt_of_succ_lt hu) ?_))
  refine wpAny_bind (I.type.here (wpAny_bind (hb.here ?_)))
  split
  · rename_i q
    have e : PySem.W.subIn K tb (.ref C) = some false := by
      rcases Bool.or_eq_true_iff.mp hn with e | e
      · rw [beq_iff_eq.mp e] at q; simp at q
      · exact beq_iff_eq.mp e
    refine wpAny_bind ((PySem.W.looks_subIn X e).here ?_)
    simp only [Bool.false_eq_true, if_false]
    refine wpAny_bind (wpAny_mono one (fun r s' z => ?_) fun _ _ e => e)
    obtain ⟨v, rfl, hq⟩ := z
    exact wpAny_pure hq
  · refine wpAny_bind (wpAny_pure ?_)
    simp only [Bool.false_eq_true, if_false]
    refine wpAny_bind (wpAny_mono one (fun r s' z => ?_) fun _ _ e => e)
    obtain ⟨v, rfl, hq⟩ := z
    exact wpAny_pure hq
end

/-! ### over the layer -/
section
variable {X : Cx} {CX : CXT} {pins : List (Addr × Obj)} {σ : L2.St} {H : Hp} {s : Shared} {C f : Addr} {n : Nat} {sp : Sp} {E : XK}
/-- an instance's record -/
theorem inst_of {a dx : Addr} {fs : List (Str × V)} (I : Inv X pins σ H s) (h : H a = some (.ins C dx fs)) : ∃ od, PySem.W.InstAt s.heap a (PySem.W.instObj C dx) C (some od) := by
  obtain ⟨mA, O, _⟩ := ins_get I.hok h
  obtain ⟨od, J, _⟩ := O.look
  exact ⟨od, J⟩
/-- the callee somewhere below the running body -/
theorem run_sub {A : Around} {Q : VK} {us : List Value} {vs : List V} (F : FnR X.prog X.w X.K X.mg X.base CX n f sp) (hr : Room n A) (fr : A.frames = X.A.frames) (hx : Passes CX X E) (I : Inv X pins σ H s) (r : Vals vs us) (h : sp vs H Q E) :
    wpAny (model X.prog X.w) A (call (.ref f) us) (EP X pins σ Q) X.xe s := by
  have e := I.env0
  exact wpAny_call (SlX.run_at F hr ⟨by rw [fr]; exact e.frames, e.mod, e.bs, e.bsz, e.funs, e.frf, e.hok, e.bare⟩ hx I r h)

/-- what the text says of an own special method -/
structure Spc (K : PySem.W.Frag) (C : Addr) (name : Str) (f : Addr) : Prop where
  at_ : PySem.W.findIn K (.ref C) name = some (some (.ref f))
  fn : PySem.W.isFn K (.ref f) = true

/-- a op b, both of the class at C -/
def rBinC (C : Addr) (sp : Sp) (E : XK) : R2 := fun x y H Q => ∃ a dx fs b dy gs, x = .ref a ∧ y = .ref b ∧ H a = some (.ins C dx fs) ∧ H b = some (.ins C dy gs) ∧ sp [x, y] H Q E
theorem op_binC {op : Operator} (S : Spc X.K C (PySem.dunder op.info.2) f) (hc : PySem.W.selfFirst X.K C = true) (F : FnR X.prog X.w X.K X.mg X.base CX n f sp) (hr : Room n X.A) (hx : Passes CX X E) : OpR X (binaryOp op) (rBinC C sp E) := by
  intro pins s σ H x y v u Q I rx ry h
  obtain ⟨a, dx, fs, b, dy, gs, rfl, rfl, ha, hb, q⟩ := h
  cases (show v = Value.ref a from rx)
  cases (show u = Value.ref b from ry)
  obtain ⟨od, J⟩ := inst_of I ha
  obtain ⟨od', J'⟩ := inst_of I hb
  obtain ⟨m, hF⟩ := I.fr
  refine PySem.W.binop_K hF I.ok.mod.kin J J'.type hc S.at_ S.fn ?_
  refine wpAny_mono (run_sub (vs := [.ref a, .ref b]) F hr rfl hx I (.cons rfl (.cons rfl .nil)) q) (fun w s' z => ?_) fun _ _ x => x
  obtain ⟨z', H', I', rz, qz⟩ := z
  exact SlX.cmpback rz ⟨z', H', I', rz, qz⟩
/-- a op y, a of the class at C, y a text -/
def rBinS (C : Addr) (sp : Sp) (E : XK) : R2 := fun x y H Q => ∃ a dx fs z, x = .ref a ∧ y = .str z ∧ H a = some (.ins C dx fs) ∧ sp [x, y] H Q E
structure BinT (K : PySem.W.Frag) (C : Addr) (nm T : String) : Prop where
  r : ∃ rc, PySem.W.findIn K (.ref C) (dunderR nm) = some rc ∧ (rc = none ∨ ∃ g : Addr, rc = some (.ref g))
  t : ∃ fo, PySem.W.findIn K (.type T) (PySem.dunder nm) = some fo
  tr : ∃ ro, PySem.W.findIn K (.type T) (dunderR nm) = some ro
  sub : PySem.W.subIn K (.type T) (.ref C) = some false
theorem op_binS {op : Operator} (S : Spc X.K C (PySem.dunder op.info.2) f) (B : BinT X.K C op.info.2 "str") (hc : PySem.W.selfFirst X.K C = true) (F : FnR X.prog X.w X.K X.mg X.base CX n f sp) (hr : Room n X.A) (hx : Passes CX X E) : OpR X (binaryOp op) (rBinS C sp E) := by
  intro pins s σ H x y v u Q I rx ry h
  obtain ⟨a, dx, fs, z, rfl, rfl, ha, q⟩ := h
  cases (show v = Value.ref a from rx)
  obtain ⟨t, e⟩ := (show ∃ t, u = Value.str z t from ry)
  cases e
  obtain ⟨od, J⟩ := inst_of I ha
  obtain ⟨m, hF⟩ := I.fr
  obtain ⟨rc, h1, h2⟩ := B.r
  obtain ⟨fo, h3⟩ := B.t
  obtain ⟨ro, h4⟩ := B.tr
  refine PySem.W.ksp_binT (T := "str") hF I.ok.mod.kin J rfl hc S.at_ S.fn h1 h2 h3 h4 B.sub ?_
  refine wpAny_mono (run_sub (vs := [.ref a, .str z]) F hr rfl hx I (.cons rfl (.cons ⟨t, rfl⟩ .nil)) q) (fun w s' z => ?_) fun _ _ x => x
  obtain ⟨z', H', I', rz, qz⟩ := z
  exact SlX.cmpback rz ⟨z', H', I', rz, qz⟩

/-- y in a, y not in a: a of the class at C -/
def rInC (C : Addr) (sp : Sp) (E : XK) (neg : Bool) : R2 := fun y x H Q => ∃ a dx fs, x = .ref a ∧ H a = some (.ins C dx fs) ∧ sp [x, y] H (fun v H' => ∃ r, v = .bl r ∧ Q (.bl (if neg then !r else r)) H') E
theorem op_inC (S : Spc X.K C "__contains__" f) (F : FnR X.prog X.w X.K X.mg X.base CX n f sp) (hr : Room n X.A) (hx : Passes CX X E) : OpR X (compareOp .In) (rInC C sp E false) := by
  intro pins s σ H y x u v Q I ry rx h
  obtain ⟨a, dx, fs, rfl, ha, q⟩ := h
  cases (show v = Value.ref a from rx)
  obtain ⟨od, J⟩ := inst_of I ha
  obtain ⟨m, hF⟩ := I.fr
  refine PySem.W.in_K hF I.ok.mod.kin J S.at_ S.fn ?_
  refine wpAny_mono (run_sub (vs := [.ref a, y]) F hr rfl hx I (.cons rfl (.cons ry .nil)) q) (fun w s' z => ?_) fun _ _ x => x
  obtain ⟨z', H', I', rz, r, rfl, qz⟩ := z
  cases (show w = Value.bool r from rz)
  exact wpAny_truthy_bool ⟨.bl r, H', I', rfl, qz⟩
theorem op_notInC (S : Spc X.K C "__contains__" f) (F : FnR X.prog X.w X.K X.mg X.base CX n f sp) (hr : Room n X.A) (hx : Passes CX X E) : OpR X (compareOp .NotIn) (rInC C sp E true) := by
  intro pins s σ H y x u v Q I ry rx h
  obtain ⟨a, dx, fs, rfl, ha, q⟩ := h
  cases (show v = Value.ref a from rx)
  obtain ⟨od, J⟩ := inst_of I ha
  obtain ⟨m, hF⟩ := I.fr
  refine PySem.W.notIn_K hF I.ok.mod.kin J S.at_ S.fn ?_
  refine wpAny_mono (run_sub (vs := [.ref a, y]) F hr rfl hx I (.cons rfl (.cons ry .nil)) q) (fun w s' z => ?_) fun _ _ x => x
  obtain ⟨z', H', I', rz, r, rfl, qz⟩ := z
  cases (show w = Value.bool r from rz)
  exact wpAny_truthy_bool ⟨.bl (!r), H', I', rfl, qz⟩

/-- len(a) -/
def rLenC (C : Addr) (sp : Sp) (E : XK) : List V → Hp → VK → Prop := fun xs H Q => ∃ a dx fs, xs = [.ref a] ∧ H a = some (.ins C dx fs) ∧ sp [.ref a] H (fun v H' => ∃ k : Int, v = .int k ∧ (0 ≤ k ∧ k < 2 ^ 63) ∧ Q v H') E
theorem call_lenC (S : Spc X.K C "__len__" f) (F : FnR X.prog X.w X.K X.mg X.base CX n f sp) (hr : Room (n + 1) X.A) (hx : Passes CX X E) : CallR X (.builtin "len") (rLenC C sp E) := by
  intro pins s σ H xs us Q I r h
  obtain ⟨a, dx, fs, rfl, ha, q⟩ := h
  obtain ⟨u, rfl, ru⟩ := vals1 r
  cases (show u = Value.ref a from ru)
  obtain ⟨od, J⟩ := inst_of I ha
  obtain ⟨m, hF⟩ := I.fr
  refine PySem.W.len_K hF I.ok.mod.kin J S.at_ S.fn ?_
  refine wpAny_mono (run_sub (vs := [.ref a]) F hr.in1 rfl hx I (.cons rfl .nil) q) (fun w s' z => ?_) fun _ _ x => x
  obtain ⟨z', H', I', rz, k, rfl, hk, qz⟩ := z
  obtain ⟨t, e⟩ := (show ∃ t, w = Value.int k t from rz)
  cases e
  exact ⟨hk, ⟨.int k, H', I'.tok _, ⟨_, rfl⟩, qz⟩⟩
/-- the truth of a -/
theorem tru_C (S : Spc X.K C "__bool__" f) (F : FnR X.prog X.w X.K X.mg X.base CX n f sp) (hr : Room n X.A) (hx : Passes CX X E) :
    TruR X (fun x H Q => ∃ a dx fs, x = .ref a ∧ H a = some (.ins C dx fs) ∧ sp [.ref a] H (fun v H' => ∃ r, v = .bl r ∧ Q r H') E) := by
  intro pins s σ H x u Q I rx h
  obtain ⟨a, dx, fs, rfl, ha, q⟩ := h
  cases (show u = Value.ref a from rx)
  obtain ⟨od, J⟩ := inst_of I ha
  obtain ⟨m, hF⟩ := I.fr
  refine PySem.W.truthy_K hF I.ok.mod.kin J S.at_ S.fn ?_
  refine wpAny_mono (run_sub (vs := [.ref a]) F hr rfl hx I (.cons rfl .nil) q) (fun w s' z => ?_) fun _ _ x => x
  obtain ⟨z', H', I', rz, r, rfl, qz⟩ := z
  cases (show w = Value.bool r from rz)
  exact ⟨H', I', qz⟩

/-- a == b, a != b: a of the class at C, b an instance of C too -/
def rEqC (C : Addr) (sp : Sp) (E : XK) (neg : Bool) : R2 := fun x y H Q => ∃ a dx fs b dy gs, x = .ref a ∧ y = .ref b ∧ H a = some (.ins C dx fs) ∧ H b = some (.ins C dy gs) ∧ sp [x, y] H (fun v H' => ∃ r, v = .bl r ∧ Q (.bl (if neg then !r else r)) H') E
theorem notFirst_self {K : PySem.W.Frag} {C : Addr} : PySem.W.notFirst K C (.ref C) = true := by simp [PySem.W.notFirst]
theorem op_eqC (S : Spc X.K C "__eq__" f) (F : FnR X.prog X.w X.K X.mg X.base CX n f sp) (hr : Room n X.A) (hx : Passes CX X E) : OpR X (compareOp .Eq) (rEqC C sp E false) := by
  intro pins s σ H x y v u Q I rx ry h
  obtain ⟨a, dx, fs, b, dy, gs, rfl, rfl, ha, hb, q⟩ := h
  cases (show v = Value.ref a from rx)
  cases (show u = Value.ref b from ry)
  obtain ⟨od, J⟩ := inst_of I ha
  obtain ⟨od', J'⟩ := inst_of I hb
  obtain ⟨m, hF⟩ := I.fr
  show wpAny (model X.prog X.w) X.A (richCompare .Eq (.ref a) (.ref b)) (EP X pins σ Q) X.xe s
  refine PySem.W.cmp_K (op := .Eq) (tb := .ref C) hr.units0 hF I.ok.mod.kin J J'.type notFirst_self S.at_ S.fn ?_
  refine wpAny_mono (run_sub (vs := [.ref a, .ref b]) F hr rfl hx I (.cons rfl (.cons rfl .nil)) q) (fun w s' z => ?_) fun _ _ x => x
  obtain ⟨z', H', I', rz, r, rfl, qz⟩ := z
  cases (show w = Value.bool r from rz)
  exact ⟨.bl r, H', I', rfl, qz⟩
structure NeC (K : PySem.W.Frag) (C : Addr) : Prop where
  ob : PySem.W.subIn K (.ref C) (.type "object") = some true
  ne : PySem.W.findIn K (.ref C) "__ne__" = some (some (.builtin "object.__ne__"))
theorem op_neC (S : Spc X.K C "__eq__" f) (Ne : NeC X.K C) (F : FnR X.prog X.w X.K X.mg X.base CX n f sp) (hr : Room (n + 1) X.A) (hx : Passes CX X E) : OpR X (compareOp .NotEq) (rEqC C sp E true) := by
  intro pins s σ H x y v u Q I rx ry h
  obtain ⟨a, dx, fs, b, dy, gs, rfl, rfl, ha, hb, q⟩ := h
  cases (show v = Value.ref a from rx)
  cases (show u = Value.ref b from ry)
  obtain ⟨od, J⟩ := inst_of I ha
  obtain ⟨od', J'⟩ := inst_of I hb
  show wpAny (model X.prog X.w) X.A (richCompare .NotEq (.ref a) (.ref b)) (EP X pins σ Q) X.xe s
  refine ne_K (tb := .ref C) (hu_of hr) I.kIn J J'.type notFirst_self Ne.ob Ne.ne S.at_ S.fn ?_
  refine wpAny_mono (run_sub (vs := [.ref a, .ref b]) F hr.in1 rfl hx I (.cons rfl (.cons rfl .nil)) q) (fun w s' z => ?_) fun _ _ x => x
  obtain ⟨z', H', I', rz, r, rfl, qz⟩ := z
  cases (show w = Value.bool r from rz)
  exact ⟨r, rfl, .bl (!r), H', I', rfl, qz⟩
end
end NA

/-! Part B: short words over the layer. -/
namespace NA
open PySem PySem.Spec PyProof.Rows L2

def FunE (K : PySem.W.Frag) (x qual : Str) (st : Stmt) (f : Addr) : Prop := ∃ fd, Fun K x qual st f fd
section
variable {P : Program} {w : World} {K : PySem.W.Frag} {mg : Str → Option Value} {base : Heap} {CX : CXT} {k : Nat} {f : Addr} {sp : Sp}
theorem fnr_of {fd : FuncData} {ps : List Str} (F : FnOk P w K mg base CX k f fd ps sp) (hb : Binds K fd ps []) : FnR P w K mg base CX k f sp := by
  refine (F.raw hb .nil).imp fun vs H Q E h => ?_
  show sp (vs ++ []) H Q E
  rw [List.append_nil]
  exact h
/-- a def that lets no error out, by its body -/
theorem fnr {x qual : Str} {st : Stmt} {N ps : List Str} (F : FunE K x qual st f) (S : FnScope N ps (defScope st))
    (hb : ∀ (kV doc pm : Value) (an : Option Addr) (cdv ct : Value) (us : List Value), us.length = ps.length → bindArgs (PySem.W.fnOf x qual (defArgs st) (defBody st) (defScope st) .none kV doc pm an cdv ct) ⟨us, []⟩ = pure (ps.zip us))
    (len : ∀ vs H Q E, sp vs H Q E → vs.length = ps.length)
    (hbody : ∀ (cdv : Value) (A : Around) (outer : List Env) (s : Shared) (H : Hp) (vs : List V) (Q : VK) (E : XK), Room k (A.deeper (envOfC qual (defScope st) s.heap.objs.size f cdv)) → sp vs H Q E →
      ∃ t, PSs (cxOf CX0 P w K mg base N qual (defScope st) f cdv A outer s H E).nox (defBody st) t ∧ t { nx := fun _ H' => Q .non H', rt := Q } (start N vs) H) : FnR P w K mg base CX0 (k + 1) f sp := by
  obtain ⟨fd, F⟩ := F
  exact fnr_of (F.ok S len hbody) (F.binds hb)
end

section
variable {P : Program} {w : World} {K : PySem.W.Frag} {mg : Str → Option Value} {base : Heap} {k : Nat} {f : Addr} {sp : Sp}
/-- a def with *v that lets no error out -/
theorem fnr_star {x qual : Str} {st : Stmt} {N ps : List Str} {pv : Str} (F : FunE K x qual st f) (S : FnScope N (ps ++ [pv]) (defScope st))
    (hb : ∀ (kV doc pm : Value) (an : Option Addr) (cdv ct : Value) (us rest : List Value), us.length = ps.length → bindArgs (PySem.W.fnOf x qual (defArgs st) (defBody st) (defScope st) .none kV doc pm an cdv ct) ⟨us ++ rest, []⟩ = (newTuple rest >>= fun t => pure (ps.zip us ++ [(pv, t)])))
    (hbody : ∀ (cdv : Value) (A : Around) (outer : List Env) (s : Shared) (H : Hp) (vs : List V) (Q : VK) (E : XK), Room k (A.deeper (envOfC qual (defScope st) s.heap.objs.size f cdv)) → sp vs H Q E →
      ∃ t, PSs (cxOf CX0 P w K mg base N qual (defScope st) f cdv A outer s H E).nox (defBody st) t ∧ t { nx := fun _ H' => Q .non H', rt := Q } (start N vs) H) :
    FnR P w K mg base CX0 (k + 1) f (fun vs H Q E => ∃ ws rest, vs = ws ++ rest ∧ ws.length = ps.length ∧ rest.length ≤ sizeLine ∧ ∀ p, H p = Option.none → sp (ws ++ [V.ref p]) (upd H p (.tup rest)) Q E) := by
  obtain ⟨fd, F⟩ := F
  obtain ⟨oc, od, kV, doc, pm, an, cdv, ct, osl, e, lk, hcd⟩ := id F.ex
  subst e
  refine StX.fn_star lk hcd S StX.cxUp_none (hb kV doc pm an cdv ct) fun A outer s H vs Q E hr hsp => ?_
  obtain ⟨t, h, q⟩ := hbody cdv A outer s H vs Q E hr hsp
  exact ⟨t, h.nox, q⟩
end
theorem kit_sub {K : PySem.W.Frag} {t : Value} {C : Addr} {b : Bool} (hne : (t == .ref C) = false) (h1 : PySem.W.isClsIn K C = true) (h2 : PySem.W.typeIn K (.ref C) = some (.type "type")) (h3 : PySem.W.subIn K t (.ref C) = some b) : PySem.W.kitOne K t (.ref C) = some b := by
  unfold PySem.W.kitOne
  rw [if_neg (by rw [hne]; exact Bool.false_ne_true)]
  show (if ((PySem.W.clsIn K C).isSome && PySem.W.typeIn K (.ref C) == some (.type "type")) = true then PySem.W.subIn K t (.ref C) else none) = some b
  have h1' : (PySem.W.clsIn K C).isSome = true := h1
  rw [h1', h2, if_pos (by rfl), h3]
theorem kit_self {K : PySem.W.Frag} {t : Value} : PySem.W.kitOne K t t = some true := if_pos (beq_self_eq_true _)

/-! ### calls by positional promises -/
section
variable {X : Cx} {CX : CXT} {k i : Nat} {f C : Addr} {sp : Sp} {E : XK} {x m : Str} {e o : Expr} {es : List Expr} {te ta : TE} {t : TA} {p sp_ pos apos : Pos}
/-- f(e, ..) -/
def tCl (sp : Sp) (E : XK) (t : TA) : TE := fun σ H Q => t σ H fun vs H1 => sp vs H1 Q E
theorem pe_cl (F : FnR X.prog X.w X.K X.mg X.base CX k f sp) (hr : Room k X.A) (hg : Gl X x) (hm : X.mg x = some (.ref f)) (hk : PySem.W.keepIn X.K (.ref f) = true) (hx : Passes CX X E)
    (ha : PA X (e :: es) t) (hdb : (x == ("__debug__" : Str)) = false := by decide) (he : starEach (e :: es) X.env = (false, eval e X.env) :: starEach es X.env := by rfl) (hpl : (backTo pos (starEach es X.env)).any (·.1) = false := by rfl) :
    PE X (.Call (.Name x p) (e :: es) [] pos) (tCl sp E t) := by
  refine ⟨fun pins s σ H Q I h => ?_⟩
  refine wpAny_Call_Name_kw (ld_glob I hg hm ?_ hdb)
  refine PySem.W.callWith_K (h₀ := X.base) I.ok.mod.kin hk (thn (ha.run pos pins s σ H _ I h) fun us s1 ⟨vs, H1, I1, r, q⟩ => ⟨I1.kIn, ?_⟩) he hpl
  exact wpAny_call (run_fnR F hr hx I1 r q)
theorem pe_cl0 (F : FnR X.prog X.w X.K X.mg X.base CX k f sp) (hr : Room k X.A) (hg : Gl X x) (hm : X.mg x = some (.ref f)) (hk : PySem.W.keepIn X.K (.ref f) = true) (hx : Passes CX X E)
    (hdb : (x == ("__debug__" : Str)) = false := by decide) : PE X (.Call (.Name x p) [] [] pos) (tCl sp E tNil) := by
  refine ⟨fun pins s σ H Q I h => ?_⟩
  refine wpAny_Call_Name_kw (ld_glob I hg hm ?_ hdb)
  exact PySem.W.callWith_K0 I.kIn hk (wpAny_call (run_fnR (us := []) F hr hx I .nil h))
/-- C(), C(*e) of the module's class; cls(*e) of a local name -/
theorem pe_mk0 (M : Mk X.K C f) (F : FnR X.prog X.w X.K X.mg X.base CX k f sp) (hr : Room (k + 1) X.A) (hg : Gl X x) (hm : X.mg x = some (.ref C)) (hx : Passes CX X E)
    (hdb : (x == ("__debug__" : Str)) = false := by decide) : PE X (.Call (.Name x p) [] [] pos) (StX.tMakeR C sp E tNil) := by
  refine ⟨fun pins s σ H Q I h => ?_⟩
  refine wpAny_Call_Name_kw (ld_glob I hg hm ?_ hdb)
  exact PySem.W.callWith_K0 I.kIn M.kp (StX.run_makeR (us := []) M F hr hx I .nil h)
def tMkS (K : PySem.W.Frag) (C : Addr) (sp : Sp) (E : XK) (te : TE) : TE := fun σ H Q => te σ H fun y H1 => ∃ a xs, y = V.ref a ∧ (SqT K H1 a xs ∨ SqL K H1 a xs) ∧ ∀ x dx, H1 x = Option.none → H1 dx = Option.none → dx ≠ x →
  sp (V.ref x :: xs) (upd (upd H1 dx (.own x)) x (.ins C dx [])) (fun v H2 => v = .non ∧ Q (.ref x) H2) E
theorem pe_mkS (M : Mk X.K C f) (F : FnR X.prog X.w X.K X.mg X.base CX k f sp) (hr : Room (k + 1) X.A) (hg : Gl X x) (hm : X.mg x = some (.ref C)) (hx : Passes CX X E) (he : PE X e te)
    (hdb : (x == ("__debug__" : Str)) = false := by decide) (hst : starEach [.Starred e sp_] X.env = [(true, eval e X.env)] := by rfl) : PE X (.Call (.Name x p) [.Starred e sp_] [] pos) (tMkS X.K C sp E te) := by
  refine ⟨fun pins s σ H Q I h => ?_⟩
  refine wpAny_Call_Name_kw (ld_glob I hg hm ?_ hdb)
  refine PySem.W.callWith_S (h₀ := X.base) I.ok.mod.kin M.kp (thn (he.run pins s σ H _ I h) fun v s1 ⟨y, H1, I1, ry, a, xs, ey, hxs, q⟩ => ?_) hst
  subst ey
  obtain rfl : v = Value.ref a := ry
  exact StX.star_any I1 hxs fun us s2 I2 rv => ⟨I2.kIn, StX.run_makeR M F hr hx I2 rv q⟩
def tMkSL (K : PySem.W.Frag) (C : Addr) (i : Nat) (sp : Sp) (E : XK) (te : TE) : TE := fun σ H Q => σ[i]? = some (some (.ref C)) ∧ tMkS K C sp E te σ H Q
theorem pe_mkSL (M : Mk X.K C f) (F : FnR X.prog X.w X.K X.mg X.base CX k f sp) (hr : Room (k + 1) X.A) (hN : X.N[i]? = some x) (hv : Vis X.env.scope x) (hx : Passes CX X E) (he : PE X e te)
    (hd : (x == ("__debug__" : Str)) = false := by decide) (hcd : (x == ("__classdict__" : Str)) = false := by decide) (hst : starEach [.Starred e sp_] X.env = [(true, eval e X.env)] := by rfl) : PE X (.Call (.Name x p) [.Starred e sp_] [] pos) (tMkSL X.K C i sp E te) := by
  refine ⟨fun pins s σ H Q I h => ?_⟩
  obtain ⟨hs, h⟩ := h
  refine wpAny_Call_Name_kw (thn ((pe_var (pos := p) (i := i) hN hv hd hcd).run pins s σ H (fun v H1 => v = .ref C ∧ H1 = H) I ⟨.ref C, hs, rfl, rfl⟩) fun u s1 ⟨v, H1, I1, r1, ev, eH⟩ => ?_)
  subst ev
  rw [eH] at I1
  cases r1
  refine PySem.W.callWith_S (h₀ := X.base) I.ok.mod.kin M.kp (thn (he.run pins s1 σ H _ I1 h) fun v s1 ⟨y, H1, I1, ry, a, xs, ey, hxs, q⟩ => ?_) hst
  subst ey
  obtain rfl : v = Value.ref a := ry
  exact StX.star_any I1 hxs fun us s2 I2 rv => ⟨I2.kIn, StX.run_makeR M F hr hx I2 rv q⟩
/-- o.m() -/
theorem pe_mth0 {pl : Sem Bool} (he : PE X o ta) (c : Cls X.K C) (hm : Meth X.K C m f) (F : FnR X.prog X.w X.K X.mg X.base CX k f sp) (hr : Room k X.A) (hx : Passes CX X E)
    (ht : eval (.Call (.Attribute o m apos) [] [] pos) X.env = (do
      let ov ← eval o X.env
      standAt apos.atName
      let (f, first) ← holding [ov] (getMethod ov m pl)
      callWith pos f first (backTo pos (starEach [] X.env)) (backToKw pos (keywordEach [] X.env))) := by rfl) :
    PE X (.Call (.Attribute o m apos) [] [] pos) (tMethR C m sp E ta tNil) := by
  refine ⟨fun pins s σ H Q I h => ?_⟩
  refine PySem.W.methodCall_KW (pl := pl) (thn (he.run pins s σ H _ I h) fun u s1 ⟨x, H1, I1, rx, a, dx, fs, ex, ea, l, q⟩ => ?_) ht
  subst ex
  obtain rfl : u = Value.ref a := rx
  refine getmeth_ok I1 ea c hm l ?_
  exact PySem.W.callWith_K0 (first := [.ref a]) I1.kIn hm.kp (wpAny_call (run_fnR (us := [.ref a]) (vs := [.ref a]) F hr hx I1 (.cons rfl .nil) q))
/-- e.f, a property -/
def tPrp (C : Addr) (sp : Sp) (E : XK) (ta : TE) : TE := fun σ H Q => ta σ H fun x H1 => ∃ a dx fs, x = .ref a ∧ H1 a = some (.ins C dx fs) ∧ sp [.ref a] H1 Q E
theorem pe_prp {g q : Addr} (he : PE X e ta) (c : Cls X.K C) (hp : PropOf X.K C m q g) (F : FnR X.prog X.w X.K X.mg X.base CX k g sp) (hr : Room (k + 1) X.A)
    (hx : ∀ (H : Hp) (s : Shared) (e : Value) (s' : Shared), CX X.stack H s E e s' → False)
    (hab : attributeBase e m X.env (eval e X.env) = eval e X.env := by rfl) : PE X (.Attribute e m pos) (tPrp C sp E ta) := by
  refine ⟨fun pins s σ H Q I h => ?_⟩
  refine attr_of hab (thn (he.run pins s σ H _ I h) fun u s1 ⟨x, H1, I1, rx, a, dx, fs, ex, ea, q⟩ => ?_)
  subst ex
  obtain rfl : u = Value.ref a := rx
  obtain ⟨mA, O, _⟩ := ins_get I1.hok ea
  obtain ⟨od, J, _⟩ := O.look
  obtain ⟨rest, hrec⟩ := hp.rec_
  have hc : (PySem.W.clsIn X.K C).isSome = true := by
    obtain ⟨cd, hc, _⟩ := PySem.W.any_some c.hd
    rw [hc]
    rfl
  have I2 := I1.tok (s1.toks + 1)
  refine PySem.W.get_bind I1.kIn J (PySem.W.plainGet_of (c.get m)).1 (PySem.W.findObj_data hc hp.at_ hp.get hp.tak) (PySem.W.plainGet_of (c.get m)).2 (wpAny_call (PySem.W.prop_get (s := { s1 with toks := s1.toks + 1 }) I1.kIn hrec ?_))
  refine codeAny_mono (F X.A.in1 X.stack { s1 with toks := s1.toks + 1 } H1 [.ref a] [.ref a] Q E hr.in1 I2.env0.in1 (.cons rfl .nil) q) fun r s' hq => ?_
  cases r with
  | error er => exact (hx _ _ _ _ hq).elim
  | ok fl =>
    cases fl with
    | ret u =>
      obtain ⟨v, H', I3, rv, q3⟩ := I2.after hq
      exact wpAny_of_eq (PySem.W.handedOut_of (handed_of rv)) ⟨v, H', I3, rv, q3⟩
    | next => exact False.elim hq
    | brk => exact False.elim hq
    | cont => exact False.elim hq
end
theorem noErr {X : Cx} : ∀ (H : Hp) (s : Shared) (e : Value) (s' : Shared), CX0 X.stack H s E0 e s' → False := fun _ _ _ _ h => h

/-! ### o.m(k = v, ..) -/
/-- a promise by n positional values and the keywords ks, in the order of the parameters -/
def FnK (P : Program) (w : World) (K : PySem.W.Frag) (mg : Str → Option Value) (base : Heap) (CX : CXT) (k : Nat) (f : Addr) (n : Nat) (ks : List Str) (sp : Sp) : Prop :=
  ∀ (A : Around) (outer : List Env) (s : Shared) (H : Hp) (us ws : List Value) (vs : List V) (Q : VK) (E : XK), Room k A → Env0 P w K mg base A outer s H → us.length = n → ws.length = ks.length → Vals vs (us ++ ws) → sp vs H Q E →
    codeAny (model P w) A (.call (.ref f) ⟨us, ks.zip ws⟩) (CR CX outer P w H s Q E) s
section
variable {P : Program} {w : World} {K : PySem.W.Frag} {mg : Str → Option Value} {base : Heap} {CX : CXT} {k : Nat} {f : Addr} {sp : Sp}
theorem fnk_of {fd : FuncData} {ps ks : List Str} {n : Nat} (F : FnOk P w K mg base CX k f fd ps sp) (hb : ∀ (us ws : List Value), us.length = n → ws.length = ks.length → bindArgs fd ⟨us, ks.zip ws⟩ = pure (ps.zip (us ++ ws))) : FnK P w K mg base CX k f n ks sp := by
  intro A outer s H us ws vs Q E hr e0 h1 h2 r hs
  exact F.run A outer s H ⟨us, ks.zip ws⟩ (us ++ ws) vs Q E hr e0 (.of_eq (hb us ws h1 h2)) r hs
/-- from the def: its promise by position, and by some keywords -/
theorem fnrk {x qual : Str} {st : Stmt} {N ps ks : List Str} {n : Nat} (F : FunE K x qual st f) (S : FnScope N ps (defScope st))
    (hk : ∀ (kV doc pm : Value) (an : Option Addr) (cdv ct : Value) (us ws : List Value), us.length = n → ws.length = ks.length → bindArgs (PySem.W.fnOf x qual (defArgs st) (defBody st) (defScope st) .none kV doc pm an cdv ct) ⟨us, ks.zip ws⟩ = pure (ps.zip (us ++ ws)))
    (len : ∀ vs H Q E, sp vs H Q E → vs.length = ps.length)
    (hbody : ∀ (cdv : Value) (A : Around) (outer : List Env) (s : Shared) (H : Hp) (vs : List V) (Q : VK) (E : XK), Room k (A.deeper (envOfC qual (defScope st) s.heap.objs.size f cdv)) → sp vs H Q E →
      ∃ t, PSs (cxOf CX0 P w K mg base N qual (defScope st) f cdv A outer s H E).nox (defBody st) t ∧ t { nx := fun _ H' => Q .non H', rt := Q } (start N vs) H) : FnK P w K mg base CX0 (k + 1) f n ks sp := by
  obtain ⟨fd, F⟩ := F
  obtain ⟨oc, od, kV, doc, pm, an, cdv, ct, osl, e, lk, hcd⟩ := id F.ex
  refine fnk_of (F.ok S len hbody) fun us ws h1 h2 => ?_
  rw [e]
  exact hk kV doc pm an cdv ct us ws h1 h2
end
section
variable {X : Cx} {CX : CXT} {k n : Nat} {f C : Addr} {sp : Sp} {E : XK} {m : Str} {ks : List Str} {o : Expr} {kws : List Keyword} {ta : TE} {t tk : TA} {pos apos : Pos}
theorem run_fnK {pins : List (Addr × Obj)} {σ : L2.St} {H : Hp} {s : Shared} {Q : VK} {us ws : List Value} {vs : List V} (F : FnK X.prog X.w X.K X.mg X.base CX k f n ks sp) (hr : Room k X.A) (hx : Passes CX X E) (I : Inv X pins σ H s)
    (h1 : us.length = n) (h2 : ws.length = ks.length) (r : Vals vs (us ++ ws)) (h : sp vs H Q E) : wpAny (model X.prog X.w) X.A (call (.ref f) us (ks.zip ws)) (EP X pins σ Q) X.xe s := by
  refine wpAny_call (codeAny_mono (F X.A X.stack s H us ws vs Q E hr I.env0 h1 h2 r h) fun r s' hq => ?_)
  cases r with
  | error e => exact hx pins σ H s e s' I hq
  | ok fl =>
    cases fl with
    | ret u => exact I.after hq
    | next => exact False.elim hq
    | brk => exact False.elim hq
    | cont => exact False.elim hq
def tMthK (C : Addr) (m : Str) (ks : List Str) (sp : Sp) (E : XK) (ta : TE) (tk : TA) : TE := fun σ H Q => ta σ H fun x H1 => ∃ a dx fs, x = .ref a ∧ H1 a = some (.ins C dx fs) ∧ fs.lookup m = none ∧ tk σ H1 fun zs H2 => zs.length = ks.length ∧ sp (x :: zs) H2 Q E
theorem pe_mthK {pl : Sem Bool} (he : PE X o ta) (c : Cls X.K C) (hm : Meth X.K C m f) (F : FnK X.prog X.w X.K X.mg X.base CX k f 1 ks sp) (hr : Room k X.A) (hx : Passes CX X E) (hkw : PK X kws tk)
    (hall : (backToKw pos (keywordEach kws X.env)).all (·.1.isSome) = true := by rfl) (hks : (backToKw pos (keywordEach kws X.env)).filterMap (·.1) = ks := by rfl)
    (hpl : ((backTo pos (starEach [] X.env)).any (·.1) || (backToKw pos (keywordEach kws X.env)).any (·.1.isNone)) = false := by rfl)
    (ht : eval (.Call (.Attribute o m apos) [] kws pos) X.env = (do
      let ov ← eval o X.env
      standAt apos.atName
      let (f, first) ← holding [ov] (getMethod ov m pl)
      callWith pos f first (backTo pos (starEach [] X.env)) (backToKw pos (keywordEach kws X.env))) := by rfl) :
    PE X (.Call (.Attribute o m apos) [] kws pos) (tMthK C m ks sp E ta tk) := by
  refine ⟨fun pins s σ H Q I h => ?_⟩
  refine PySem.W.methodCall_KW (pl := pl) (thn (he.run pins s σ H _ I h) fun u s1 ⟨x, H1, I1, rx, a, dx, fs, ex, ea, l, q⟩ => ?_) ht
  subst ex
  obtain rfl : u = Value.ref a := rx
  refine getmeth_ok I1 ea c hm l ?_
  refine PySem.W.callWith_KW0 (first := [.ref a]) (h₀ := X.base) I.ok.mod.kin hm.kp hall (thn (hkw.run pos pins s1 σ H1 _ I1 q) fun ws s2 ⟨zs, H2, I2, rz, l2, q2⟩ => ⟨I2.kIn, ?_⟩) hpl
  rw [hks]
  exact run_fnK (us := [.ref a]) (vs := .ref a :: zs) F hr hx I2 rfl (by rw [← rz.length]; exact l2) (.cons rfl rz) q2
end
end NA

/-! Part C: rules for sequences that the hand layer lacks. -/
namespace NA
open PySem PySem.Spec PyProof.Rows L2

/-! ### x in list, by an own == -/
section
variable {prog : Program} {w : World} {A : Around} {R : Result → Shared → Prop}
open MeetsSeq MeetsSeq2 MeetsSeq3 SeqRoads2 in
open AutoSeq1 (wpAny_loadPart') in
theorem contains_loopG (l : Addr) (x : Value) (N : Nat) (e : Nat → Bool) (I : Shared → Prop)
    (hl : ∀ s, I s → ∃ (items : Array Value) (n : Nat), s.heap.get? l = some { cls := .type "list", data := .seq items n } ∧ items.size = N ∧
      ∀ i (h1 : i < items.size), wpAny (model prog w) A.in1 (eqBool items[i] x) (fun r s' => r = e i ∧ I s') (fun e s' => R (.error e) s') s)
    (fin : ∀ s, I s → R (.ok (.ret (.bool ((List.range N).any e)))) s) (k : Nat) :
    ∀ i : Nat, N - i = k → i ≤ N → (List.range N).any e = ((List.range N).drop i).any e → ∀ s, I s →
      wpAny (model prog w) A.in1 (Builtin.«list.__contains__.loop» ⟨[.ref l, x, rawInt i], []⟩) (GQ.FinOf prog w A R) (fun e s' => R (.error e) s') s := by
  induction k with
  | zero =>
    intro i hk hi he s h
    obtain ⟨items, n, hl1, hs1, _⟩ := hl s h
    have hR := fin s h
    have hi' : i = N := by omega
    have hd : (List.range N).drop i = [] := by simp; omega
    rw [he, hd] at hR
    obtain ⟨hp, g, d, tk, os⟩ := s
    wp_walk using wpAny_loadPart' hl1
    have hi1 : items[((i : Nat) : Int).toNat]? = none := by simp; omega
    rw [hi1]
    wp_walk
    exact hR
  | succ k ih =>
    intro i hk hi he s h
    obtain ⟨items, n, hl1, hs1, turn⟩ := hl s h
    have hlt : i < items.size := by omega
    have ht := turn i hlt
    have hd : (List.range N).drop i = i :: (List.range N).drop (i + 1) := by
      rw [List.drop_eq_getElem_cons (by simp; omega)]
      simp
    obtain ⟨hp, g, d, tk, os⟩ := s
    wp_walk using wpAny_loadPart' hl1
    have hi1 : items[((i : Nat) : Int).toNat]? = some items[i] := by simp [hlt]
    have hc : ((i : Int) + 1) = ((i + 1 : Nat) : Int) := by omega
    rw [hi1]
    refine wpAny_bind (wpAny_mono ht (fun r s2 h2 => ?_) fun _ _ x => x)
    obtain ⟨hr, h2⟩ := h2
    have hR := fin s2 h2
    rw [he, hd, List.any_cons] at hR
    rw [hd, List.any_cons] at he
    cases hb : e i with
    | true =>
      rw [hb] at hR hr
      subst hr
      obtain ⟨hp2, g2, d2, tk2, os2⟩ := s2
      wp_walk
      exact hR
    | false =>
      rw [hb] at he hr
      subst hr
      have hrec := ih (i + 1) (by omega) (by omega) (by simpa using he) s2 h2
      obtain ⟨hp2, g2, d2, tk2, os2⟩ := s2
      wp_walk
      rw [hc]
      exact ⟨plainId_quiet plain_contains_loop _, codeAny_builtin entry_contains_loop (by
        rw [Around.under_plainId plain_contains_loop _]
        exact hrec)⟩
end
section
variable {prog : Program} {w : World} {A : Around} {E : Value → Shared → Prop} {s : Shared}
open MeetsSeq MeetsSeq2 MeetsSeq3 SeqRoads2 in
open AutoSeq1 (wpAny_loadPart') in
theorem contains_listG {l : Addr} {x : Value} {N : Nat} {Q : Bool → Shared → Prop} (e : Nat → Bool) (I : Shared → Prop)
    (hl : ∀ s, I s → ∃ (items : Array Value) (n : Nat), s.heap.get? l = some { cls := .type "list", data := .seq items n } ∧ items.size = N ∧
      ∀ i (h1 : i < items.size), wpAny (model prog w) A.in1 (eqBool items[i] x) (fun r s' => r = e i ∧ I s') E s)
    (h : I s) (fin : ∀ s', I s' → Q ((List.range N).any e) s') : wpAny (model prog w) A (contains (.ref l) x) Q E s := by
  obtain ⟨items, n, hl1, hs1, _⟩ := hl s h
  refine wpAny_contains_slot ⟨_, hl1, rfl⟩ F.slot_list_contains (GQ.call_here F.slot_list_contains ⟨_, hl1, rfl⟩ F.entry_list_contains (F.args_list_contains_2 _ _) ?_)
  have hloop := contains_loopG (R := wants (fun r s' => wpAny (model prog w) A (truthy r) Q E s') E) (A := A) l x N e I hl (fun s' hs => wpAny_truthy_bool (fin s' hs)) _ 0 rfl (Nat.zero_le _) (by simp) s h
  obtain ⟨hp, g, d, tk, os⟩ := s
  wp_walk using wpAny_loadPart' hl1
  exact ⟨plainId_quiet plain_contains_loop _, codeAny_builtin entry_contains_loop (by
    rw [Around.under_plainId plain_contains_loop _]
    exact hloop)⟩
end
section
variable {X : Cx} {CX : CXT} {C f : Addr} {n : Nat} {sp : Sp} {E : XK}
/-- a in l: instances of the class at C, by their own ==; e i: what == says of the i-th, G: what stands meanwhile -/
def rInL (C : Addr) (sp : Sp) (E : XK) (neg : Bool) : R2 := fun x y H Q => ∃ (l : Addr) (bs : List Addr) (a : Addr) (e : Nat → Bool) (G : Hp → Prop), x = .ref a ∧ y = .ref l ∧ G H ∧
  (∀ H', G H' → H' l = some (.lst (bs.map V.ref)) ∧ (∃ dx fs, H' a = some (.ins C dx fs)) ∧ ∀ i b, bs[i]? = some b → (∃ dx fs, H' b = some (.ins C dx fs)) ∧ (b = a → e i = true) ∧ sp [.ref b, .ref a] H' (fun v H2 => v = .bl (e i) ∧ G H2) E) ∧
  ∀ H', G H' → Q (.bl (if neg then !(List.range bs.length).any e else (List.range bs.length).any e)) H'
theorem eq_in {A : Around} {pins : List (Addr × Obj)} {σ : L2.St} {H : Hp} {s : Shared} {a b : Addr} {r : Bool} {G : Hp → Prop} (S : Spc X.K C "__eq__" f) (F : FnR X.prog X.w X.K X.mg X.base CX n f sp) (hr : Room n A) (fr : A.frames = X.A.frames) (hx : Passes CX X E) (I : Inv X pins σ H s)
    (hb : ∃ dx fs, H b = some (.ins C dx fs)) (ha : ∃ dx fs, H a = some (.ins C dx fs)) (hab : b = a → r = true) (g : G H) (h : sp [.ref b, .ref a] H (fun v H2 => v = .bl r ∧ G H2) E) :
    wpAny (model X.prog X.w) A (eqBool (.ref b) (.ref a)) (fun r' s' => r' = r ∧ ∃ H', Inv X pins σ H' s' ∧ G H') X.xe s := by
  by_cases e : b = a
  · have er := hab e
    subst e er
    exact SeqAt.EqAt.same (A := A) (s := s) (.ref b) X.prog X.w X.xe _ ⟨rfl, H, I, g⟩
  · obtain ⟨dx, fs, hb⟩ := hb
    obtain ⟨dy, gs, ha⟩ := ha
    obtain ⟨od, J⟩ := inst_of I hb
    obtain ⟨od', J'⟩ := inst_of I ha
    obtain ⟨m, hF⟩ := I.fr
    refine GQ.eqBool_refG e (PySem.W.cmp_K (op := .Eq) (tb := .ref C) hr.units0 hF I.ok.mod.kin J J'.type notFirst_self S.at_ S.fn ?_)
    refine wpAny_mono (run_sub (vs := [.ref b, .ref a]) F hr fr hx I (.cons rfl (.cons rfl .nil)) h) (fun w s' z => ?_) fun _ _ x => x
    obtain ⟨z', H', I', rz, rfl, qz⟩ := z
    cases (show w = Value.bool r from rz)
    exact ⟨r, rfl, rfl, H', I', qz⟩
theorem in_run {pins : List (Addr × Obj)} {σ : L2.St} {H : Hp} {s : Shared} {l a : Addr} {bs : List Addr} {e : Nat → Bool} {G : Hp → Prop} {Q : Bool → Shared → Prop} (S : Spc X.K C "__eq__" f) (F : FnR X.prog X.w X.K X.mg X.base CX n f sp) (hr : Room (n + 1) X.A) (hx : Passes CX X E) (I : Inv X pins σ H s) (g : G H)
    (h : ∀ H', G H' → H' l = some (.lst (bs.map V.ref)) ∧ (∃ dx fs, H' a = some (.ins C dx fs)) ∧ ∀ i b, bs[i]? = some b → (∃ dx fs, H' b = some (.ins C dx fs)) ∧ (b = a → e i = true) ∧ sp [.ref b, .ref a] H' (fun v H2 => v = .bl (e i) ∧ G H2) E)
    (fin : ∀ H' s', Inv X pins σ H' s' → G H' → Q ((List.range bs.length).any e) s') : wpAny (model X.prog X.w) X.A (contains (.ref l) (.ref a)) Q X.xe s := by
  refine contains_listG (N := bs.length) e (fun s' => ∃ H', Inv X pins σ H' s' ∧ G H') (fun s' ⟨H', I', g'⟩ => ?_) ⟨H, I, g⟩ (fun s' ⟨H', I', g'⟩ => fin H' s' I' g')
  obtain ⟨h1, h2, h3⟩ := h H' g'
  obtain ⟨z, its, k, r, e1⟩ := I'.hok l _ h1
  have el : its.length = bs.length := by rw [← r.length, List.length_map]
  refine ⟨its.toArray, k, e1, by rw [List.size_toArray, el], fun i hi => ?_⟩
  have hi' : i < bs.length := by rw [← el]; simpa using hi
  have hb : bs[i]? = some bs[i] := List.getElem?_eq_getElem hi'
  obtain ⟨u, hu, ru⟩ := r.get (i := i) (x := V.ref bs[i]) (by rw [List.getElem?_map, hb] <;> rfl)
  have hg : its.toArray[i] = Value.ref bs[i] := by
    have h1 : its[i]? = some its.toArray[i] := by
      have : i < its.length := by simpa using hi
      rw [List.getElem?_eq_getElem this] <;> simp
    rw [h1] at hu
    rw [Option.some.inj hu]
    exact ru
  rw [hg]
  obtain ⟨q1, q2, q3⟩ := h3 i _ hb
  exact eq_in S F hr.in1 rfl hx I' q1 h2 q2 g' q3
theorem op_inL (S : Spc X.K C "__eq__" f) (F : FnR X.prog X.w X.K X.mg X.base CX n f sp) (hr : Room (n + 1) X.A) (hx : Passes CX X E) : OpR X (compareOp .In) (rInL C sp E false) := by
  intro pins s σ H x y v u Q I rx ry h
  obtain ⟨l, bs, a, e, G, rfl, rfl, g, h, q⟩ := h
  cases (show v = Value.ref a from rx)
  cases (show u = Value.ref l from ry)
  exact wpAny_bind (in_run S F hr hx I g h fun H' s' I' g' => wpAny_pure ⟨.bl _, H', I', rfl, q H' g'⟩)
theorem op_notInL (S : Spc X.K C "__eq__" f) (F : FnR X.prog X.w X.K X.mg X.base CX n f sp) (hr : Room (n + 1) X.A) (hx : Passes CX X E) : OpR X (compareOp .NotIn) (rInL C sp E true) := by
  intro pins s σ H x y v u Q I rx ry h
  obtain ⟨l, bs, a, e, G, rfl, rfl, g, h, q⟩ := h
  cases (show v = Value.ref a from rx)
  cases (show u = Value.ref l from ry)
  exact wpAny_bind (in_run S F hr hx I g h fun H' s' I' g' => wpAny_pure ⟨.bl _, H', I', rfl, q H' g'⟩)
end

/-! ### the order of tuples of texts -/
def nLt : List Str → List Str → Bool
  | [], [] => false
  | [], _ :: _ => true
  | _ :: _, [] => false
  | a :: as, b :: bs => if a = b then nLt as bs else decide (a.cps.toList < b.cps.toList)
theorem alike_strs : ∀ ns ms : List Str, PySem.W.alikeAll (ns.map PyData.str) (ms.map PyData.str) = true
  | [], _ => by simp [PySem.W.alikeAll]
  | _ :: _, [] => by simp [PySem.W.alikeAll]
  | a :: as, b :: bs => by simp [PySem.W.alikeAll, PySem.W.alike, alike_strs as bs]
theorem eqv_str (a b : Str) : PyData.eqv (.str a) (.str b) = decide (a = b) := by
  rw [PyData.eqv]
  by_cases h : a = b
  · subst h; simp
  · rw [decide_eq_false h]; simpa using h
theorem lt_nil : PyProof.Rows.lexLt PyProof.Rows.itemOrd (PySem.W.keyToksAll []) (PySem.W.keyToksAll []) = false := by decide +kernel
theorem nLt_data : ∀ ns ms : List Str, PyProof.Rows.lexLt PyProof.Rows.itemOrd (PySem.W.keyToksAll (ns.map PyData.str)) (PySem.W.keyToksAll (ms.map PyData.str)) = nLt ns ms
  | [], [] => lt_nil
  | [], b :: bs => by
    simp only [List.map_nil, List.map_cons]
    rw [PySem.W.toks_all_cons]
    simp [PySem.W.keyToksAll, PyProof.Rows.lexLt, PyProof.Rows.itemLt, nLt]
  | a :: as, [] => by
    simp only [List.map_nil, List.map_cons]
    rw [PySem.W.toks_all_cons]
    simp [PySem.W.keyToksAll, PyProof.Rows.lexLt, PyProof.Rows.itemLt, nLt]
  | a :: as, b :: bs => by
    simp only [List.map_cons]
    have al : PySem.W.alike (.str a) (.str b) = true := by simp [PySem.W.alike]
    by_cases h : a = b
    · rw [PySem.W.dataLt_all_yes al (by rw [eqv_str]; exact decide_eq_true h), nLt_data as bs]
      show _ = if a = b then nLt as bs else _
      rw [if_pos h]
    · rw [PySem.W.dataLt_all_no al (by rw [eqv_str]; exact decide_eq_false h), PySem.W.dataLt_str]
      show _ = if a = b then nLt as bs else _
      rw [if_neg h]
theorem depth_strs : ∀ ns : List Str, PyData.depthAll (ns.map PyData.str) ≤ 1
  | [] => by simp [PyData.depthAll]
  | a :: as => by
    have := depth_strs as
    simp only [List.map_cons, PyData.depthAll, PyData.depth]
    omega
theorem dp_strs {K : PySem.W.Frag} {H : Hp} : ∀ ns : List Str, DpAll K H (ns.map V.str) (ns.map PyData.str)
  | [] => .nil
  | a :: as => .cons (.str a) (dp_strs as)
theorem op_ltS {X : Cx} (hu : X.A.units + 64 < cLine) : OpR X (compareOp .Lt) (fun x y H Q => ∃ a b ns ms, x = .ref a ∧ y = .ref b ∧ SqT X.K H a (ns.map V.str) ∧ SqT X.K H b (ms.map V.str) ∧ Q (.bl (nLt ns ms)) H) := by
  intro pins s σ H x y v u Q I rx ry h
  obtain ⟨a, b, ns, ms, rfl, rfl, ha, hb, q⟩ := h
  obtain ⟨as, r1⟩ := Dp.reads I _ _ v (Dp.tup ha (dp_strs ns)) rx
  obtain ⟨bs, r2⟩ := Dp.reads I _ _ u (Dp.tup hb (dp_strs ms)) ry
  have hd : (PyData.tuple (ns.map PyData.str)).depth ≤ 2 := by
    have := depth_strs ns
    simp only [PyData.depth]
    omega
  have z := PySem.W.rcLt_alike _ _ X.A s v u as bs r1 r2 (by simp [PySem.W.alike, alike_strs]) (fun z => nomatch z) (by omega)
  rw [PySem.W.dataLt_tuple, nLt_data] at z
  exact z X.prog X.w X.xe _ ⟨.bl _, H, I, rfl, q⟩

/-! ### how often a truth value stands in a list of truth values -/
theorem vals_bls : ∀ {bs : List Bool} {its : List Value}, Vals (bs.map V.bl) its → its = bs.map Value.bool
  | [], _, .nil => rfl
  | b :: bs, _, .cons r t => by
    have := vals_bls (bs := bs) t
    rw [this, (show _ = Value.bool b from r)] <;> rfl
def eqB (k : Bool) : Value → Bool
  | .bool b => b == k
  | _ => false
theorem eqB_at {A : Around} {s : Shared} (k b : Bool) : SeqAt.EqAt A s (.bool b) (.bool k) (b == k) := by
  have q := eqAt_V (A := A) (s := s) (y := .bl b) (x := .bl k) (u := .bool b) (v := .bool k) rfl rfl rfl rfl
  have e : eqV (V.bl b) (V.bl k) = (b == k) := by cases b <;> cases k <;> rfl
  rw [e] at q
  exact q
theorem countB : ∀ (k : Bool) (bs : List Bool), (bs.map Value.bool).countP (eqB k) = bs.count k
  | k, [] => rfl
  | k, b :: bs => by
    rw [List.map_cons, List.countP_cons, countB k bs, List.count_cons]
    rfl
theorem mt_countB {X : Cx} : MtR X "list.count" (fun x xs H Q => ∃ (p : Addr) (bs : List Bool) (k : Bool), x = .ref p ∧ xs = [.bl k] ∧ SqL X.K H p (bs.map V.bl) ∧ Q (.int (bs.count k : Nat)) H) := by
  intro pins s σ H x xs v us Q I rx rxs h
  obtain ⟨p, bs, k, rfl, rfl, hs, q⟩ := h
  cases rx
  obtain ⟨u, rfl, ru⟩ := rxs.one
  cases (show u = Value.bool k from ru)
  obtain ⟨its, rv, ⟨⟨cls, dd, data, sl⟩, n, ho, hc, hdn, hd⟩, hlen⟩ := I.list hs
  simp only at hc hd
  subst hc hd
  have hi := vals_bls rv
  subst hi
  refine call_meets PySem.F.slot_list_count ⟨_, ho, rfl⟩ PySem.F.entry_list_count (PySem.F.args_list_count_2 _ _)
    (SeqAt.list_countAt p (bs.map Value.bool).toArray n dd sl (.bool k) (eqB k)) ⟨ho, fun y hy => ?_, ?_⟩
  · obtain ⟨b, _, rfl⟩ := List.mem_map.mp (by simpa using hy : y ∈ bs.map Value.bool)
    exact eqB_at k b
  · have ec : (bs.map Value.bool).toArray.toList.countP (eqB k) = bs.count k := countB k bs
    refine ⟨.int (bs.count k : Nat), H, I.tok _, ⟨s.toks, ?_⟩, q⟩
    show Value.int (((bs.map Value.bool).toArray.toList.countP (eqB k) : Nat) : Int) s.toks = Value.int ((bs.count k : Nat) : Int) s.toks
    rw [ec]
end NA

/-! Part D: heaps that grow, comprehensions by what each turn gives. -/
namespace NA
open PySem PySem.Spec PyProof.Rows L2

theorem Same.new {H : Hp} {p : Addr} {o : HO} (h : H p = none) : Same H (upd H p o) := fun a u e => by
  rw [upd_ne (ne_of_none e h)]
  exact e
theorem Same.mut {H H' : Hp} {p : Addr} {o : HO} (e : Same H H') (h : H p = none) : Same H (upd H' p o) := fun a u ha => by
  rw [upd_ne (ne_of_none ha h)]
  exact e a u ha
theorem Same.rd {H H' : Hp} {a : Addr} {u : HO} (e : Same H H') (h : Rd H a u) : Rd H' a u := by
  rcases h with h | ⟨o, h⟩
  · exact Or.inl (e a _ h)
  · exact Or.inr ⟨o, e a _ h⟩
theorem Same.tup {K : PySem.W.Frag} {H H' : Hp} {a : Addr} {xs : List V} (e : Same H H') (h : SqT K H a xs) : SqT K H' a xs := by
  rcases h with h | h
  · exact Or.inl (Same.rd e h)
  · exact Or.inr h
/-- all but the object at p is as it was -/
def Sam (p : Addr) (H H' : Hp) : Prop := ∀ a o, a ≠ p → H a = some o → H' a = some o
theorem Sam.refl {p : Addr} (H : Hp) : Sam p H H := fun _ _ _ h => h
theorem Sam.of {p : Addr} {H H' : Hp} (e : Same H H') : Sam p H H' := fun a o _ h => e a o h
theorem Sam.trans {p : Addr} {H H1 H2 : Hp} (a : Sam p H H1) (b : Sam p H1 H2) : Sam p H H2 := fun c o n h => b c o n (a c o n h)
theorem Sam.upd {p : Addr} {H H' : Hp} {o : HO} (e : Sam p H H') : Sam p H (L2.upd H' p o) := fun a u n h => by
  rw [upd_ne n]
  exact e a u n h
theorem Sam.new {p q : Addr} {H H' : Hp} {o : HO} (e : Sam p H H') (h : H' q = none) : Sam p H (L2.upd H' q o) := fun a u n ha => by
  rw [upd_ne (ne_of_none (e a u n ha) h)]
  exact e a u n ha
theorem Sam.mut {p q : Addr} {H H' : Hp} {o : HO} (e : Sam p H H') (h : H q = none) : Sam p H (L2.upd H' q o) := fun a u n ha => by
  rw [upd_ne (ne_of_none ha h)]
  exact e a u n ha

/-- a comprehension that only makes things: turn i is kept if b i, and gives what R i tells -/
theorem lc_flt {J : It} {n : Nat} {G : Hp → Prop} {Y : Nat → Hp → V → Hp → Prop} (w : Walk J n G Y) (R : Nat → V → Hp → Prop) (b : Nat → Bool) {g : TG} {tt : TT} {te : TE} {vs : List Nat} {σ : L2.St} {H1 : Hp} {D : Addr} {Qd : Hp → Prop} (hD : H1 D = none)
    (mono : ∀ i v H H' ys, H D = some (.lst ys) → Sam D H H' → R i v H → R i v H') (hG : ∀ H, Same H1 H → G H) (hn : n < sizeLine)
    (hs : ∀ i x H H', i < n → Same H1 H → Y i H x H' → Same H H' ∧ g x (wipe σ vs) H' fun σ2 H2 => wipe σ2 vs = wipe σ vs ∧ Same H' H2 ∧
      ∀ Q : Bool → Hp → Prop, (∀ H3, Same H2 H3 → (b i = true → ∀ Q' : VK, (∀ v H4, Same H3 H4 → R i v H4 → Q' v H4) → te σ2 H3 Q') → Q (b i) H3) → tt σ2 H2 Q)
    (hg : ∀ x σ' H' (Q Q' : L2.St → Hp → Prop), (∀ σ2 H2, Q σ2 H2 → Q' σ2 H2) → g x σ' H' Q → g x σ' H' Q')
    (hd : ∀ H ys, Same H1 H → H D = some (.lst ys) → ys.length = ((List.range n).filter b).length → (∀ (j i : Nat) v, ((List.range n).filter b)[j]? = some i → ys[j]? = some v → R i v H) → Qd H) :
    ∃ W : Nat → Nat → Hp → Prop, (∃ m, W 0 m (upd H1 D (.lst []))) ∧ ∀ i m H, W i m H →
      (J.stop i H ∧ Qd H) ∨ (J.go i H ∧ ∃ Nx : Hp → Prop, (∀ H', Nx H' → ∃ m', m' < m ∧ W (i + 1) m' H') ∧ ∀ x H', J.yld i H x H' → g x (wipe σ vs) H' fun σ2 H2 => wipe σ2 vs = wipe σ vs ∧ tt σ2 H2 fun b H3 =>
        if b = true then te σ2 H3 fun y H4 => ∃ acc, H4 D = some (.lst acc) ∧ acc.length < sizeLine ∧ Nx (upd H4 D (.lst (acc ++ [y]))) else Nx H3) := by
  refine lc_it w (fun i H => Same H1 H ∧ ∃ ys, H D = some (.lst ys) ∧ ys.length = ((List.range i).filter b).length ∧ ∀ (j k : Nat) v, ((List.range i).filter b)[j]? = some k → ys[j]? = some v → R k v H)
    ⟨Same.new hD, [], upd_same, rfl, fun j k v h1 h2 => by simp at h2⟩ (fun i H _ p => hG H p.1) (fun i x H H' hi p y => ?_) (fun H p => ?_)
  · obtain ⟨s1, ys, e1, e2, e3⟩ := p
    obtain ⟨s2, k⟩ := hs i x H H' hi s1 y
    refine hg x _ H' _ _ (fun σ2 H2 q => ?_) k
    obtain ⟨q1, q2, q3⟩ := q
    refine ⟨q1, q3 _ fun H3 s3 kk => ?_⟩
    have s13 : Same H1 H3 := (s1.trans s2).trans (q2.trans s3)
    have sH3 : Same H H3 := s2.trans (q2.trans s3)
    have hl : ((List.range i).filter b).length ≤ i := by
      have h := List.length_filter_le b (List.range i)
      rw [List.length_range] at h
      exact h
    cases hb : b i with
    | true =>
      rw [if_pos rfl]
      refine kk hb _ fun v H4 s4 r => ⟨ys, s4 _ _ (sH3 _ _ e1), by omega, Same.mut (s13.trans s4) hD, _, upd_same, ?_, ?_⟩
      · rw [List.range_succ, List.filter_append, List.length_append, List.length_append, e2]
        simp [hb]
      · intro j m v' h1 h2
        have hD4 : H4 D = some (.lst ys) := s4 _ _ (sH3 _ _ e1)
        have eF : (List.range (i + 1)).filter b = (List.range i).filter b ++ [i] := by
          rw [List.range_succ, List.filter_append]
          simp [hb]
        rw [eF] at h1
        by_cases hj : j < ys.length
        · rw [List.getElem?_append_left (by omega)] at h1
          rw [List.getElem?_append_left hj] at h2
          exact mono m v' H _ ys e1 (Sam.upd (Sam.of (sH3.trans s4))) (e3 j m v' h1 h2)
        · have hj2 : j = ys.length := by
            have := (List.getElem?_eq_some_iff.mp h2).1
            rw [List.length_append, List.length_singleton] at this
            omega
          rw [List.getElem?_append_right (by omega)] at h1 h2
          have z1 : j - ((List.range i).filter b).length = 0 := by omega
          have z2 : j - ys.length = 0 := by omega
          rw [z1] at h1
          rw [z2] at h2
          have hm : i = m := by simpa using h1
          have hv : v = v' := by simpa using h2
          subst hm hv
          exact mono _ _ _ _ ys hD4 (Sam.upd (Sam.refl H4)) r
    | false =>
      rw [if_neg (by decide)]
      have eF : (List.range (i + 1)).filter b = (List.range i).filter b := by
        rw [List.range_succ, List.filter_append]
        simp [hb]
      refine ⟨s13, ys, sH3 _ _ e1, by rw [eF]; exact e2, ?_⟩
      rw [eF]
      exact fun j m v' h1 h2 => mono m v' H H3 ys e1 (Sam.of sH3) (e3 j m v' h1 h2)
  · obtain ⟨s1, ys, e1, e2, e3⟩ := p
    exact hd H ys s1 e1 e2 e3
/-- .. each turn kept -/
theorem lc_all {J : It} {n : Nat} {G : Hp → Prop} {Y : Nat → Hp → V → Hp → Prop} (w : Walk J n G Y) (R : Nat → V → Hp → Prop) {g : TG} {te : TE} {vs : List Nat} {σ : L2.St} {H1 : Hp} {D : Addr} {Qd : Hp → Prop} (hD : H1 D = none)
    (mono : ∀ i v H H' ys, H D = some (.lst ys) → Sam D H H' → R i v H → R i v H') (hG : ∀ H, Same H1 H → G H) (hn : n < sizeLine)
    (hs : ∀ i x H H', i < n → Same H1 H → Y i H x H' → Same H H' ∧ g x (wipe σ vs) H' fun σ2 H2 => wipe σ2 vs = wipe σ vs ∧ Same H' H2 ∧ ∀ Q' : VK, (∀ v H4, Same H2 H4 → R i v H4 → Q' v H4) → te σ2 H2 Q')
    (hg : ∀ x σ' H' (Q Q' : L2.St → Hp → Prop), (∀ σ2 H2, Q σ2 H2 → Q' σ2 H2) → g x σ' H' Q → g x σ' H' Q')
    (hd : ∀ H ys, Same H1 H → H D = some (.lst ys) → ys.length = n → (∀ (i : Nat) v, ys[i]? = some v → R i v H) → Qd H) :
    ∃ W : Nat → Nat → Hp → Prop, (∃ m, W 0 m (upd H1 D (.lst []))) ∧ ∀ i m H, W i m H →
      (J.stop i H ∧ Qd H) ∨ (J.go i H ∧ ∃ Nx : Hp → Prop, (∀ H', Nx H' → ∃ m', m' < m ∧ W (i + 1) m' H') ∧ ∀ x H', J.yld i H x H' → g x (wipe σ vs) H' fun σ2 H2 => wipe σ2 vs = wipe σ vs ∧ tYes σ2 H2 fun b H3 =>
        if b = true then te σ2 H3 fun y H4 => ∃ acc, H4 D = some (.lst acc) ∧ acc.length < sizeLine ∧ Nx (upd H4 D (.lst (acc ++ [y]))) else Nx H3) := by
  have ef : (List.range n).filter (fun _ => true) = List.range n := by simp
  refine lc_flt w R (fun _ => true) hD mono hG hn (fun i x H H' hi s y => ?_) hg (fun H ys s e1 e2 e3 => ?_)
  · obtain ⟨s2, k⟩ := hs i x H H' hi s y
    refine ⟨s2, hg x _ H' _ _ (fun σ2 H2 q => ?_) k⟩
    obtain ⟨q1, q2, q3⟩ := q
    exact ⟨q1, q2, fun Q hQ => hQ H2 (Same.refl H2) fun _ => q3⟩
  · rw [ef] at e2 e3
    have hl : ys.length = n := by rw [e2, List.length_range]
    refine hd H ys s e1 hl fun i v h => e3 i i v ?_ h
    have := (List.getElem?_eq_some_iff.mp h).1
    rw [List.getElem?_range (by omega)]
theorem g_name_mono {i : Nat} : ∀ x σ' H' (Q Q' : L2.St → Hp → Prop), (∀ σ2 H2, Q σ2 H2 → Q' σ2 H2) → gName i x σ' H' Q → gName i x σ' H' Q' := fun _ _ _ _ _ h q => h _ _ q
/-- the new list is told by a function -/
theorem list_fn {n : Nat} {f : Nat → V} {ys : List V} (hl : ys.length = n) (h : ∀ (i : Nat) v, ys[i]? = some v → v = f i) : ys = (List.range n).map f := by
  apply List.ext_getElem?
  intro i
  by_cases hi : i < n
  · have : ys[i]? = some ys[i] := List.getElem?_eq_getElem (by omega)
    rw [this, List.getElem?_map, List.getElem?_range hi]
    exact congrArg some (h i _ this)
  · rw [List.getElem?_eq_none (by omega), List.getElem?_eq_none (by simp; omega)]
theorem range_getD {α : Type} (l : List α) (d : α) : (List.range l.length).map (fun i => l.getD i d) = l := by
  apply List.ext_getElem?
  intro i
  by_cases hi : i < l.length
  · rw [List.getElem?_map, List.getElem?_range hi, List.getElem?_eq_getElem hi]
    simp [List.getD_eq_getElem?_getD, List.getElem?_eq_getElem hi]
  · rw [List.getElem?_eq_none (by simp; omega), List.getElem?_eq_none (by omega)]
theorem range_map {α β : Type} (l : List α) (d : α) (f : α → β) : (List.range l.length).map (fun i => f (l.getD i d)) = l.map f := by
  have h := congrArg (List.map f) (range_getD l d)
  rw [List.map_map] at h
  exact h
/-- a if c else b, both written -/
theorem ite_c {a b : V} {c : Bool} {K : VK} {σ : L2.St} {H : Hp} (h : K (if c = true then a else b) H) : if c = true then tC a σ H K else tC b σ H K := by
  cases c
  · exact h
  · exact h
theorem iteT' {c : Bool} {A B : Prop} (e : c = true) (h : A) : if c = true then A else B := by rw [if_pos e]; exact h
theorem iteF' {c : Bool} {A B : Prop} (e : c = false) (h : B) : if c = true then A else B := by rw [e, if_neg (by decide)]; exact h
theorem sz {n : Nat} (h : n ≤ 1000000) : n ≤ sizeLine := Nat.le_trans h (by decide)
theorem szl {n : Nat} (h : n ≤ 1000000) : n < sizeLine := Nat.lt_of_le_of_lt h (by decide)
end NA

/-! Part E: tuples of texts, at the level of values. -/
namespace NA
open PySem PySem.Spec PyProof.Rows L2
abbrev Oks (ns : List Str) : Prop := ∀ n ∈ ns, PyData.strOk n = true
theorem canLay_strs : ∀ ns : List Str, Oks ns → PyData.canLayAll0 (ns.map PyData.str) = true
  | [], _ => by simp [PyData.canLayAll0]
  | a :: as, h => by
    simp only [List.map_cons, PyData.canLayAll0, PyData.canLay0, canLay_strs as fun n hn => h n (List.mem_cons_of_mem _ hn), h a (List.mem_cons_self ..), Bool.and_self]
theorem shaped_strs {ns : List Str} (h : Oks ns) : SeqAt.shaped (.tuple (ns.map PyData.str)) = true := by
  unfold SeqAt.shaped
  have := depth_strs ns
  rw [Bool.and_eq_true]
  exact ⟨by rw [PyData.canLay0]; exact canLay_strs ns h, decide_eq_true (by rw [PyData.depth]; omega)⟩
theorem eqvAll_strs : ∀ ns ms : List Str, PyData.eqvAll (ns.map PyData.str) (ms.map PyData.str) = decide (ns = ms)
  | [], [] => by simp [PyData.eqvAll]
  | [], _ :: _ => by simp [PyData.eqvAll]
  | _ :: _, [] => by simp [PyData.eqvAll]
  | a :: as, b :: bs => by
    simp only [List.map_cons, PyData.eqvAll, eqv_str, eqvAll_strs as bs]
    by_cases h1 : a = b <;> by_cases h2 : as = bs <;> simp [h1, h2]
theorem eqv_strs (ns ms : List Str) : PyData.eqv (.tuple (ns.map PyData.str)) (.tuple (ms.map PyData.str)) = decide (ns = ms) := by
  rw [PyData.eqv, eqvAll_strs]
section
variable {K : PySem.W.Frag} {H : Hp} {p q : Addr} {ns ms : List Str} {xs : List V} {Q : VK}
theorem c_eqT (o1 : Oks ns) (o2 : Oks ms) (hp : SqT K H p (ns.map V.str)) (hq : SqT K H q (ms.map V.str)) (k : Q (.bl (decide (ns = ms))) H) : rEqD K (.ref p) (.ref q) H Q :=
  ⟨_, _, .tup hp (dp_strs ns), .tup hq (dp_strs ms), shaped_strs o1, shaped_strs o2, by rw [eqv_strs]; exact k⟩
theorem c_neT (o1 : Oks ns) (o2 : Oks ms) (hp : SqT K H p (ns.map V.str)) (hq : SqT K H q (ms.map V.str)) (k : Q (.bl (!decide (ns = ms))) H) : rNeD K (.ref p) (.ref q) H Q :=
  ⟨_, _, .tup hp (dp_strs ns), .tup hq (dp_strs ms), shaped_strs o1, shaped_strs o2, by rw [eqv_strs]; exact k⟩
/-- t[:k], t[:-1] -/
theorem c_slT {k : Nat} (h : SqT K H p xs) (hk : k ≤ xs.length) (q : ∀ r H', Same H H' → SqT K H' r (xs.take k) → Q (.ref r) H') : rSlA K (.ref p) none (some (k : Int)) H Q := by
  have e : HT.sIx xs.length xs.length (some (k : Int)) = k := by rw [HT.sIx_nat, Nat.min_eq_left hk]
  refine ⟨p, xs, rfl, h, fun hw => ?_, fun _ r hr => ?_⟩
  · rw [e] at hw
    refine q p H (Same.refl H) ?_
    rw [hw.2, List.take_length]
    exact h
  · refine q r _ (Same.new hr) (SqT.of ?_)
    rw [upd_same]
    unfold cutV
    rw [e, HT.sIx_none, List.drop_zero, Nat.sub_zero]
theorem c_slT1 (h : SqT K H p xs) (hk : xs ≠ []) (q : ∀ r H', Same H H' → SqT K H' r xs.dropLast → Q (.ref r) H') : rSlA K (.ref p) none (some (-1)) H Q := by
  have hl : 0 < xs.length := List.length_pos_iff.mpr hk
  have e : HT.sIx xs.length xs.length (some (-1)) = xs.length - 1 := by
    show (if (-1 : Int) < 0 then ((-1 : Int) + (xs.length : Int)).toNat else min (-1 : Int).toNat xs.length) = _
    rw [if_pos (by decide)]; omega
  refine ⟨p, xs, rfl, h, fun hw => ?_, fun _ r hr => ?_⟩
  · rw [e] at hw; omega
  · refine q r _ (Same.new hr) (SqT.of ?_)
    rw [upd_same]
    unfold cutV
    rw [e, HT.sIx_none, List.drop_zero, Nat.sub_zero, List.dropLast_eq_take]
end
/-- a statement, then the rest, with a word between them -/
def tJn (t u : TS) : TS := fun D σ H => ∃ Mid : L2.St → Hp → Prop, t { D with nx := Mid } σ H ∧ ∀ σ' H', Mid σ' H' → u D σ' H'
theorem pss_jn {X : Cx} {st : Stmt} {rest : List Stmt} {t u : TS} (h1 : PS X st t) (h2 : PSs X rest u) : PSs X (st :: rest) (tJn t u) := by
  refine ⟨fun pins s σ H D I h => ?_⟩
  obtain ⟨Mid, hm, hu⟩ := h
  refine wpAny_execs_cons (thn (h1.run pins s σ H { D with nx := Mid } I hm) fun f s1 q => ?_)
  cases f with
  | next =>
    obtain ⟨σ', H', I', q⟩ := q
    exact h2.run pins s1 σ' H' D I' (hu σ' H' q)
  | ret v => exact q
  | brk => exact q
  | cont => exact q
section
variable {te : TE} {u : TS} {D : Ends} {σ : L2.St} {H : Hp} {i : Nat}
theorem q_set (h : te σ H fun v H1 => u D (σ.set i (some v)) H1) : tSeq (tAsg te (gName i)) u D σ H := h
theorem s_set (h : te σ H fun v H1 => D.nx (σ.set i (some v)) H1) : tAsg te (gName i) D σ H := h
theorem s_ret (h : te σ H D.rt) : tRet te D σ H := h
end
end NA

/-! Texts of places, in plain Lean. -/
namespace NK
open PySem PySem.Spec PyProof.Rows L2 NA TL
def sgn : Str := "abcdefghijklmnopqrstuvwxyz0123456789"
def isNm (z : Str) : Bool := decide (1 ≤ z.length) && decide (z.length ≤ 8) && z.cps.toList.all fun c => decide (c ∈ sgn.cps.toList)
def Sx (l : List Nat) : Str := ⟨l.toArray⟩
theorem tl_Sx (l : List Nat) : tl (Sx l) = l := rfl
theorem Sx_tl (z : Str) : Sx (tl z) = z := ext_tl rfl
theorem Sx_len (l : List Nat) : (Sx l).length = l.length := by rw [len_tl]; rfl
theorem Sx_app (a b : List Nat) : Sx (a ++ b) = Sx a ++ Sx b := ext_tl (by rw [tl_append]; rfl)
/-- a row of signs cut at each slash -/
def spt : List Nat → List (List Nat)
  | [] => [[]]
  | c :: r => if c = 47 then [] :: spt r else match spt r with
    | [] => [[c]]
    | x :: xs => (c :: x) :: xs
theorem spt_ne : ∀ r, spt r ≠ []
  | [] => by simp [spt]
  | c :: r => by
    unfold spt
    split
    · simp
    · split <;> simp
theorem spt_none : ∀ {r : List Nat}, 47 ∉ r → spt r = [r]
  | [], _ => rfl
  | c :: r, h => by
    have h1 : c ≠ 47 := fun e => h (by simp [e])
    have h2 : 47 ∉ r := fun e => h (by simp [e])
    unfold spt
    rw [if_neg h1, spt_none h2]
theorem spt_some : ∀ {a b : List Nat}, 47 ∉ a → spt (a ++ 47 :: b) = a :: spt b
  | [], b, _ => by simp [spt]
  | c :: r, b, h => by
    have h1 : c ≠ 47 := fun e => h (by simp [e])
    have h2 : 47 ∉ r := fun e => h (by simp [e])
    show (if c = 47 then [] :: spt (r ++ 47 :: b) else match spt (r ++ 47 :: b) with
      | [] => [[c]]
      | x :: xs => (c :: x) :: xs) = _
    rw [if_neg h1, spt_some h2]
theorem slash_tl : tl ("/" : Str) = [47] := by decide +kernel
theorem slash_Sx : ("/" : Str) = Sx [47] := ext_tl slash_tl
theorem part_none {r : List Nat} (h : 47 ∉ r) : Txt.partition (Sx r) "/" = (Sx r, Str.empty, Str.empty) := partition_none slash_tl (a := Sx r) h
theorem part_some {a b : List Nat} (h : 47 ∉ a) : Txt.partition (Sx (a ++ 47 :: b)) "/" = (Sx a, ("/" : Str), Sx b) := by
  have e : Sx (a ++ 47 :: b) = Sx a ++ "/" ++ Sx b := ext_tl (by rw [tl_append, tl_append, slash_tl]; simp [tl_Sx])
  rw [e]
  exact partition_app slash_tl (a := Sx a) h
theorem first_slash {r : List Nat} (h : 47 ∈ r) : ∃ a b, r = a ++ 47 :: b ∧ 47 ∉ a := by
  obtain ⟨a, b, e, h⟩ := List.eq_append_cons_of_mem h
  exact ⟨a, b, e, h⟩
/-- what names_in gives -/
def namesIn (z : Str) : List Str := if z = "/" then [] else (spt ((tl z).drop 1)).map Sx
/-- the text of names -/
def txt (ns : List Str) : Str := "/" ++ Txt.join "/" ns
def isTx (z : Str) : Bool := decide ((tl z).take 1 = [47]) && decide ((namesIn z).length ≤ 8) && (namesIn z).all isNm
/-- good names: what a place holds -/
def Good (ns : List Str) : Prop := ns.length ≤ 8 ∧ ∀ n ∈ ns, isNm n = true
theorem sgn_tl : tl sgn = [97, 98, 99, 100, 101, 102, 103, 104, 105, 106, 107, 108, 109, 110, 111, 112, 113, 114, 115, 116, 117, 118, 119, 120, 121, 122, 48, 49, 50, 51, 52, 53, 54, 55, 56, 57] := by decide +kernel
theorem isNm_iff {z : Str} : isNm z = true ↔ 1 ≤ z.length ∧ z.length ≤ 8 ∧ ∀ c ∈ tl z, c ∈ tl sgn := by
  unfold isNm
  simp only [Bool.and_eq_true, decide_eq_true_eq, List.all_eq_true]
  constructor
  · rintro ⟨⟨a, b⟩, c⟩; exact ⟨a, b, c⟩
  · rintro ⟨a, b, c⟩; exact ⟨⟨a, b⟩, c⟩
theorem isNm_slash {z : Str} (h : isNm z = true) : 47 ∉ tl z := fun e => by
  have := (isNm_iff.mp h).2.2 _ e
  rw [sgn_tl] at this
  revert this
  decide
theorem join_tl (ns : List Str) : tl (Txt.join "/" ns) = joinL [47] (ns.map tl) := by rw [join_eq, tl_join, slash_tl]
theorem txt_tl (ns : List Str) : tl (txt ns) = 47 :: joinL [47] (ns.map tl) := by
  unfold txt
  rw [tl_append, slash_tl, join_tl]
  rfl
theorem spt_join : ∀ {ps : List (List Nat)}, ps ≠ [] → (∀ p ∈ ps, 47 ∉ p) → spt (joinL [47] ps) = ps
  | [], h, _ => absurd rfl h
  | [p], _, hp => by
    rw [show joinL [47] [p] = p from by simp [joinL]]
    exact spt_none (hp p (by simp))
  | p :: q :: r, _, hp => by
    rw [show joinL [47] (p :: q :: r) = p ++ 47 :: joinL [47] (q :: r) from by simp [joinL]]
    rw [spt_some (hp p (by simp)), spt_join (by simp) fun z hz => hp z (List.mem_cons_of_mem _ hz)]
theorem joinL_nil : joinL [47] [] = [] := by simp [joinL]
theorem joinL_len : ∀ ps : List (List Nat), (∀ p ∈ ps, p.length ≤ 8) → (joinL [47] ps).length ≤ 9 * ps.length
  | [], _ => by simp [joinL]
  | [p], h => by
    have := h p (by simp)
    simp [joinL]; omega
  | p :: q :: r, h => by
    have h1 := h p (by simp)
    have h2 := joinL_len (q :: r) fun z hz => h z (List.mem_cons_of_mem _ hz)
    rw [show joinL [47] (p :: q :: r) = p ++ 47 :: joinL [47] (q :: r) from by simp [joinL]]
    simp only [List.length_append, List.length_cons] at *
    omega
theorem joinL_ne : ∀ {ps : List (List Nat)}, ps ≠ [] → (∀ p ∈ ps, p ≠ []) → joinL [47] ps ≠ []
  | [], h, _ => absurd rfl h
  | [p], _, hp => by
    rw [show joinL [47] [p] = p from by simp [joinL]]
    exact hp p (by simp)
  | p :: q :: r, _, hp => by
    rw [show joinL [47] (p :: q :: r) = p ++ 47 :: joinL [47] (q :: r) from by simp [joinL]]
    simp
theorem names_txt {ns : List Str} (h : ∀ n ∈ ns, isNm n = true) : namesIn (txt ns) = ns := by
  unfold namesIn
  by_cases hn : ns = []
  · subst hn
    rw [if_pos (ext_tl (by rw [txt_tl, slash_tl]; simp [joinL_nil]))]
  · have hp : ∀ p ∈ ns.map tl, p ≠ [] ∧ 47 ∉ p := fun p hp => by
      obtain ⟨n, hn, rfl⟩ := List.mem_map.mp hp
      have := (isNm_iff.mp (h n hn)).1
      rw [len_tl] at this
      exact ⟨fun e => by rw [e] at this; simp at this, isNm_slash (h n hn)⟩
    have hne : ns.map tl ≠ [] := fun e => hn (List.map_eq_nil_iff.mp e)
    rw [if_neg, txt_tl]
    · show (spt (joinL [47] (ns.map tl))).map Sx = ns
      rw [spt_join hne fun p h => (hp p h).2, List.map_map]
      have : ∀ l : List Str, l.map (Sx ∘ tl) = l := fun l => by
        induction l with
        | nil => rfl
        | cons a l ih => rw [List.map_cons, ih]; rfl
      exact this ns
    · intro e
      have e2 := congrArg tl e
      rw [txt_tl, slash_tl] at e2
      exact joinL_ne hne (fun p h => (hp p h).1) (by simpa using e2)
theorem txt_len {ns : List Str} (h : Good ns) : (txt ns).length ≤ 73 := by
  rw [len_tl, txt_tl]
  have := joinL_len (ns.map tl) fun p hp => by
    obtain ⟨n, hn, rfl⟩ := List.mem_map.mp hp
    rw [← len_tl]
    exact (isNm_iff.mp (h.2 n hn)).2.1
  rw [List.length_map] at this
  have := h.1
  simp only [List.length_cons]
  omega
theorem isTx_txt {ns : List Str} (h : Good ns) : isTx (txt ns) = true := by
  unfold isTx
  rw [names_txt h.2, txt_tl]
  simp only [Bool.and_eq_true, decide_eq_true_eq, List.all_eq_true]
  exact ⟨⟨rfl, h.1⟩, h.2⟩
theorem good_nil : Good [] := ⟨by simp, fun _ h => nomatch h⟩
theorem Good.take {ns : List Str} (h : Good ns) (k : Nat) : Good (ns.take k) := ⟨by have := h.1; rw [List.length_take]; omega, fun n hn => h.2 n (List.mem_of_mem_take hn)⟩
theorem Good.snoc {ns : List Str} (h : Good ns) (hl : ns.length < 8) {n : Str} (hn : isNm n = true) : Good (ns ++ [n]) := ⟨by rw [List.length_append, List.length_singleton]; omega, fun m hm => by
  rcases List.mem_append.mp hm with e | e
  · exact h.2 m e
  · rw [List.mem_singleton.mp e]; exact hn⟩
theorem cut_from (z : Str) (k : Nat) : cutS z (some (k : Int)) none = Sx ((tl z).drop k) := by
  apply ext_tl
  show (((tl z).drop (HT.sIx z.length 0 (some (k : Int)))).take (HT.sIx z.length z.length none - HT.sIx z.length 0 (some (k : Int)))) = (tl z).drop k
  rw [HT.sIx_nat, HT.sIx_none, len_tl]
  by_cases h : k ≤ (tl z).length
  · rw [Nat.min_eq_left h, List.take_of_length_le (by rw [List.length_drop]; exact Nat.le_refl _)]
  · rw [Nat.min_eq_right (by omega), List.drop_of_length_le (Nat.le_refl _), List.drop_of_length_le (by omega)]
    simp
theorem cut_to (z : Str) (k : Nat) : cutS z none (some (k : Int)) = Sx ((tl z).take k) := by
  apply ext_tl
  show (((tl z).drop (HT.sIx z.length 0 none)).take (HT.sIx z.length z.length (some (k : Int)) - HT.sIx z.length 0 none)) = (tl z).take k
  rw [HT.sIx_nat, HT.sIx_none, len_tl, List.drop_zero, Nat.sub_zero]
  by_cases h : k ≤ (tl z).length
  · rw [Nat.min_eq_left h]
  · rw [Nat.min_eq_right (by omega), List.take_of_length_le (Nat.le_refl _), List.take_of_length_le (by omega)]
end NK
namespace NK
open PySem PySem.Spec PyProof.Rows L2 NA TL
theorem isNm_ok {z : Str} (h : isNm z = true) : PyData.strOk z = true := by
  unfold PyData.strOk
  rw [← Array.all_toList, List.all_eq_true]
  intro c hc
  have h1 := (isNm_iff.mp h).2.2 c hc
  rw [sgn_tl] at h1
  have : ∀ c ∈ [97, 98, 99, 100, 101, 102, 103, 104, 105, 106, 107, 108, 109, 110, 111, 112, 113, 114, 115, 116, 117, 118, 119, 120, 121, 122, 48, 49, 50, 51, 52, 53, 54, 55, 56, 57], decide (c < 0x110000) = true := by decide
  exact this c h1
theorem Good.oks {ns : List Str} (h : Good ns) : Oks ns := fun n hn => isNm_ok (h.2 n hn)
/-- the names that both begin with -/
def com : List Str → List Str → List Str
  | a :: as, b :: bs => if a = b then a :: com as bs else []
  | _, _ => []
end NK

namespace NK
open PySem PySem.Spec PyProof.Rows L2 NA
/-! ### the text by places -/
def top (i : Nat) : Stmt := PySem.Challenge.pw_nearestsays_k05_whole_places_meet.main.body.getD i (.Pass ⟨0, 0, 0, 0⟩)
abbrev s_is_name : Stmt := top 3
abbrev s_is_integer : Stmt := top 4
abbrev s_is_between : Stmt := top 5
abbrev s_is_text : Stmt := top 13
abbrev s_names_in : Stmt := top 14
abbrev s_text_of : Stmt := top 15
abbrev s_Place_init : Stmt := inClass (top 16) 1
abbrev s_Place_read : Stmt := inClass (top 16) 2
abbrev s_Place_names : Stmt := inClass (top 16) 4
abbrev s_Place_text : Stmt := inClass (top 16) 5
abbrev s_Place_up : Stmt := inClass (top 16) 6
abbrev s_Place_head : Stmt := inClass (top 16) 7
abbrev s_Place_is_ahead : Stmt := inClass (top 16) 8
abbrev s_Place_add : Stmt := inClass (top 16) 9
abbrev s_Place_contains : Stmt := inClass (top 16) 10
abbrev s_Place_and : Stmt := inClass (top 16) 11
abbrev s_Place_len : Stmt := inClass (top 16) 12
abbrev s_Place_bool : Stmt := inClass (top 16) 13
abbrev s_Place_eq : Stmt := inClass (top 16) 16
abbrev s_law_pen : Stmt := top 18
abbrev s_law_draw : Stmt := top 19
abbrev s_law_pick : Stmt := top 20
abbrev s_law_place : Stmt := top 21
abbrev s_law_way : Stmt := top 22
abbrev s_law_way_right : Stmt := top 23
abbrev s_law_met_right : Stmt := top 24
abbrev s_law : Stmt := top 25
theorem sc_is_name : FnScope ["value", "sign"] ["value"] (defScope s_is_name) := ⟨rfl, rfl, rfl, by decide +kernel, rfl, by decide +kernel, by decide +kernel⟩
theorem sc_is_integer : FnScope ["value"] ["value"] (defScope s_is_integer) := ⟨rfl, rfl, rfl, by decide +kernel, rfl, by decide +kernel, by decide +kernel⟩
theorem sc_is_between : FnScope ["value", "low", "high"] ["value", "low", "high"] (defScope s_is_between) := ⟨rfl, rfl, rfl, by decide +kernel, rfl, by decide +kernel, by decide +kernel⟩
theorem sc_is_text : FnScope ["value", "names", "name"] ["value"] (defScope s_is_text) := ⟨rfl, rfl, rfl, by decide +kernel, rfl, by decide +kernel, by decide +kernel⟩
theorem sc_names_in : FnScope ["text", "names", "left", "slash", "name"] ["text"] (defScope s_names_in) := ⟨rfl, rfl, rfl, by decide +kernel, rfl, by decide +kernel, by decide +kernel⟩
theorem sc_text_of : FnScope ["names"] ["names"] (defScope s_text_of) := ⟨rfl, rfl, rfl, by decide +kernel, rfl, by decide +kernel, by decide +kernel⟩
theorem sc_Place_init : FnScope ["self", "names", "name"] ["self", "names"] (defScope s_Place_init) := ⟨rfl, rfl, rfl, by decide +kernel, rfl, by decide +kernel, by decide +kernel⟩
theorem sc_Place_read : FnScope ["cls", "text", "names"] ["cls", "text"] (defScope s_Place_read) := ⟨rfl, rfl, rfl, by decide +kernel, rfl, by decide +kernel, by decide +kernel⟩
theorem sc_Place_names : FnScope ["self"] ["self"] (defScope s_Place_names) := ⟨rfl, rfl, rfl, by decide +kernel, rfl, by decide +kernel, by decide +kernel⟩
theorem sc_Place_text : FnScope ["self"] ["self"] (defScope s_Place_text) := ⟨rfl, rfl, rfl, by decide +kernel, rfl, by decide +kernel, by decide +kernel⟩
theorem sc_Place_up : FnScope ["self", "names"] ["self"] (defScope s_Place_up) := ⟨rfl, rfl, rfl, by decide +kernel, rfl, by decide +kernel, by decide +kernel⟩
theorem sc_Place_head : FnScope ["self", "k", "names"] ["self", "k"] (defScope s_Place_head) := ⟨rfl, rfl, rfl, by decide +kernel, rfl, by decide +kernel, by decide +kernel⟩
theorem sc_Place_is_ahead : FnScope ["self", "b"] ["self", "b"] (defScope s_Place_is_ahead) := ⟨rfl, rfl, rfl, by decide +kernel, rfl, by decide +kernel, by decide +kernel⟩
theorem sc_Place_add : FnScope ["self", "name", "names"] ["self", "name"] (defScope s_Place_add) := ⟨rfl, rfl, rfl, by decide +kernel, rfl, by decide +kernel, by decide +kernel⟩
theorem sc_Place_contains : FnScope ["self", "x", "names"] ["self", "x"] (defScope s_Place_contains) := ⟨rfl, rfl, rfl, by decide +kernel, rfl, by decide +kernel, by decide +kernel⟩
theorem sc_Place_and : FnScope ["self", "other", "many", "names"] ["self", "other"] (defScope s_Place_and) := ⟨rfl, rfl, rfl, by decide +kernel, rfl, by decide +kernel, by decide +kernel⟩
theorem sc_Place_len : FnScope ["self"] ["self"] (defScope s_Place_len) := ⟨rfl, rfl, rfl, by decide +kernel, rfl, by decide +kernel, by decide +kernel⟩
theorem sc_Place_bool : FnScope ["self"] ["self"] (defScope s_Place_bool) := ⟨rfl, rfl, rfl, by decide +kernel, rfl, by decide +kernel, by decide +kernel⟩
theorem sc_Place_eq : FnScope ["self", "other"] ["self", "other"] (defScope s_Place_eq) := ⟨rfl, rfl, rfl, by decide +kernel, rfl, by decide +kernel, by decide +kernel⟩
theorem sc_law_pen : FnScope ["_law_script"] ["_law_script"] (defScope s_law_pen) := ⟨rfl, rfl, rfl, by decide +kernel, rfl, by decide +kernel, by decide +kernel⟩
theorem sc_law_draw : FnScope ["_law_pen_here", "_law_many", "_law_digit", "_law_at", "_law_cell", "_law_great", "_law_stirred"] ["_law_pen_here", "_law_many"] (defScope s_law_draw) := ⟨rfl, rfl, rfl, by decide +kernel, rfl, by decide +kernel, by decide +kernel⟩
theorem sc_law_pick : FnScope ["_law_pen_here", "_law_some"] ["_law_pen_here", "_law_some"] (defScope s_law_pick) := ⟨rfl, rfl, rfl, by decide +kernel, rfl, by decide +kernel, by decide +kernel⟩
theorem sc_law_place : FnScope ["_law_pen_here", "_law_pool", "_law_found", "_law_step_at"] ["_law_pen_here", "_law_pool"] (defScope s_law_place) := ⟨rfl, rfl, rfl, by decide +kernel, rfl, by decide +kernel, by decide +kernel⟩
theorem sc_law_way : FnScope ["_law_here", "_law_found"] ["_law_here"] (defScope s_law_way) := ⟨rfl, rfl, rfl, by decide +kernel, rfl, by decide +kernel, by decide +kernel⟩
theorem sc_law_way_right : FnScope ["_law_here", "_law_way_here", "_law_deep", "_law_spot", "_law_above"] ["_law_here"] (defScope s_law_way_right) := ⟨rfl, rfl, rfl, by decide +kernel, rfl, by decide +kernel, by decide +kernel⟩
theorem sc_law_met_right : FnScope ["_law_one", "_law_other", "_law_met", "_law_mine", "_law_yours", "_law_both", "_law_spot"] ["_law_one", "_law_other"] (defScope s_law_met_right) := ⟨rfl, rfl, rfl, by decide +kernel, rfl, by decide +kernel, by decide +kernel⟩
theorem sc_law : FnScope ["_law_script", "_law_pen_here", "_law_turn", "_law_pool", "_law_one", "_law_other", "_law_more", "_law_short"] ["_law_script"] (defScope s_law) := ⟨rfl, rfl, rfl, by decide +kernel, rfl, by decide +kernel, by decide +kernel⟩
/-! ### the addresses, the facts -/
structure Ad where
  c_Place : Addr
  f_is_name : Addr
  f_is_integer : Addr
  f_is_between : Addr
  f_is_text : Addr
  f_names_in : Addr
  f_text_of : Addr
  f_Place_init : Addr
  f_Place_read : Addr
  p_Place_read : Addr
  f_Place_names : Addr
  p_Place_names : Addr
  f_Place_text : Addr
  p_Place_text : Addr
  f_Place_up : Addr
  p_Place_up : Addr
  f_Place_head : Addr
  f_Place_is_ahead : Addr
  f_Place_add : Addr
  f_Place_contains : Addr
  f_Place_and : Addr
  f_Place_len : Addr
  f_Place_bool : Addr
  f_Place_eq : Addr
  f_law_pen : Addr
  f_law_draw : Addr
  f_law_pick : Addr
  f_law_place : Addr
  f_law_way : Addr
  f_law_way_right : Addr
  f_law_met_right : Addr
  f_law : Addr
structure Tx (K : PySem.W.Frag) (mg : Str → Option Value) (A : Ad) : Prop where
  mg_Place : mg "Place" = some (.ref A.c_Place)
  pg_Place : PySem.W.plainGet K A.c_Place Str.empty = true
  hd_Place : PySem.W.hasDictIn K A.c_Place = true
  po_Place : PySem.W.plainOver K A.c_Place = true
  sa_Place : PySem.W.findIn K (.ref A.c_Place) "__setattr__" = some (some (.builtin "object.__setattr__"))
  mk_Place : PySem.W.makesIn K A.c_Place = true
  kc_Place : PySem.W.keepIn K (.ref A.c_Place) = true
  sf_Place : PySem.W.selfFirst K A.c_Place = true
  ca_Place : PySem.W.findIn K (.ref A.c_Place) "__class__" = some (some (.builtin "object.__class__"))
  cn_Place : PySem.W.specialIn K (.builtin "object.__class__") "__get__" = some (some (.builtin "getset_descriptor.__get__"))
  ct_Place : PySem.W.takesIn K (.builtin "object.__class__") = some true
  cm_Place : PySem.W.mroIn K A.c_Place (.type "object") = some true
  ob_Place : PySem.W.subIn K (.ref A.c_Place) (.type "object") = some true
  ne_Place : PySem.W.findIn K (.ref A.c_Place) "__ne__" = some (some (.builtin "object.__ne__"))
  rd_Place : PySem.W.readsIn K A.c_Place (.type "type") = true
  ga_Place : PySem.W.specialIn K (.ref A.c_Place) "__getattribute__" = some (some (.builtin "type.__getattribute__"))
  np_Place : PySem.W.findIn K (.ref A.c_Place) "parts" = some none
  ic_Place : PySem.W.isClsIn K A.c_Place = true
  ty_Place : PySem.W.typeIn K (.ref A.c_Place) = some (.type "type")
  most_Place : ∃ t, PySem.W.findCls K (.ref A.c_Place) (.type "type") "MOST" = some (.val (.int 8 t))
  ra_Place : PySem.W.findIn K (.ref A.c_Place) "__radd__" = some none
  su_Place : PySem.W.subIn K (.type "str") (.ref A.c_Place) = some false
  mg_is_name : mg "is_name" = some (.ref A.f_is_name)
  fn_is_name : PySem.W.isFn K (.ref A.f_is_name) = true
  F_is_name : FunE K "is_name" "is_name" s_is_name A.f_is_name
  kp_is_name : PySem.W.keepIn K (.ref A.f_is_name) = true
  mg_is_integer : mg "is_integer" = some (.ref A.f_is_integer)
  fn_is_integer : PySem.W.isFn K (.ref A.f_is_integer) = true
  F_is_integer : FunE K "is_integer" "is_integer" s_is_integer A.f_is_integer
  kp_is_integer : PySem.W.keepIn K (.ref A.f_is_integer) = true
  mg_is_between : mg "is_between" = some (.ref A.f_is_between)
  fn_is_between : PySem.W.isFn K (.ref A.f_is_between) = true
  F_is_between : FunE K "is_between" "is_between" s_is_between A.f_is_between
  kp_is_between : PySem.W.keepIn K (.ref A.f_is_between) = true
  mg_is_text : mg "is_text" = some (.ref A.f_is_text)
  fn_is_text : PySem.W.isFn K (.ref A.f_is_text) = true
  F_is_text : FunE K "is_text" "is_text" s_is_text A.f_is_text
  kp_is_text : PySem.W.keepIn K (.ref A.f_is_text) = true
  mg_names_in : mg "names_in" = some (.ref A.f_names_in)
  fn_names_in : PySem.W.isFn K (.ref A.f_names_in) = true
  F_names_in : FunE K "names_in" "names_in" s_names_in A.f_names_in
  kp_names_in : PySem.W.keepIn K (.ref A.f_names_in) = true
  mg_text_of : mg "text_of" = some (.ref A.f_text_of)
  fn_text_of : PySem.W.isFn K (.ref A.f_text_of) = true
  F_text_of : FunE K "text_of" "text_of" s_text_of A.f_text_of
  kp_text_of : PySem.W.keepIn K (.ref A.f_text_of) = true
  at_Place_init : PySem.W.findIn K (.ref A.c_Place) "__init__" = some (some (.ref A.f_Place_init))
  fn_Place_init : PySem.W.isFn K (.ref A.f_Place_init) = true
  F_Place_init : FunE K "__init__" "Place.__init__" s_Place_init A.f_Place_init
  kp_Place_init : PySem.W.keepIn K (.ref A.f_Place_init) = true
  at_Place_read : PySem.W.findCls K (.ref A.c_Place) (.type "type") "read" = some (.get (.builtin "classmethod.__get__") (.ref A.p_Place_read) .none (.ref A.c_Place))
  rc_Place_read : ∃ rest, PySem.W.recIn K A.p_Place_read "classmethod" = some (.ref A.f_Place_read :: rest)
  fi_Place_read : PySem.W.fnIn K A.f_Place_read = true
  fn_Place_read : PySem.W.isFn K (.ref A.f_Place_read) = true
  F_Place_read : FunE K "read" "Place.read" s_Place_read A.f_Place_read
  kp_Place_read : PySem.W.keepIn K (.ref A.f_Place_read) = true
  at_Place_names : PySem.W.findIn K (.ref A.c_Place) "names" = some (some (.ref A.p_Place_names))
  ge_Place_names : PySem.W.specialIn K (.ref A.p_Place_names) "__get__" = some (some (.builtin "property.__get__"))
  tk_Place_names : PySem.W.takesIn K (.ref A.p_Place_names) = some true
  rc_Place_names : ∃ rest, PySem.W.recIn K A.p_Place_names "property" = some (.ref A.f_Place_names :: rest)
  fn_Place_names : PySem.W.isFn K (.ref A.f_Place_names) = true
  F_Place_names : FunE K "names" "Place.names" s_Place_names A.f_Place_names
  kp_Place_names : PySem.W.keepIn K (.ref A.f_Place_names) = true
  at_Place_text : PySem.W.findIn K (.ref A.c_Place) "text" = some (some (.ref A.p_Place_text))
  ge_Place_text : PySem.W.specialIn K (.ref A.p_Place_text) "__get__" = some (some (.builtin "property.__get__"))
  tk_Place_text : PySem.W.takesIn K (.ref A.p_Place_text) = some true
  rc_Place_text : ∃ rest, PySem.W.recIn K A.p_Place_text "property" = some (.ref A.f_Place_text :: rest)
  fn_Place_text : PySem.W.isFn K (.ref A.f_Place_text) = true
  F_Place_text : FunE K "text" "Place.text" s_Place_text A.f_Place_text
  kp_Place_text : PySem.W.keepIn K (.ref A.f_Place_text) = true
  at_Place_up : PySem.W.findIn K (.ref A.c_Place) "up" = some (some (.ref A.p_Place_up))
  ge_Place_up : PySem.W.specialIn K (.ref A.p_Place_up) "__get__" = some (some (.builtin "property.__get__"))
  tk_Place_up : PySem.W.takesIn K (.ref A.p_Place_up) = some true
  rc_Place_up : ∃ rest, PySem.W.recIn K A.p_Place_up "property" = some (.ref A.f_Place_up :: rest)
  fn_Place_up : PySem.W.isFn K (.ref A.f_Place_up) = true
  F_Place_up : FunE K "up" "Place.up" s_Place_up A.f_Place_up
  kp_Place_up : PySem.W.keepIn K (.ref A.f_Place_up) = true
  at_Place_head : PySem.W.findIn K (.ref A.c_Place) "head" = some (some (.ref A.f_Place_head))
  fn_Place_head : PySem.W.isFn K (.ref A.f_Place_head) = true
  F_Place_head : FunE K "head" "Place.head" s_Place_head A.f_Place_head
  kp_Place_head : PySem.W.keepIn K (.ref A.f_Place_head) = true
  at_Place_is_ahead : PySem.W.findIn K (.ref A.c_Place) "is_ahead" = some (some (.ref A.f_Place_is_ahead))
  fn_Place_is_ahead : PySem.W.isFn K (.ref A.f_Place_is_ahead) = true
  F_Place_is_ahead : FunE K "is_ahead" "Place.is_ahead" s_Place_is_ahead A.f_Place_is_ahead
  kp_Place_is_ahead : PySem.W.keepIn K (.ref A.f_Place_is_ahead) = true
  at_Place_add : PySem.W.findIn K (.ref A.c_Place) "__add__" = some (some (.ref A.f_Place_add))
  fn_Place_add : PySem.W.isFn K (.ref A.f_Place_add) = true
  F_Place_add : FunE K "__add__" "Place.__add__" s_Place_add A.f_Place_add
  kp_Place_add : PySem.W.keepIn K (.ref A.f_Place_add) = true
  at_Place_contains : PySem.W.findIn K (.ref A.c_Place) "__contains__" = some (some (.ref A.f_Place_contains))
  fn_Place_contains : PySem.W.isFn K (.ref A.f_Place_contains) = true
  F_Place_contains : FunE K "__contains__" "Place.__contains__" s_Place_contains A.f_Place_contains
  kp_Place_contains : PySem.W.keepIn K (.ref A.f_Place_contains) = true
  at_Place_and : PySem.W.findIn K (.ref A.c_Place) "__and__" = some (some (.ref A.f_Place_and))
  fn_Place_and : PySem.W.isFn K (.ref A.f_Place_and) = true
  F_Place_and : FunE K "__and__" "Place.__and__" s_Place_and A.f_Place_and
  kp_Place_and : PySem.W.keepIn K (.ref A.f_Place_and) = true
  at_Place_len : PySem.W.findIn K (.ref A.c_Place) "__len__" = some (some (.ref A.f_Place_len))
  fn_Place_len : PySem.W.isFn K (.ref A.f_Place_len) = true
  F_Place_len : FunE K "__len__" "Place.__len__" s_Place_len A.f_Place_len
  kp_Place_len : PySem.W.keepIn K (.ref A.f_Place_len) = true
  at_Place_bool : PySem.W.findIn K (.ref A.c_Place) "__bool__" = some (some (.ref A.f_Place_bool))
  fn_Place_bool : PySem.W.isFn K (.ref A.f_Place_bool) = true
  F_Place_bool : FunE K "__bool__" "Place.__bool__" s_Place_bool A.f_Place_bool
  kp_Place_bool : PySem.W.keepIn K (.ref A.f_Place_bool) = true
  at_Place_eq : PySem.W.findIn K (.ref A.c_Place) "__eq__" = some (some (.ref A.f_Place_eq))
  fn_Place_eq : PySem.W.isFn K (.ref A.f_Place_eq) = true
  F_Place_eq : FunE K "__eq__" "Place.__eq__" s_Place_eq A.f_Place_eq
  kp_Place_eq : PySem.W.keepIn K (.ref A.f_Place_eq) = true
  mg_law_pen : mg "_law_pen" = some (.ref A.f_law_pen)
  fn_law_pen : PySem.W.isFn K (.ref A.f_law_pen) = true
  F_law_pen : FunE K "_law_pen" "_law_pen" s_law_pen A.f_law_pen
  kp_law_pen : PySem.W.keepIn K (.ref A.f_law_pen) = true
  mg_law_draw : mg "_law_draw" = some (.ref A.f_law_draw)
  fn_law_draw : PySem.W.isFn K (.ref A.f_law_draw) = true
  F_law_draw : FunE K "_law_draw" "_law_draw" s_law_draw A.f_law_draw
  kp_law_draw : PySem.W.keepIn K (.ref A.f_law_draw) = true
  mg_law_pick : mg "_law_pick" = some (.ref A.f_law_pick)
  fn_law_pick : PySem.W.isFn K (.ref A.f_law_pick) = true
  F_law_pick : FunE K "_law_pick" "_law_pick" s_law_pick A.f_law_pick
  kp_law_pick : PySem.W.keepIn K (.ref A.f_law_pick) = true
  mg_law_place : mg "_law_place" = some (.ref A.f_law_place)
  fn_law_place : PySem.W.isFn K (.ref A.f_law_place) = true
  F_law_place : FunE K "_law_place" "_law_place" s_law_place A.f_law_place
  kp_law_place : PySem.W.keepIn K (.ref A.f_law_place) = true
  mg_law_way : mg "_law_way" = some (.ref A.f_law_way)
  fn_law_way : PySem.W.isFn K (.ref A.f_law_way) = true
  F_law_way : FunE K "_law_way" "_law_way" s_law_way A.f_law_way
  kp_law_way : PySem.W.keepIn K (.ref A.f_law_way) = true
  mg_law_way_right : mg "_law_way_right" = some (.ref A.f_law_way_right)
  fn_law_way_right : PySem.W.isFn K (.ref A.f_law_way_right) = true
  F_law_way_right : FunE K "_law_way_right" "_law_way_right" s_law_way_right A.f_law_way_right
  kp_law_way_right : PySem.W.keepIn K (.ref A.f_law_way_right) = true
  mg_law_met_right : mg "_law_met_right" = some (.ref A.f_law_met_right)
  fn_law_met_right : PySem.W.isFn K (.ref A.f_law_met_right) = true
  F_law_met_right : FunE K "_law_met_right" "_law_met_right" s_law_met_right A.f_law_met_right
  kp_law_met_right : PySem.W.keepIn K (.ref A.f_law_met_right) = true
  mg_law : mg "law" = some (.ref A.f_law)
  fn_law : PySem.W.isFn K (.ref A.f_law) = true
  F_law : FunE K "law" "law" s_law A.f_law
  kp_law : PySem.W.keepIn K (.ref A.f_law) = true
  k_SIGNS : ∃ t, mg "SIGNS" = some (.str "abcdefghijklmnopqrstuvwxyz0123456789" t)
  k_LONGEST_NAME : ∃ t, mg "LONGEST_NAME" = some (.int 8 t)
  k_MOST_NAMES : ∃ t, mg "MOST_NAMES" = some (.int 8 t)
  z_abs : mg "abs" = none
  z_all : mg "all" = none
  z_bool : mg "bool" = none
  z_enumerate : mg "enumerate" = none
  z_int : mg "int" = none
  z_isinstance : mg "isinstance" = none
  z_len : mg "len" = none
  z_list : mg "list" = none
  z_min : mg "min" = none
  z_range : mg "range" = none
  z_str : mg "str" = none
  z_tuple : mg "tuple" = none
  ta : PySem.W.findIn K (.type "str") "__add__" = some (some (.builtin "str.__add__"))
  tra : PySem.W.findIn K (.type "str") "__radd__" = some none
theorem tx_mk {K : PySem.W.Frag} {h : Heap} {mg : Str → Option Value} (X : K.In h) (G : h.Ns mainGlobals mg) {c_Place f_is_name f_is_integer f_is_between f_is_text f_names_in f_text_of f_Place_init f_Place_read p_Place_read f_Place_names p_Place_names f_Place_text p_Place_text f_Place_up p_Place_up f_Place_head f_Place_is_ahead f_Place_add f_Place_contains f_Place_and f_Place_len f_Place_bool f_Place_eq f_law_pen f_law_draw f_law_pick f_law_place f_law_way f_law_way_right f_law_met_right f_law : Addr} {tt1 : Tok} {oc_is_name kV_is_name dc_is_name pm_is_name cd_is_name ct_is_name : Value} {od_is_name an_is_name : Option Addr} {sl_is_name : Array (Option Value)} {oc_is_integer kV_is_integer dc_is_integer pm_is_integer cd_is_integer ct_is_integer : Value} {od_is_integer an_is_integer : Option Addr} {sl_is_integer : Array (Option Value)} {oc_is_between kV_is_between dc_is_between pm_is_between cd_is_between ct_is_between : Value} {od_is_between an_is_between : Option Addr} {sl_is_between : Array (Option Value)} {oc_is_text kV_is_text dc_is_text pm_is_text cd_is_text ct_is_text : Value} {od_is_text an_is_text : Option Addr} {sl_is_text : Array (Option Value)} {oc_names_in kV_names_in dc_names_in pm_names_in cd_names_in ct_names_in : Value} {od_names_in an_names_in : Option Addr} {sl_names_in : Array (Option Value)} {oc_text_of kV_text_of dc_text_of pm_text_of cd_text_of ct_text_of : Value} {od_text_of an_text_of : Option Addr} {sl_text_of : Array (Option Value)} {oc_Place_init kV_Place_init dc_Place_init pm_Place_init cd_Place_init ct_Place_init : Value} {od_Place_init an_Place_init : Option Addr} {sl_Place_init : Array (Option Value)} {rr2 : List Value} {oc_Place_read kV_Place_read dc_Place_read pm_Place_read cd_Place_read ct_Place_read : Value} {od_Place_read an_Place_read : Option Addr} {sl_Place_read : Array (Option Value)} {rr3 : List Value} {oc_Place_names kV_Place_names dc_Place_names pm_Place_names cd_Place_names ct_Place_names : Value} {od_Place_names an_Place_names : Option Addr} {sl_Place_names : Array (Option Value)} {rr4 : List Value} {oc_Place_text kV_Place_text dc_Place_text pm_Place_text cd_Place_text ct_Place_text : Value} {od_Place_text an_Place_text : Option Addr} {sl_Place_text : Array (Option Value)} {rr5 : List Value} {oc_Place_up kV_Place_up dc_Place_up pm_Place_up cd_Place_up ct_Place_up : Value} {od_Place_up an_Place_up : Option Addr} {sl_Place_up : Array (Option Value)} {oc_Place_head kV_Place_head dc_Place_head pm_Place_head cd_Place_head ct_Place_head : Value} {od_Place_head an_Place_head : Option Addr} {sl_Place_head : Array (Option Value)} {oc_Place_is_ahead kV_Place_is_ahead dc_Place_is_ahead pm_Place_is_ahead cd_Place_is_ahead ct_Place_is_ahead : Value} {od_Place_is_ahead an_Place_is_ahead : Option Addr} {sl_Place_is_ahead : Array (Option Value)} {oc_Place_add kV_Place_add dc_Place_add pm_Place_add cd_Place_add ct_Place_add : Value} {od_Place_add an_Place_add : Option Addr} {sl_Place_add : Array (Option Value)} {oc_Place_contains kV_Place_contains dc_Place_contains pm_Place_contains cd_Place_contains ct_Place_contains : Value} {od_Place_contains an_Place_contains : Option Addr} {sl_Place_contains : Array (Option Value)} {oc_Place_and kV_Place_and dc_Place_and pm_Place_and cd_Place_and ct_Place_and : Value} {od_Place_and an_Place_and : Option Addr} {sl_Place_and : Array (Option Value)} {oc_Place_len kV_Place_len dc_Place_len pm_Place_len cd_Place_len ct_Place_len : Value} {od_Place_len an_Place_len : Option Addr} {sl_Place_len : Array (Option Value)} {oc_Place_bool kV_Place_bool dc_Place_bool pm_Place_bool cd_Place_bool ct_Place_bool : Value} {od_Place_bool an_Place_bool : Option Addr} {sl_Place_bool : Array (Option Value)} {oc_Place_eq kV_Place_eq dc_Place_eq pm_Place_eq cd_Place_eq ct_Place_eq : Value} {od_Place_eq an_Place_eq : Option Addr} {sl_Place_eq : Array (Option Value)} {oc_law_pen kV_law_pen dc_law_pen pm_law_pen cd_law_pen ct_law_pen : Value} {od_law_pen an_law_pen : Option Addr} {sl_law_pen : Array (Option Value)} {oc_law_draw kV_law_draw dc_law_draw pm_law_draw cd_law_draw ct_law_draw : Value} {od_law_draw an_law_draw : Option Addr} {sl_law_draw : Array (Option Value)} {oc_law_pick kV_law_pick dc_law_pick pm_law_pick cd_law_pick ct_law_pick : Value} {od_law_pick an_law_pick : Option Addr} {sl_law_pick : Array (Option Value)} {oc_law_place kV_law_place dc_law_place pm_law_place cd_law_place ct_law_place : Value} {od_law_place an_law_place : Option Addr} {sl_law_place : Array (Option Value)} {oc_law_way kV_law_way dc_law_way pm_law_way cd_law_way ct_law_way : Value} {od_law_way an_law_way : Option Addr} {sl_law_way : Array (Option Value)} {oc_law_way_right kV_law_way_right dc_law_way_right pm_law_way_right cd_law_way_right ct_law_way_right : Value} {od_law_way_right an_law_way_right : Option Addr} {sl_law_way_right : Array (Option Value)} {oc_law_met_right kV_law_met_right dc_law_met_right pm_law_met_right cd_law_met_right ct_law_met_right : Value} {od_law_met_right an_law_met_right : Option Addr} {sl_law_met_right : Array (Option Value)} {oc_law kV_law dc_law pm_law cd_law ct_law : Value} {od_law an_law : Option Addr} {sl_law : Array (Option Value)} {tt6 : Tok} {tt7 : Tok} {tt8 : Tok}
    (mg_Place : PySem.W.nsIn K mainGlobals "Place" = some (some (.ref c_Place)))
    (pg_Place : PySem.W.plainGet K c_Place Str.empty = true)
    (hd_Place : PySem.W.hasDictIn K c_Place = true)
    (po_Place : PySem.W.plainOver K c_Place = true)
    (sa_Place : PySem.W.findIn K (.ref c_Place) "__setattr__" = some (some (.builtin "object.__setattr__")))
    (mk_Place : PySem.W.makesIn K c_Place = true)
    (kc_Place : PySem.W.keepIn K (.ref c_Place) = true)
    (sf_Place : PySem.W.selfFirst K c_Place = true)
    (ca_Place : PySem.W.findIn K (.ref c_Place) "__class__" = some (some (.builtin "object.__class__")))
    (cn_Place : PySem.W.specialIn K (.builtin "object.__class__") "__get__" = some (some (.builtin "getset_descriptor.__get__")))
    (ct_Place : PySem.W.takesIn K (.builtin "object.__class__") = some true)
    (cm_Place : PySem.W.mroIn K c_Place (.type "object") = some true)
    (ob_Place : PySem.W.subIn K (.ref c_Place) (.type "object") = some true)
    (ne_Place : PySem.W.findIn K (.ref c_Place) "__ne__" = some (some (.builtin "object.__ne__")))
    (rd_Place : PySem.W.readsIn K c_Place (.type "type") = true)
    (ga_Place : PySem.W.specialIn K (.ref c_Place) "__getattribute__" = some (some (.builtin "type.__getattribute__")))
    (np_Place : PySem.W.findIn K (.ref c_Place) "parts" = some none)
    (ic_Place : PySem.W.isClsIn K c_Place = true)
    (ty_Place : PySem.W.typeIn K (.ref c_Place) = some (.type "type"))
    (most_Place : PySem.W.findCls K (.ref c_Place) (.type "type") "MOST" = some (.val (.int 8 tt1)))
    (ra_Place : PySem.W.findIn K (.ref c_Place) "__radd__" = some none)
    (su_Place : PySem.W.subIn K (.type "str") (.ref c_Place) = some false)
    (mg_is_name : PySem.W.nsIn K mainGlobals "is_name" = some (some (.ref f_is_name)))
    (fn_is_name : PySem.W.isFn K (.ref f_is_name) = true)
    (l_is_name : K.lookup f_is_name = some ⟨oc_is_name, od_is_name, .func (PySem.W.fnOf "is_name" "is_name" (defArgs s_is_name) (defBody s_is_name) (defScope s_is_name) .none kV_is_name dc_is_name pm_is_name an_is_name cd_is_name ct_is_name), sl_is_name⟩)
    (cc_is_name : PySem.W.codeIn K cd_is_name "is_name" = true)
    (kk_is_name : PySem.W.keepIn K (.ref f_is_name) = true)
    (kp_is_name : PySem.W.keepIn K (.ref f_is_name) = true)
    (mg_is_integer : PySem.W.nsIn K mainGlobals "is_integer" = some (some (.ref f_is_integer)))
    (fn_is_integer : PySem.W.isFn K (.ref f_is_integer) = true)
    (l_is_integer : K.lookup f_is_integer = some ⟨oc_is_integer, od_is_integer, .func (PySem.W.fnOf "is_integer" "is_integer" (defArgs s_is_integer) (defBody s_is_integer) (defScope s_is_integer) .none kV_is_integer dc_is_integer pm_is_integer an_is_integer cd_is_integer ct_is_integer), sl_is_integer⟩)
    (cc_is_integer : PySem.W.codeIn K cd_is_integer "is_integer" = true)
    (kk_is_integer : PySem.W.keepIn K (.ref f_is_integer) = true)
    (kp_is_integer : PySem.W.keepIn K (.ref f_is_integer) = true)
    (mg_is_between : PySem.W.nsIn K mainGlobals "is_between" = some (some (.ref f_is_between)))
    (fn_is_between : PySem.W.isFn K (.ref f_is_between) = true)
    (l_is_between : K.lookup f_is_between = some ⟨oc_is_between, od_is_between, .func (PySem.W.fnOf "is_between" "is_between" (defArgs s_is_between) (defBody s_is_between) (defScope s_is_between) .none kV_is_between dc_is_between pm_is_between an_is_between cd_is_between ct_is_between), sl_is_between⟩)
    (cc_is_between : PySem.W.codeIn K cd_is_between "is_between" = true)
    (kk_is_between : PySem.W.keepIn K (.ref f_is_between) = true)
    (kp_is_between : PySem.W.keepIn K (.ref f_is_between) = true)
    (mg_is_text : PySem.W.nsIn K mainGlobals "is_text" = some (some (.ref f_is_text)))
    (fn_is_text : PySem.W.isFn K (.ref f_is_text) = true)
    (l_is_text : K.lookup f_is_text = some ⟨oc_is_text, od_is_text, .func (PySem.W.fnOf "is_text" "is_text" (defArgs s_is_text) (defBody s_is_text) (defScope s_is_text) .none kV_is_text dc_is_text pm_is_text an_is_text cd_is_text ct_is_text), sl_is_text⟩)
    (cc_is_text : PySem.W.codeIn K cd_is_text "is_text" = true)
    (kk_is_text : PySem.W.keepIn K (.ref f_is_text) = true)
    (kp_is_text : PySem.W.keepIn K (.ref f_is_text) = true)
    (mg_names_in : PySem.W.nsIn K mainGlobals "names_in" = some (some (.ref f_names_in)))
    (fn_names_in : PySem.W.isFn K (.ref f_names_in) = true)
    (l_names_in : K.lookup f_names_in = some ⟨oc_names_in, od_names_in, .func (PySem.W.fnOf "names_in" "names_in" (defArgs s_names_in) (defBody s_names_in) (defScope s_names_in) .none kV_names_in dc_names_in pm_names_in an_names_in cd_names_in ct_names_in), sl_names_in⟩)
    (cc_names_in : PySem.W.codeIn K cd_names_in "names_in" = true)
    (kk_names_in : PySem.W.keepIn K (.ref f_names_in) = true)
    (kp_names_in : PySem.W.keepIn K (.ref f_names_in) = true)
    (mg_text_of : PySem.W.nsIn K mainGlobals "text_of" = some (some (.ref f_text_of)))
    (fn_text_of : PySem.W.isFn K (.ref f_text_of) = true)
    (l_text_of : K.lookup f_text_of = some ⟨oc_text_of, od_text_of, .func (PySem.W.fnOf "text_of" "text_of" (defArgs s_text_of) (defBody s_text_of) (defScope s_text_of) .none kV_text_of dc_text_of pm_text_of an_text_of cd_text_of ct_text_of), sl_text_of⟩)
    (cc_text_of : PySem.W.codeIn K cd_text_of "text_of" = true)
    (kk_text_of : PySem.W.keepIn K (.ref f_text_of) = true)
    (kp_text_of : PySem.W.keepIn K (.ref f_text_of) = true)
    (at_Place_init : PySem.W.findIn K (.ref c_Place) "__init__" = some (some (.ref f_Place_init)))
    (fn_Place_init : PySem.W.isFn K (.ref f_Place_init) = true)
    (l_Place_init : K.lookup f_Place_init = some ⟨oc_Place_init, od_Place_init, .func (PySem.W.fnOf "__init__" "Place.__init__" (defArgs s_Place_init) (defBody s_Place_init) (defScope s_Place_init) .none kV_Place_init dc_Place_init pm_Place_init an_Place_init cd_Place_init ct_Place_init), sl_Place_init⟩)
    (cc_Place_init : PySem.W.codeIn K cd_Place_init "Place.__init__" = true)
    (kk_Place_init : PySem.W.keepIn K (.ref f_Place_init) = true)
    (kp_Place_init : PySem.W.keepIn K (.ref f_Place_init) = true)
    (at_Place_read : PySem.W.findCls K (.ref c_Place) (.type "type") "read" = some (.get (.builtin "classmethod.__get__") (.ref p_Place_read) .none (.ref c_Place)))
    (rc_Place_read : PySem.W.recIn K p_Place_read "classmethod" = some (.ref f_Place_read :: rr2))
    (fi_Place_read : PySem.W.fnIn K f_Place_read = true)
    (fn_Place_read : PySem.W.isFn K (.ref f_Place_read) = true)
    (l_Place_read : K.lookup f_Place_read = some ⟨oc_Place_read, od_Place_read, .func (PySem.W.fnOf "read" "Place.read" (defArgs s_Place_read) (defBody s_Place_read) (defScope s_Place_read) .none kV_Place_read dc_Place_read pm_Place_read an_Place_read cd_Place_read ct_Place_read), sl_Place_read⟩)
    (cc_Place_read : PySem.W.codeIn K cd_Place_read "Place.read" = true)
    (kk_Place_read : PySem.W.keepIn K (.ref f_Place_read) = true)
    (kp_Place_read : PySem.W.keepIn K (.ref f_Place_read) = true)
    (at_Place_names : PySem.W.findIn K (.ref c_Place) "names" = some (some (.ref p_Place_names)))
    (ge_Place_names : PySem.W.specialIn K (.ref p_Place_names) "__get__" = some (some (.builtin "property.__get__")))
    (tk_Place_names : PySem.W.takesIn K (.ref p_Place_names) = some true)
    (rc_Place_names : PySem.W.recIn K p_Place_names "property" = some (.ref f_Place_names :: rr3))
    (fn_Place_names : PySem.W.isFn K (.ref f_Place_names) = true)
    (l_Place_names : K.lookup f_Place_names = some ⟨oc_Place_names, od_Place_names, .func (PySem.W.fnOf "names" "Place.names" (defArgs s_Place_names) (defBody s_Place_names) (defScope s_Place_names) .none kV_Place_names dc_Place_names pm_Place_names an_Place_names cd_Place_names ct_Place_names), sl_Place_names⟩)
    (cc_Place_names : PySem.W.codeIn K cd_Place_names "Place.names" = true)
    (kk_Place_names : PySem.W.keepIn K (.ref f_Place_names) = true)
    (kp_Place_names : PySem.W.keepIn K (.ref f_Place_names) = true)
    (at_Place_text : PySem.W.findIn K (.ref c_Place) "text" = some (some (.ref p_Place_text)))
    (ge_Place_text : PySem.W.specialIn K (.ref p_Place_text) "__get__" = some (some (.builtin "property.__get__")))
    (tk_Place_text : PySem.W.takesIn K (.ref p_Place_text) = some true)
    (rc_Place_text : PySem.W.recIn K p_Place_text "property" = some (.ref f_Place_text :: rr4))
    (fn_Place_text : PySem.W.isFn K (.ref f_Place_text) = true)
    (l_Place_text : K.lookup f_Place_text = some ⟨oc_Place_text, od_Place_text, .func (PySem.W.fnOf "text" "Place.text" (defArgs s_Place_text) (defBody s_Place_text) (defScope s_Place_text) .none kV_Place_text dc_Place_text pm_Place_text an_Place_text cd_Place_text ct_Place_text), sl_Place_text⟩)
    (cc_Place_text : PySem.W.codeIn K cd_Place_text "Place.text" = true)
    (kk_Place_text : PySem.W.keepIn K (.ref f_Place_text) = true)
    (kp_Place_text : PySem.W.keepIn K (.ref f_Place_text) = true)
    (at_Place_up : PySem.W.findIn K (.ref c_Place) "up" = some (some (.ref p_Place_up)))
    (ge_Place_up : PySem.W.specialIn K (.ref p_Place_up) "__get__" = some (some (.builtin "property.__get__")))
    (tk_Place_up : PySem.W.takesIn K (.ref p_Place_up) = some true)
    (rc_Place_up : PySem.W.recIn K p_Place_up "property" = some (.ref f_Place_up :: rr5))
    (fn_Place_up : PySem.W.isFn K (.ref f_Place_up) = true)
    (l_Place_up : K.lookup f_Place_up = some ⟨oc_Place_up, od_Place_up, .func (PySem.W.fnOf "up" "Place.up" (defArgs s_Place_up) (defBody s_Place_up) (defScope s_Place_up) .none kV_Place_up dc_Place_up pm_Place_up an_Place_up cd_Place_up ct_Place_up), sl_Place_up⟩)
    (cc_Place_up : PySem.W.codeIn K cd_Place_up "Place.up" = true)
    (kk_Place_up : PySem.W.keepIn K (.ref f_Place_up) = true)
    (kp_Place_up : PySem.W.keepIn K (.ref f_Place_up) = true)
    (at_Place_head : PySem.W.findIn K (.ref c_Place) "head" = some (some (.ref f_Place_head)))
    (fn_Place_head : PySem.W.isFn K (.ref f_Place_head) = true)
    (l_Place_head : K.lookup f_Place_head = some ⟨oc_Place_head, od_Place_head, .func (PySem.W.fnOf "head" "Place.head" (defArgs s_Place_head) (defBody s_Place_head) (defScope s_Place_head) .none kV_Place_head dc_Place_head pm_Place_head an_Place_head cd_Place_head ct_Place_head), sl_Place_head⟩)
    (cc_Place_head : PySem.W.codeIn K cd_Place_head "Place.head" = true)
    (kk_Place_head : PySem.W.keepIn K (.ref f_Place_head) = true)
    (kp_Place_head : PySem.W.keepIn K (.ref f_Place_head) = true)
    (at_Place_is_ahead : PySem.W.findIn K (.ref c_Place) "is_ahead" = some (some (.ref f_Place_is_ahead)))
    (fn_Place_is_ahead : PySem.W.isFn K (.ref f_Place_is_ahead) = true)
    (l_Place_is_ahead : K.lookup f_Place_is_ahead = some ⟨oc_Place_is_ahead, od_Place_is_ahead, .func (PySem.W.fnOf "is_ahead" "Place.is_ahead" (defArgs s_Place_is_ahead) (defBody s_Place_is_ahead) (defScope s_Place_is_ahead) .none kV_Place_is_ahead dc_Place_is_ahead pm_Place_is_ahead an_Place_is_ahead cd_Place_is_ahead ct_Place_is_ahead), sl_Place_is_ahead⟩)
    (cc_Place_is_ahead : PySem.W.codeIn K cd_Place_is_ahead "Place.is_ahead" = true)
    (kk_Place_is_ahead : PySem.W.keepIn K (.ref f_Place_is_ahead) = true)
    (kp_Place_is_ahead : PySem.W.keepIn K (.ref f_Place_is_ahead) = true)
    (at_Place_add : PySem.W.findIn K (.ref c_Place) "__add__" = some (some (.ref f_Place_add)))
    (fn_Place_add : PySem.W.isFn K (.ref f_Place_add) = true)
    (l_Place_add : K.lookup f_Place_add = some ⟨oc_Place_add, od_Place_add, .func (PySem.W.fnOf "__add__" "Place.__add__" (defArgs s_Place_add) (defBody s_Place_add) (defScope s_Place_add) .none kV_Place_add dc_Place_add pm_Place_add an_Place_add cd_Place_add ct_Place_add), sl_Place_add⟩)
    (cc_Place_add : PySem.W.codeIn K cd_Place_add "Place.__add__" = true)
    (kk_Place_add : PySem.W.keepIn K (.ref f_Place_add) = true)
    (kp_Place_add : PySem.W.keepIn K (.ref f_Place_add) = true)
    (at_Place_contains : PySem.W.findIn K (.ref c_Place) "__contains__" = some (some (.ref f_Place_contains)))
    (fn_Place_contains : PySem.W.isFn K (.ref f_Place_contains) = true)
    (l_Place_contains : K.lookup f_Place_contains = some ⟨oc_Place_contains, od_Place_contains, .func (PySem.W.fnOf "__contains__" "Place.__contains__" (defArgs s_Place_contains) (defBody s_Place_contains) (defScope s_Place_contains) .none kV_Place_contains dc_Place_contains pm_Place_contains an_Place_contains cd_Place_contains ct_Place_contains), sl_Place_contains⟩)
    (cc_Place_contains : PySem.W.codeIn K cd_Place_contains "Place.__contains__" = true)
    (kk_Place_contains : PySem.W.keepIn K (.ref f_Place_contains) = true)
    (kp_Place_contains : PySem.W.keepIn K (.ref f_Place_contains) = true)
    (at_Place_and : PySem.W.findIn K (.ref c_Place) "__and__" = some (some (.ref f_Place_and)))
    (fn_Place_and : PySem.W.isFn K (.ref f_Place_and) = true)
    (l_Place_and : K.lookup f_Place_and = some ⟨oc_Place_and, od_Place_and, .func (PySem.W.fnOf "__and__" "Place.__and__" (defArgs s_Place_and) (defBody s_Place_and) (defScope s_Place_and) .none kV_Place_and dc_Place_and pm_Place_and an_Place_and cd_Place_and ct_Place_and), sl_Place_and⟩)
    (cc_Place_and : PySem.W.codeIn K cd_Place_and "Place.__and__" = true)
    (kk_Place_and : PySem.W.keepIn K (.ref f_Place_and) = true)
    (kp_Place_and : PySem.W.keepIn K (.ref f_Place_and) = true)
    (at_Place_len : PySem.W.findIn K (.ref c_Place) "__len__" = some (some (.ref f_Place_len)))
    (fn_Place_len : PySem.W.isFn K (.ref f_Place_len) = true)
    (l_Place_len : K.lookup f_Place_len = some ⟨oc_Place_len, od_Place_len, .func (PySem.W.fnOf "__len__" "Place.__len__" (defArgs s_Place_len) (defBody s_Place_len) (defScope s_Place_len) .none kV_Place_len dc_Place_len pm_Place_len an_Place_len cd_Place_len ct_Place_len), sl_Place_len⟩)
    (cc_Place_len : PySem.W.codeIn K cd_Place_len "Place.__len__" = true)
    (kk_Place_len : PySem.W.keepIn K (.ref f_Place_len) = true)
    (kp_Place_len : PySem.W.keepIn K (.ref f_Place_len) = true)
    (at_Place_bool : PySem.W.findIn K (.ref c_Place) "__bool__" = some (some (.ref f_Place_bool)))
    (fn_Place_bool : PySem.W.isFn K (.ref f_Place_bool) = true)
    (l_Place_bool : K.lookup f_Place_bool = some ⟨oc_Place_bool, od_Place_bool, .func (PySem.W.fnOf "__bool__" "Place.__bool__" (defArgs s_Place_bool) (defBody s_Place_bool) (defScope s_Place_bool) .none kV_Place_bool dc_Place_bool pm_Place_bool an_Place_bool cd_Place_bool ct_Place_bool), sl_Place_bool⟩)
    (cc_Place_bool : PySem.W.codeIn K cd_Place_bool "Place.__bool__" = true)
    (kk_Place_bool : PySem.W.keepIn K (.ref f_Place_bool) = true)
    (kp_Place_bool : PySem.W.keepIn K (.ref f_Place_bool) = true)
    (at_Place_eq : PySem.W.findIn K (.ref c_Place) "__eq__" = some (some (.ref f_Place_eq)))
    (fn_Place_eq : PySem.W.isFn K (.ref f_Place_eq) = true)
    (l_Place_eq : K.lookup f_Place_eq = some ⟨oc_Place_eq, od_Place_eq, .func (PySem.W.fnOf "__eq__" "Place.__eq__" (defArgs s_Place_eq) (defBody s_Place_eq) (defScope s_Place_eq) .none kV_Place_eq dc_Place_eq pm_Place_eq an_Place_eq cd_Place_eq ct_Place_eq), sl_Place_eq⟩)
    (cc_Place_eq : PySem.W.codeIn K cd_Place_eq "Place.__eq__" = true)
    (kk_Place_eq : PySem.W.keepIn K (.ref f_Place_eq) = true)
    (kp_Place_eq : PySem.W.keepIn K (.ref f_Place_eq) = true)
    (mg_law_pen : PySem.W.nsIn K mainGlobals "_law_pen" = some (some (.ref f_law_pen)))
    (fn_law_pen : PySem.W.isFn K (.ref f_law_pen) = true)
    (l_law_pen : K.lookup f_law_pen = some ⟨oc_law_pen, od_law_pen, .func (PySem.W.fnOf "_law_pen" "_law_pen" (defArgs s_law_pen) (defBody s_law_pen) (defScope s_law_pen) .none kV_law_pen dc_law_pen pm_law_pen an_law_pen cd_law_pen ct_law_pen), sl_law_pen⟩)
    (cc_law_pen : PySem.W.codeIn K cd_law_pen "_law_pen" = true)
    (kk_law_pen : PySem.W.keepIn K (.ref f_law_pen) = true)
    (kp_law_pen : PySem.W.keepIn K (.ref f_law_pen) = true)
    (mg_law_draw : PySem.W.nsIn K mainGlobals "_law_draw" = some (some (.ref f_law_draw)))
    (fn_law_draw : PySem.W.isFn K (.ref f_law_draw) = true)
    (l_law_draw : K.lookup f_law_draw = some ⟨oc_law_draw, od_law_draw, .func (PySem.W.fnOf "_law_draw" "_law_draw" (defArgs s_law_draw) (defBody s_law_draw) (defScope s_law_draw) .none kV_law_draw dc_law_draw pm_law_draw an_law_draw cd_law_draw ct_law_draw), sl_law_draw⟩)
    (cc_law_draw : PySem.W.codeIn K cd_law_draw "_law_draw" = true)
    (kk_law_draw : PySem.W.keepIn K (.ref f_law_draw) = true)
    (kp_law_draw : PySem.W.keepIn K (.ref f_law_draw) = true)
    (mg_law_pick : PySem.W.nsIn K mainGlobals "_law_pick" = some (some (.ref f_law_pick)))
    (fn_law_pick : PySem.W.isFn K (.ref f_law_pick) = true)
    (l_law_pick : K.lookup f_law_pick = some ⟨oc_law_pick, od_law_pick, .func (PySem.W.fnOf "_law_pick" "_law_pick" (defArgs s_law_pick) (defBody s_law_pick) (defScope s_law_pick) .none kV_law_pick dc_law_pick pm_law_pick an_law_pick cd_law_pick ct_law_pick), sl_law_pick⟩)
    (cc_law_pick : PySem.W.codeIn K cd_law_pick "_law_pick" = true)
    (kk_law_pick : PySem.W.keepIn K (.ref f_law_pick) = true)
    (kp_law_pick : PySem.W.keepIn K (.ref f_law_pick) = true)
    (mg_law_place : PySem.W.nsIn K mainGlobals "_law_place" = some (some (.ref f_law_place)))
    (fn_law_place : PySem.W.isFn K (.ref f_law_place) = true)
    (l_law_place : K.lookup f_law_place = some ⟨oc_law_place, od_law_place, .func (PySem.W.fnOf "_law_place" "_law_place" (defArgs s_law_place) (defBody s_law_place) (defScope s_law_place) .none kV_law_place dc_law_place pm_law_place an_law_place cd_law_place ct_law_place), sl_law_place⟩)
    (cc_law_place : PySem.W.codeIn K cd_law_place "_law_place" = true)
    (kk_law_place : PySem.W.keepIn K (.ref f_law_place) = true)
    (kp_law_place : PySem.W.keepIn K (.ref f_law_place) = true)
    (mg_law_way : PySem.W.nsIn K mainGlobals "_law_way" = some (some (.ref f_law_way)))
    (fn_law_way : PySem.W.isFn K (.ref f_law_way) = true)
    (l_law_way : K.lookup f_law_way = some ⟨oc_law_way, od_law_way, .func (PySem.W.fnOf "_law_way" "_law_way" (defArgs s_law_way) (defBody s_law_way) (defScope s_law_way) .none kV_law_way dc_law_way pm_law_way an_law_way cd_law_way ct_law_way), sl_law_way⟩)
    (cc_law_way : PySem.W.codeIn K cd_law_way "_law_way" = true)
    (kk_law_way : PySem.W.keepIn K (.ref f_law_way) = true)
    (kp_law_way : PySem.W.keepIn K (.ref f_law_way) = true)
    (mg_law_way_right : PySem.W.nsIn K mainGlobals "_law_way_right" = some (some (.ref f_law_way_right)))
    (fn_law_way_right : PySem.W.isFn K (.ref f_law_way_right) = true)
    (l_law_way_right : K.lookup f_law_way_right = some ⟨oc_law_way_right, od_law_way_right, .func (PySem.W.fnOf "_law_way_right" "_law_way_right" (defArgs s_law_way_right) (defBody s_law_way_right) (defScope s_law_way_right) .none kV_law_way_right dc_law_way_right pm_law_way_right an_law_way_right cd_law_way_right ct_law_way_right), sl_law_way_right⟩)
    (cc_law_way_right : PySem.W.codeIn K cd_law_way_right "_law_way_right" = true)
    (kk_law_way_right : PySem.W.keepIn K (.ref f_law_way_right) = true)
    (kp_law_way_right : PySem.W.keepIn K (.ref f_law_way_right) = true)
    (mg_law_met_right : PySem.W.nsIn K mainGlobals "_law_met_right" = some (some (.ref f_law_met_right)))
    (fn_law_met_right : PySem.W.isFn K (.ref f_law_met_right) = true)
    (l_law_met_right : K.lookup f_law_met_right = some ⟨oc_law_met_right, od_law_met_right, .func (PySem.W.fnOf "_law_met_right" "_law_met_right" (defArgs s_law_met_right) (defBody s_law_met_right) (defScope s_law_met_right) .none kV_law_met_right dc_law_met_right pm_law_met_right an_law_met_right cd_law_met_right ct_law_met_right), sl_law_met_right⟩)
    (cc_law_met_right : PySem.W.codeIn K cd_law_met_right "_law_met_right" = true)
    (kk_law_met_right : PySem.W.keepIn K (.ref f_law_met_right) = true)
    (kp_law_met_right : PySem.W.keepIn K (.ref f_law_met_right) = true)
    (mg_law : PySem.W.nsIn K mainGlobals "law" = some (some (.ref f_law)))
    (fn_law : PySem.W.isFn K (.ref f_law) = true)
    (l_law : K.lookup f_law = some ⟨oc_law, od_law, .func (PySem.W.fnOf "law" "law" (defArgs s_law) (defBody s_law) (defScope s_law) .none kV_law dc_law pm_law an_law cd_law ct_law), sl_law⟩)
    (cc_law : PySem.W.codeIn K cd_law "law" = true)
    (kk_law : PySem.W.keepIn K (.ref f_law) = true)
    (kp_law : PySem.W.keepIn K (.ref f_law) = true)
    (k_SIGNS : PySem.W.nsIn K mainGlobals "SIGNS" = some (some (.str "abcdefghijklmnopqrstuvwxyz0123456789" tt6)))
    (k_LONGEST_NAME : PySem.W.nsIn K mainGlobals "LONGEST_NAME" = some (some (.int 8 tt7)))
    (k_MOST_NAMES : PySem.W.nsIn K mainGlobals "MOST_NAMES" = some (some (.int 8 tt8)))
    (z_abs : PySem.W.nsIn K mainGlobals "abs" = some none)
    (z_all : PySem.W.nsIn K mainGlobals "all" = some none)
    (z_bool : PySem.W.nsIn K mainGlobals "bool" = some none)
    (z_enumerate : PySem.W.nsIn K mainGlobals "enumerate" = some none)
    (z_int : PySem.W.nsIn K mainGlobals "int" = some none)
    (z_isinstance : PySem.W.nsIn K mainGlobals "isinstance" = some none)
    (z_len : PySem.W.nsIn K mainGlobals "len" = some none)
    (z_list : PySem.W.nsIn K mainGlobals "list" = some none)
    (z_min : PySem.W.nsIn K mainGlobals "min" = some none)
    (z_range : PySem.W.nsIn K mainGlobals "range" = some none)
    (z_str : PySem.W.nsIn K mainGlobals "str" = some none)
    (z_tuple : PySem.W.nsIn K mainGlobals "tuple" = some none)
    (ta : PySem.W.findIn K (.type "str") "__add__" = some (some (.builtin "str.__add__")))
    (tra : PySem.W.findIn K (.type "str") "__radd__" = some none)
    : Tx K mg (⟨c_Place, f_is_name, f_is_integer, f_is_between, f_is_text, f_names_in, f_text_of, f_Place_init, f_Place_read, p_Place_read, f_Place_names, p_Place_names, f_Place_text, p_Place_text, f_Place_up, p_Place_up, f_Place_head, f_Place_is_ahead, f_Place_add, f_Place_contains, f_Place_and, f_Place_len, f_Place_bool, f_Place_eq, f_law_pen, f_law_draw, f_law_pick, f_law_place, f_law_way, f_law_way_right, f_law_met_right, f_law⟩ : Ad) := ⟨PySem.W.mg_of X G mg_Place, pg_Place, hd_Place, po_Place, sa_Place, mk_Place, kc_Place, sf_Place, ca_Place, cn_Place, ct_Place, cm_Place, ob_Place, ne_Place, rd_Place, ga_Place, np_Place, ic_Place, ty_Place, ⟨_, most_Place⟩, ra_Place, su_Place, PySem.W.mg_of X G mg_is_name, fn_is_name, ⟨_, fun_mk (st := s_is_name) l_is_name cc_is_name kk_is_name⟩, kp_is_name, PySem.W.mg_of X G mg_is_integer, fn_is_integer, ⟨_, fun_mk (st := s_is_integer) l_is_integer cc_is_integer kk_is_integer⟩, kp_is_integer, PySem.W.mg_of X G mg_is_between, fn_is_between, ⟨_, fun_mk (st := s_is_between) l_is_between cc_is_between kk_is_between⟩, kp_is_between, PySem.W.mg_of X G mg_is_text, fn_is_text, ⟨_, fun_mk (st := s_is_text) l_is_text cc_is_text kk_is_text⟩, kp_is_text, PySem.W.mg_of X G mg_names_in, fn_names_in, ⟨_, fun_mk (st := s_names_in) l_names_in cc_names_in kk_names_in⟩, kp_names_in, PySem.W.mg_of X G mg_text_of, fn_text_of, ⟨_, fun_mk (st := s_text_of) l_text_of cc_text_of kk_text_of⟩, kp_text_of, at_Place_init, fn_Place_init, ⟨_, fun_mk (st := s_Place_init) l_Place_init cc_Place_init kk_Place_init⟩, kp_Place_init, at_Place_read, ⟨_, rc_Place_read⟩, fi_Place_read, fn_Place_read, ⟨_, fun_mk (st := s_Place_read) l_Place_read cc_Place_read kk_Place_read⟩, kp_Place_read, at_Place_names, ge_Place_names, tk_Place_names, ⟨_, rc_Place_names⟩, fn_Place_names, ⟨_, fun_mk (st := s_Place_names) l_Place_names cc_Place_names kk_Place_names⟩, kp_Place_names, at_Place_text, ge_Place_text, tk_Place_text, ⟨_, rc_Place_text⟩, fn_Place_text, ⟨_, fun_mk (st := s_Place_text) l_Place_text cc_Place_text kk_Place_text⟩, kp_Place_text, at_Place_up, ge_Place_up, tk_Place_up, ⟨_, rc_Place_up⟩, fn_Place_up, ⟨_, fun_mk (st := s_Place_up) l_Place_up cc_Place_up kk_Place_up⟩, kp_Place_up, at_Place_head, fn_Place_head, ⟨_, fun_mk (st := s_Place_head) l_Place_head cc_Place_head kk_Place_head⟩, kp_Place_head, at_Place_is_ahead, fn_Place_is_ahead, ⟨_, fun_mk (st := s_Place_is_ahead) l_Place_is_ahead cc_Place_is_ahead kk_Place_is_ahead⟩, kp_Place_is_ahead, at_Place_add, fn_Place_add, ⟨_, fun_mk (st := s_Place_add) l_Place_add cc_Place_add kk_Place_add⟩, kp_Place_add, at_Place_contains, fn_Place_contains, ⟨_, fun_mk (st := s_Place_contains) l_Place_contains cc_Place_contains kk_Place_contains⟩, kp_Place_contains, at_Place_and, fn_Place_and, ⟨_, fun_mk (st := s_Place_and) l_Place_and cc_Place_and kk_Place_and⟩, kp_Place_and, at_Place_len, fn_Place_len, ⟨_, fun_mk (st := s_Place_len) l_Place_len cc_Place_len kk_Place_len⟩, kp_Place_len, at_Place_bool, fn_Place_bool, ⟨_, fun_mk (st := s_Place_bool) l_Place_bool cc_Place_bool kk_Place_bool⟩, kp_Place_bool, at_Place_eq, fn_Place_eq, ⟨_, fun_mk (st := s_Place_eq) l_Place_eq cc_Place_eq kk_Place_eq⟩, kp_Place_eq, PySem.W.mg_of X G mg_law_pen, fn_law_pen, ⟨_, fun_mk (st := s_law_pen) l_law_pen cc_law_pen kk_law_pen⟩, kp_law_pen, PySem.W.mg_of X G mg_law_draw, fn_law_draw, ⟨_, fun_mk (st := s_law_draw) l_law_draw cc_law_draw kk_law_draw⟩, kp_law_draw, PySem.W.mg_of X G mg_law_pick, fn_law_pick, ⟨_, fun_mk (st := s_law_pick) l_law_pick cc_law_pick kk_law_pick⟩, kp_law_pick, PySem.W.mg_of X G mg_law_place, fn_law_place, ⟨_, fun_mk (st := s_law_place) l_law_place cc_law_place kk_law_place⟩, kp_law_place, PySem.W.mg_of X G mg_law_way, fn_law_way, ⟨_, fun_mk (st := s_law_way) l_law_way cc_law_way kk_law_way⟩, kp_law_way, PySem.W.mg_of X G mg_law_way_right, fn_law_way_right, ⟨_, fun_mk (st := s_law_way_right) l_law_way_right cc_law_way_right kk_law_way_right⟩, kp_law_way_right, PySem.W.mg_of X G mg_law_met_right, fn_law_met_right, ⟨_, fun_mk (st := s_law_met_right) l_law_met_right cc_law_met_right kk_law_met_right⟩, kp_law_met_right, PySem.W.mg_of X G mg_law, fn_law, ⟨_, fun_mk (st := s_law) l_law cc_law kk_law⟩, kp_law, ⟨_, PySem.W.mg_of X G k_SIGNS⟩, ⟨_, PySem.W.mg_of X G k_LONGEST_NAME⟩, ⟨_, PySem.W.mg_of X G k_MOST_NAMES⟩, PySem.W.mg_none_of X G z_abs, PySem.W.mg_none_of X G z_all, PySem.W.mg_none_of X G z_bool, PySem.W.mg_none_of X G z_enumerate, PySem.W.mg_none_of X G z_int, PySem.W.mg_none_of X G z_isinstance, PySem.W.mg_none_of X G z_len, PySem.W.mg_none_of X G z_list, PySem.W.mg_none_of X G z_min, PySem.W.mg_none_of X G z_range, PySem.W.mg_none_of X G z_str, PySem.W.mg_none_of X G z_tuple, ta, tra⟩
end NK

namespace NK
open PySem PySem.Spec PyProof.Rows L2 NA TL
section
variable {P : Program} {w : World} {K : PySem.W.Frag} {mg : Str → Option Value} {base : Heap} {A : Ad}
def sp_is_name (K : PySem.W.Frag) : Sp := fun vs H Q _ => (∃ z : Str, vs = [.str z] ∧ z.length ≤ sizeLine ∧ ∀ H', Same H H' → Q (.bl (isNm z)) H') ∨
  ∃ x t, vs = [x] ∧ TyX K H x t ∧ PySem.W.kitOne K t (.type "str") = some false ∧ Q (.bl false) H
theorem ok_is_name (T : Tx K mg A) : FnR P w K mg base CX0 1 A.f_is_name (sp_is_name K) := by
  obtain ⟨t1, k1⟩ := T.k_LONGEST_NAME
  obtain ⟨t2, k2⟩ := T.k_SIGNS
  refine fnr T.F_is_name sc_is_name (fun _ _ _ _ _ _ us hl => match us, hl with | [_], _ => rfl) (fun vs H Q E h => ?_) (fun cdv A' outer s H vs Q E hr h => ?_)
  · rcases h with ⟨z, rfl, _⟩ | ⟨x, t, rfl, _⟩ <;> rfl
  · refine ⟨_, pss_cons (ps_if (PW.pt (pw_or (pt_not (pt_val (pe_callB call_isi (by rfl) T.z_isinstance (by decide +kernel) (pa_cons (pv 0) (pa_cons (pe_bltn (v := .ty "str") (by rfl) T.z_str (by decide +kernel) rfl) pa_nil)))))
        (pw_or1 (pt_not (pt_chain op_le op_le pe_int (pe_callB call_len_str (by rfl) T.z_len PySem.boot_len (pa_cons (pv 0) pa_nil)) (pe_glob (v := .int 8) (by rfl) k1 ⟨_, rfl⟩))))))
        (pss_one (ps_ret pe_bl)) pss_nil)
      (pss_one (ps_ret (pe_callB (cr_all rfl) (by rfl) T.z_all (by decide +kernel) (pa_cons
        (pe_lc (own := [("sign", 1)]) (g := gName 1) (tt := tYes) rfl sc_is_name.nd (pi_str (pv 0)) (blkOk_by (N := ["value", "sign"]) (sc := defScope s_is_name) (by decide +kernel)) (fun _ _ _ _ _ => pg_name (i := 1) sc_is_name.nd rfl (Or.inl rfl)) (fun _ _ _ _ _ => pts_nil)
          (fun _ _ _ _ _ => pe_cmpR op_in_sign (pv 1) (pe_glob (v := .str sgn) (by rfl) k2 ⟨_, rfl⟩) rfl)) pa_nil)))), ?_⟩
    rcases h with ⟨z, rfl, hz, k⟩ | ⟨x, t, rfl, ty, kt, k⟩
    · refine ⟨_, rfl, .str z, .ty "str", .type "str", .type "str", true, rfl, .ty "str", .base (.str z), kit_self, true, rfl, iteF ?_⟩
      refine ⟨_, rfl, z, rfl, hz, 1, _, rfl, rfl, _, rfl, ?_⟩
      by_cases h1 : 1 ≤ z.length
      · rw [if_pos (decide_eq_true (by omega))]
        refine ⟨_, _, rfl, rfl, _, rfl, ?_⟩
        by_cases h8 : z.length ≤ 8
        · have e8 : decide ((z.length : Int) ≤ 8) = true := decide_eq_true (by omega)
          rw [e8]
          refine iteF ⟨_, rfl, z, rfl, fun D hD => ?_⟩
          refine lc_all walk_str (fun i v H' => v = .bl (decide ((z.cps.toList.getD i 0) ∈ sgn.cps.toList))) hD (fun _ _ _ _ _ _ _ h => h) (fun _ _ => trivial) (by show z.length < sizeLine; exact Nat.lt_of_le_of_lt h8 (by decide)) ?_ g_name_mono ?_
          · rintro i x H1 H2 hi s1 ⟨rfl, c, hc, rfl⟩
            refine ⟨Same.refl _, rfl, Same.refl _, fun Q' hQ => ⟨_, rfl, c, sgn, rfl, rfl, hQ _ _ (Same.refl _) ?_⟩⟩
            have e : z.cps.toList.getD i 0 = c := by
              rw [List.getD_eq_getElem?_getD, Array.getElem?_toList, hc] <;> rfl
            rw [e]
          · intro H1 ys s1 e1 hl hy
            have ey := list_fn hl hy
            have eb : ys = (z.cps.toList.map fun c => decide (c ∈ sgn.cps.toList)).map V.bl := by
              rw [ey, ← range_map z.cps.toList 0 (fun c => decide (c ∈ sgn.cps.toList)), List.map_map, Array.length_toList]; rfl
            rw [eb] at e1
            refine ⟨D, _, rfl, SqL.of e1, ?_⟩
            have e : isNm z = ((z.cps.toList.map fun c => decide (c ∈ sgn.cps.toList)).all id) := by
              unfold isNm
              rw [decide_eq_true h1, decide_eq_true h8, Bool.true_and, Bool.true_and, List.all_map]
              rfl
            rw [← e]
            exact k _ s1
        · have e8 : decide ((z.length : Int) ≤ 8) = false := decide_eq_false (by omega)
          have e : isNm z = false := by
            unfold isNm
            rw [decide_eq_false h8, Bool.and_false, Bool.false_and]
          rw [e8]
          rw [e] at k
          exact iteT (k H (Same.refl H))
      · have e1 : decide ((1 : Int) ≤ (z.length : Int)) = false := decide_eq_false (by omega)
        have e : isNm z = false := by
          unfold isNm
          rw [decide_eq_false h1, Bool.false_and, Bool.false_and]
        rw [e] at k
        rw [e1]
        exact iteF ⟨_, rfl, iteT (k H (Same.refl H))⟩
    · refine ⟨_, rfl, x, .ty "str", t, .type "str", false, rfl, .ty "str", ty, kt, false, rfl, ?_⟩
      exact iteT (iteT k)

def sp_is_integer (K : PySem.W.Frag) : Sp := fun vs H Q _ => ∃ x t b1 b2, vs = [x] ∧ TyX K H x t ∧ PySem.W.kitOne K t (.type "int") = some b1 ∧ PySem.W.kitOne K t (.type "bool") = some b2 ∧ Q (.bl (b1 && !b2)) H
theorem ok_is_integer (T : Tx K mg A) : FnR P w K mg base CX0 1 A.f_is_integer (sp_is_integer K) := by
  refine fnr T.F_is_integer sc_is_integer (fun _ _ _ _ _ _ us hl => match us, hl with | [_], _ => rfl) (fun vs H Q E h => ?_) (fun cdv A' outer s H vs Q E hr h => ?_)
  · obtain ⟨x, t, b1, b2, rfl, _⟩ := h; rfl
  · obtain ⟨x, t, b1, b2, rfl, ty, k1, k2, k⟩ := h
    refine ⟨_, pss_one (ps_ret (pe_and (pe_callB call_isi (by rfl) T.z_isinstance (by decide +kernel) (pa_cons (pv 0) (pa_cons (pe_bltn (v := .ty "int") (by rfl) T.z_int (by decide +kernel) rfl) pa_nil)))
      (pe_one (pe_not (pe_callB call_isi (by rfl) T.z_isinstance (by decide +kernel) (pa_cons (pv 0) (pa_cons (pe_bltn (v := .ty "bool") (by rfl) T.z_bool (by decide +kernel) rfl) pa_nil))))))), ?_⟩
    refine ⟨_, rfl, x, .ty "int", t, .type "int", b1, rfl, .ty "int", ty, k1, b1, rfl, ?_⟩
    cases b1 with
    | true => exact iteT ⟨_, rfl, x, .ty "bool", t, .type "bool", b2, rfl, .ty "bool", ty, k2, b2, rfl, k⟩
    | false => exact iteF k
def sp_is_between (K : PySem.W.Frag) : Sp := fun vs H Q _ => (∃ v lo hi : Int, vs = [.int v, .int lo, .int hi] ∧ Q (.bl (decide (lo ≤ v) && decide (v ≤ hi))) H) ∨
  ∃ (x : V) (lo hi : Int) (t : Value) (b1 b2 : Bool), vs = [x, .int lo, .int hi] ∧ TyX K H x t ∧ PySem.W.kitOne K t (.type "int") = some b1 ∧ PySem.W.kitOne K t (.type "bool") = some b2 ∧ (b1 && !b2) = false ∧ Q (.bl false) H
theorem kit_int_bool {K : PySem.W.Frag} : PySem.W.kitOne K (.type "int") (.type "bool") = some false := kit_ty (by decide +kernel)
theorem ok_is_between (T : Tx K mg A) : FnR P w K mg base CX0 2 A.f_is_between (sp_is_between K) := by
  refine fnr T.F_is_between sc_is_between (fun _ _ _ _ _ _ us hl => match us, hl with | [_, _, _], _ => rfl) (fun vs H Q E h => ?_) (fun cdv A' outer s H vs Q E hr h => ?_)
  · rcases h with ⟨v, lo, hi, rfl, _⟩ | ⟨x, lo, hi, t, b1, b2, rfl, _⟩ <;> rfl
  · refine ⟨_, pss_one (ps_ret (pe_and (pe_cl (ok_is_integer T) hr (by rfl) T.mg_is_integer T.kp_is_integer pass0 (pa_cons (pv 0) pa_nil)) (pe_one (pe_chain op_le op_le (pv 1) (pv 0) (pv 2))))), ?_⟩
    rcases h with ⟨v, lo, hi, rfl, k⟩ | ⟨x, lo, hi, t, b1, b2, rfl, ty, k1, k2, kb, k⟩
    · refine ⟨_, rfl, _, _, true, false, rfl, .base (.int v), kit_self, kit_int_bool, _, rfl, iteT ?_⟩
      refine ⟨_, rfl, _, rfl, lo, v, rfl, rfl, _, rfl, ?_⟩
      cases h1 : decide (lo ≤ v) with
      | true =>
        rw [h1] at k
        exact iteT ⟨_, rfl, v, hi, rfl, rfl, k⟩
      | false =>
        rw [h1] at k
        exact iteF k
    · refine ⟨_, rfl, x, t, b1, b2, rfl, ty, k1, k2, _, rfl, ?_⟩
      rw [kb]
      exact iteF k
def sp_names_in : Sp := fun vs H Q _ => ∃ z : Str, vs = [.str z] ∧ z.length ≤ 100000 ∧ ∀ p H', H p = none → Same H H' → H' p = some (.tup ((namesIn z).map V.str)) → Q (.ref p) H'
theorem ok_names_in (T : Tx K mg A) : FnR P w K mg base CX0 1 A.f_names_in sp_names_in := by
  refine fnr T.F_names_in sc_names_in (fun _ _ _ _ _ _ us hl => match us, hl with | [_], _ => rfl) (fun vs H Q E h => ?_) (fun cdv A' outer s H vs Q E hr h => ?_)
  · obtain ⟨z, rfl, _⟩ := h; rfl
  · obtain ⟨z, rfl, hz, k⟩ := h
    refine ⟨_, pss_cons (ps_set (i := 1) sc_names_in.nd rfl (.inl rfl) (pe_lst pa_nil))
      (pss_cons (ps_par (i := 2) (j := 3) (by rfl) sc_names_in.nd rfl rfl (by decide) rfl rfl (pa_cons (pe_slice sl_str (pv 0) (po_some pe_int) po_none) (pa_cons (pe_ifExp (pt_cmpR op_ne (pv 0) pe_str (nomark _)) pe_str pe_str) pa_nil)) (by rfl))
      (pss_cons (ps_while PassesOwn.never (pt_cmpR op_eq (pv 3) pe_str (nomark _))
        (pss_cons (ps_asg (pe_partition (pv 2) pe_str) (pg_tup (by rfl) (pgs_cons (pg_name (i := 4) sc_names_in.nd rfl (.inl rfl)) (pgs_cons (pg_name (i := 3) sc_names_in.nd rfl (.inl rfl)) (pgs_cons (pg_name (i := 2) sc_names_in.nd rfl (.inl rfl)) pgs_nil)))))
        (pss_one (ps_expr (pe_bm PySem.F.plainAttrs_list PySem.F.slot_list_append PySem.F.type_list_append mt_append (pv 1) (pa_cons (pv 4) pa_nil))))))
      (pss_one (ps_ret (pe_callTy call_tuple_of (by rfl) T.z_tuple (by decide +kernel) (pa_cons (pv 1) pa_nil)))))), ?_⟩
    refine ⟨Nat.zero_le _, fun l hl => ?_⟩
    refine ⟨_, rfl, _, rfl, z, rfl, Nat.le_trans hz (by decide), _, rfl, rfl, _, rfl, ?_⟩
    have e1 : cutS z (some 1) none = Sx ((tl z).drop 1) := cut_from z 1
    refine ite_c ⟨_, _, rfl, ?_⟩
    have hd : ((tl z).drop 1).length ≤ 100000 := by
      have : z.length = (tl z).length := len_tl z
      rw [List.length_drop]; omega
    rw [e1]
    refine ⟨fun m σ H' => ∃ (acc : List Str) (r : List Nat) (s1 : Str) (nm : Option V), σ = [some (.str z), some (.ref l), some (.str (Sx r)), some (.str s1), nm] ∧ Same H H' ∧ H' l = some (.lst (acc.map V.str)) ∧ acc.length + r.length ≤ 100001 ∧ acc.length + m ≤ 100001 ∧
        ((s1 = "/" ∧ m = r.length + 1 ∧ acc ++ (spt r).map Sx = namesIn z) ∨ (s1 = "" ∧ m = 0 ∧ acc = namesIn z)), ?_, ?_⟩
    · by_cases hz1 : z = "/"
      · have e : decide (V.str z = V.str (Str.ofString "/")) = true := by simp [hz1]
        rw [e]
        exact ⟨0, [], _, "", none, rfl, Same.new hl, upd_same, by show 0 + _ ≤ _; omega, by show 0 + 0 ≤ _; omega, .inr ⟨rfl, rfl, by unfold namesIn; rw [if_pos hz1]⟩⟩
      · have e : decide (V.str z = V.str (Str.ofString "/")) = false := by simp [hz1]
        rw [e]
        exact ⟨_, [], _, "/", none, rfl, Same.new hl, upd_same, by show 0 + _ ≤ _; omega, by show 0 + _ ≤ _; omega, .inl ⟨rfl, rfl, by unfold namesIn; rw [if_neg hz1]; rfl⟩⟩
    · rintro m σ H' ⟨acc, r, s1, nm, rfl, sH, eL, hb, hm, hc⟩
      refine ⟨_, rfl, rfl, _, rfl, ?_⟩
      rcases hc with ⟨rfl, hm2, hc⟩ | ⟨rfl, hm2, hc⟩
      · refine iteT' (by simp) ⟨fun σ2 H2 => ∃ m', m' < m ∧ _, fun σ2 H2 h => h, ?_⟩
        have hr : (Sx r).length ≤ sizeLine := by rw [Sx_len]; exact sz (by omega)
        refine ⟨_, rfl, ⟨_, rfl⟩, _, _, rfl, rfl, by decide +kernel, hr, fun p hp => ?_⟩
        have npl : l ≠ p := ne_of_none eL hp
        have eLp : (upd H' p (HO.tup [V.str (Txt.partition (Sx r) "/").fst, V.str (Txt.partition (Sx r) "/").snd.fst, V.str (Txt.partition (Sx r) "/").snd.snd])) l = some (.lst (acc.map V.str)) := by rw [upd_ne npl]; exact eL
        refine ⟨p, _, rfl, SqT.of upd_same, rfl, _, _, rfl, _, _, rfl, _, _, rfl, rfl, ?_⟩
        refine ⟨_, rfl, .inl ⟨rfl, _, SqL.of eLp⟩, _, rfl, l, _, _, rfl, rfl, eLp, ?_, ?_⟩
        · rw [List.length_map]; exact szl (by omega)
        have sH2 := Same.mut (o := .lst (acc.map V.str ++ [V.str (Txt.partition (Sx r) "/").fst])) (sH.trans (Same.new (o := HO.tup [V.str (Txt.partition (Sx r) "/").fst, V.str (Txt.partition (Sx r) "/").snd.fst, V.str (Txt.partition (Sx r) "/").snd.snd]) hp)) hl
        by_cases h47 : 47 ∈ r
        · obtain ⟨a, b, rfl, ha⟩ := first_slash h47
          rw [part_some ha] at sH2 ⊢
          rw [spt_some ha] at hc
          refine ⟨b.length + 1, by rw [hm2]; simp; omega, acc ++ [Sx a], b, "/", _, rfl, sH2, ?_, ?_, ?_, .inl ⟨rfl, rfl, by rw [← hc]; simp⟩⟩
          · rw [upd_same, List.map_append]; rfl
          · simp at hb ⊢; omega
          · simp at hm2 hm ⊢; omega
        · rw [part_none h47] at sH2 ⊢
          rw [spt_none h47] at hc
          refine ⟨0, by omega, acc ++ [Sx r], [], Str.empty, _, rfl, sH2, ?_, ?_, ?_, .inr ⟨rfl, rfl, by rw [← hc]; rfl⟩⟩
          · rw [upd_same, List.map_append]; rfl
          · rw [List.length_append, List.length_singleton]; show _ + 0 ≤ _; omega
          · rw [List.length_append, List.length_singleton]; omega
      · refine iteF' (by decide +kernel) ?_
        rw [hc] at eL
        exact ⟨_, rfl, l, _, rfl, .inl ⟨SqL.of eL, fun p hp => k p _ (sH.free hp) (sH.trans (Same.new hp)) upd_same⟩⟩
end
end NK

namespace NK
open PySem PySem.Spec PyProof.Rows L2 NA TL
section
variable {P : Program} {w : World} {K : PySem.W.Frag} {mg : Str → Option Value} {base : Heap} {A : Ad}
def sp_text_of (K : PySem.W.Frag) : Sp := fun vs H Q _ => ∃ (p : Addr) (ns : List Str), vs = [.ref p] ∧ SqT K H p (ns.map V.str) ∧ Good ns ∧ Q (.str (txt ns)) H
theorem sum_len {ns : List Str} (h : ∀ n ∈ ns, n.length ≤ 8) : (ns.map (·.length)).sum ≤ 8 * ns.length := by
  induction ns with
  | nil => simp
  | cons a l ih =>
    have h1 := h a (by simp)
    have h2 := ih fun n hn => h n (List.mem_cons_of_mem _ hn)
    simp only [List.map_cons, List.sum_cons, List.length_cons]
    omega
theorem slash_len : ("/" : Str).length = 1 := by decide +kernel
theorem Good.len8 {ns : List Str} (h : Good ns) : ∀ n ∈ ns, n.length ≤ 8 := fun n hn => (isNm_iff.mp (h.2 n hn)).2.1
theorem join_len {ns : List Str} (h : Good ns) : (Txt.join "/" ns).length ≤ 72 := by
  have := txt_len h
  unfold txt at this
  rw [len_tl, tl_append, List.length_append, slash_tl] at this
  rw [len_tl]
  simp at this ⊢
  omega
theorem ok_text_of (T : Tx K mg A) : FnR P w K mg base CX0 1 A.f_text_of (sp_text_of K) := by
  refine fnr T.F_text_of sc_text_of (fun _ _ _ _ _ _ us hl => match us, hl with | [_], _ => rfl) (fun vs H Q E h => ?_) (fun cdv A' outer s H vs Q E hr h => ?_)
  · obtain ⟨p, ns, rfl, _⟩ := h; rfl
  · obtain ⟨p, ns, rfl, hp, g, k⟩ := h
    refine ⟨_, pss_one (ps_ret (pe_op op_add_str pe_str (pe_join pe_str (pv 0)))), ?_⟩
    have h1 := sum_len g.len8
    have h2 := g.1
    have h3 := join_len g
    exact ⟨⟨_, rfl⟩, _, rfl, _, p, ns, rfl, rfl, .inr hp, by rw [slash_len]; omega, _, _, rfl, rfl, by rw [slash_len]; exact sz (by omega), k⟩
def sp_is_text (K : PySem.W.Frag) : Sp := fun vs H Q _ => (∃ z : Str, vs = [.str z] ∧ z.length ≤ 100000 ∧ ∀ H', Same H H' → Q (.bl (isTx z)) H') ∨
  ∃ x t, vs = [x] ∧ TyX K H x t ∧ PySem.W.kitOne K t (.type "str") = some false ∧ Q (.bl false) H
theorem spt_len : ∀ r : List Nat, (spt r).length ≤ r.length + 1
  | [] => by simp [spt]
  | c :: r => by
    have := spt_len r
    unfold spt
    split
    · simp; omega
    · split
      · simp
      · rename_i e; rw [e] at this; simp at this ⊢; omega
theorem spt_item : ∀ (r : List Nat), ∀ p ∈ spt r, p.length ≤ r.length
  | [], p, h => by simp [spt] at h; simp [h]
  | c :: r, p, h => by
    have ih := spt_item r
    unfold spt at h
    split at h
    · rcases List.mem_cons.mp h with e | e
      · simp [e]
      · have := ih p e; simp; omega
    · split at h
      · simp at h; simp [h]
      · rename_i e
        rw [e] at ih
        rcases List.mem_cons.mp h with e | e
        · have := ih _ (List.mem_cons_self ..); simp [e]; omega
        · have := ih p (List.mem_cons_of_mem _ e); simp; omega
theorem names_len {z : Str} (hz : z.length ≤ 100000) : (namesIn z).length ≤ 100001 ∧ ∀ n ∈ namesIn z, n.length ≤ 100000 := by
  unfold namesIn
  split
  · simp
  · have h1 : ((tl z).drop 1).length ≤ 100000 := by
      have := len_tl z
      rw [List.length_drop]; omega
    have h2 := spt_len ((tl z).drop 1)
    rw [List.length_map]
    refine ⟨by omega, fun n hn => ?_⟩
    obtain ⟨p, hp, rfl⟩ := List.mem_map.mp hn
    have := spt_item _ p hp
    rw [Sx_len]; omega
theorem ok_is_text (T : Tx K mg A) : FnR P w K mg base CX0 2 A.f_is_text (sp_is_text K) := by
  obtain ⟨t1, k1⟩ := T.k_MOST_NAMES
  refine fnr T.F_is_text sc_is_text (fun _ _ _ _ _ _ us hl => match us, hl with | [_], _ => rfl) (fun vs H Q E h => ?_) (fun cdv A' outer s H vs Q E hr h => ?_)
  · rcases h with ⟨z, rfl, _⟩ | ⟨x, t, rfl, _⟩ <;> rfl
  · refine ⟨_, pss_cons (ps_if (PW.pt (pw_or (pt_not (pt_val (pe_callB call_isi (by rfl) T.z_isinstance (by decide +kernel) (pa_cons (pv 0) (pa_cons (pe_bltn (v := .ty "str") (by rfl) T.z_str (by decide +kernel) rfl) pa_nil)))))
        (pw_or1 (pt_cmpR op_ne (pe_slice sl_str (pv 0) po_none (po_some pe_int)) pe_str (nomark _)))))
        (pss_one (ps_ret pe_bl)) pss_nil)
      (pss_cons (ps_set (i := 1) sc_is_text.nd rfl (.inl rfl) (pe_cl (ok_names_in T) hr (by rfl) T.mg_names_in T.kp_names_in pass0 (pa_cons (pv 0) pa_nil)))
      (pss_one (ps_ret (pe_and (pe_cmpR op_le (pe_callB call_len_seq (by rfl) T.z_len PySem.boot_len (pa_cons (pv 1) pa_nil)) (pe_glob (v := .int 8) (by rfl) k1 ⟨_, rfl⟩) (nomark _)) (pe_one (pe_callB (cr_all rfl) (by rfl) T.z_all (by decide +kernel) (pa_cons
        (pe_lc (own := [("name", 2)]) (g := gName 2) (tt := tYes) rfl sc_is_text.nd (pi_tup (pv 1)) (blkOk_by (N := ["value", "names", "name"]) (sc := defScope s_is_text) (by decide +kernel)) (fun _ _ _ _ _ => pg_name (i := 2) sc_is_text.nd rfl (Or.inl rfl)) (fun _ _ _ _ _ => pts_nil)
          (fun _ _ _ _ _ => pe_cl (ok_is_name T) hr (by rfl) T.mg_is_name T.kp_is_name pass0 (pa_cons (pv 2) pa_nil))) pa_nil))))))), ?_⟩
    rcases h with ⟨z, rfl, hz, k⟩ | ⟨x, t, rfl, ty, kt, k⟩
    · refine ⟨_, rfl, .str z, .ty "str", .type "str", .type "str", true, rfl, .ty "str", .base (.str z), kit_self, true, rfl, iteF ?_⟩
      refine ⟨_, rfl, _, rfl, z, rfl, sz (by omega), rfl, _, rfl, ?_⟩
      have ec : cutS z none (some 1) = Sx ((tl z).take 1) := cut_to z 1
      have e0 : decide (V.str (cutS z none (some 1)) = V.str "/") = decide ((tl z).take 1 = [47]) := by
        rw [ec, Bool.eq_iff_iff, decide_eq_true_eq, decide_eq_true_eq]
        constructor
        · intro h
          have h2 : Sx ((tl z).take 1) = "/" := by injection h
          have := congrArg tl h2
          rw [slash_tl] at this
          exact this
        · intro h; rw [h, slash_Sx]
      show if (!decide (V.str (cutS z none (some 1)) = V.str "/")) = true then _ else _
      rw [e0]
      have hk : isTx z = (decide ((tl z).take 1 = [47]) && decide ((namesIn z).length ≤ 8) && (namesIn z).all isNm) := rfl
      cases h0 : decide ((tl z).take 1 = [47]) with
      | false =>
        rw [h0, Bool.false_and, Bool.false_and] at hk
        rw [hk] at k
        exact iteT (k H (Same.refl H))
      | true =>
        rw [h0, Bool.true_and] at hk
        refine iteF ⟨_, rfl, z, rfl, hz, fun p H1 hp s1 e1 => ?_⟩
        refine ⟨_, rfl, p, _, rfl, .inr (SqT.of e1), _, _, rfl, rfl, _, rfl, ?_⟩
        have hl := names_len hz
        have el : decide ((((namesIn z).map V.str).length : Int) ≤ 8) = decide ((namesIn z).length ≤ 8) := by
          rw [List.length_map, Bool.eq_iff_iff, decide_eq_true_eq, decide_eq_true_eq]; omega
        show if decide ((((namesIn z).map V.str).length : Int) ≤ 8) = true then _ else _
        rw [el]
        cases h1 : decide ((namesIn z).length ≤ 8) with
        | false =>
          rw [h1, Bool.false_and] at hk
          rw [hk] at k
          exact iteF (k H1 s1)
        | true =>
          rw [h1, Bool.true_and] at hk
          refine iteT ⟨_, rfl, p, rfl, ⟨_, SqT.of e1⟩, fun D hD => ?_⟩
          refine lc_all (walk_tup (K := K) (a := p) (xs := (namesIn z).map V.str)) (fun i v H' => v = .bl (isNm ((namesIn z).getD i ""))) hD (fun _ _ _ _ _ _ _ h => h) (fun H' s' => SqT.of (s' _ _ e1)) (by rw [List.length_map]; exact szl (by omega)) ?_ g_name_mono ?_
          · rintro i x H2 H3 hi s2 ⟨rfl, hx⟩
            rw [List.getElem?_map] at hx
            obtain ⟨n, hn, rfl⟩ := Option.map_eq_some_iff.mp hx
            refine ⟨Same.refl _, rfl, Same.refl _, fun Q' hQ => ⟨_, rfl, .inl ⟨n, rfl, sz (by have := hl.2 n (List.mem_of_getElem? hn); omega), fun H4 s4 => hQ _ _ s4 ?_⟩⟩⟩
            rw [List.getD_eq_getElem?_getD, hn] <;> rfl
          · intro H2 ys s2 e2 hy1 hy2
            rw [List.length_map] at hy1
            have ey := list_fn hy1 hy2
            have eb : ys = ((namesIn z).map isNm).map V.bl := by
              rw [ey, ← range_map (namesIn z) "" isNm, List.map_map]; rfl
            rw [eb] at e2
            refine ⟨D, _, rfl, SqL.of e2, ?_⟩
            have e : isTx z = ((namesIn z).map isNm).all id := by rw [hk, List.all_map]; rfl
            rw [← e]
            exact k _ (s1.trans s2)
    · exact ⟨_, rfl, x, .ty "str", t, .type "str", false, rfl, .ty "str", ty, kt, false, rfl, iteT (iteT k)⟩
end
end NK

namespace NK
open PySem PySem.Spec PyProof.Rows L2 NA TL
/-- a place: an instance whose parts are a tuple of good names -/
def Pl (A : Ad) (H : Hp) (a : Addr) (ns : List Str) : Prop := Good ns ∧ ∃ dx t, H a = some (.ins A.c_Place dx [("parts", .ref t)]) ∧ H t = some (.tup (ns.map V.str))
theorem Pl.same {A : Ad} {H H' : Hp} {a : Addr} {ns : List Str} (h : Pl A H a ns) (e : Same H H') : Pl A H' a ns :=
  let ⟨g, dx, t, h1, h2⟩ := h
  ⟨g, dx, t, e _ _ h1, e _ _ h2⟩
theorem Pl.sam {A : Ad} {H H' : Hp} {a p : Addr} {ns : List Str} {xs : List V} (h : Pl A H a ns) (hp : H p = some (.lst xs)) (e : Sam p H H') : Pl A H' a ns :=
  let ⟨g, dx, t, h1, h2⟩ := h
  ⟨g, dx, t, e _ _ (ne_of h1 hp (by intro z; cases z)) h1, e _ _ (ne_of h2 hp (by intro z; cases z)) h2⟩
theorem Pl.inj {A : Ad} {H : Hp} {a : Addr} {ns ms : List Str} (h : Pl A H a ns) (h' : Pl A H a ms) : ns = ms := by
  obtain ⟨_, dx, t, h1, h2⟩ := h
  obtain ⟨_, dy, u, h3, h4⟩ := h'
  rw [h1] at h3
  injection h3 with h3
  injection h3 with _ _ h3
  injection h3 with h3 _
  injection h3 with _ h3
  injection h3 with h3
  subst h3
  rw [h2] at h4
  injection h4 with h4
  injection h4 with h4
  exact (List.map_inj_right (fun a b h => by injection h)).mp h4
theorem lkp (t : Addr) : (([("parts", V.ref t)] : List (Str × V)).lookup ("parts" : Str)) = some (.ref t) := by
  simp [List.lookup]
section
variable {P : Program} {w : World} {K : PySem.W.Frag} {mg : Str → Option Value} {base : Heap} {A : Ad}
theorem Tx.cl (T : Tx K mg A) : Cls K A.c_Place := ⟨T.pg_Place, T.hd_Place, T.po_Place, T.sa_Place⟩
theorem Tx.np (T : Tx K mg A) : NoAttr K A.c_Place "parts" := T.np_Place
theorem Tx.mkP (T : Tx K mg A) : Mk K A.c_Place A.f_Place_init := ⟨T.mk_Place, T.at_Place_init, T.fn_Place_init, T.kc_Place⟩
theorem Tx.rdP (T : Tx K mg A) : ClX.CRead K A.c_Place (.type "type") := ⟨T.rd_Place, T.ga_Place⟩
theorem Tx.tyP (T : Tx K mg A) {H : Hp} {a dx : Addr} {fs : List (Str × V)} (h : H a = some (.ins A.c_Place dx fs)) : TyX K H (.ref a) (.ref A.c_Place) := .base (.ins h T.cl T.ca_Place T.cn_Place T.ct_Place T.cm_Place)
theorem Tx.kSC (T : Tx K mg A) : PySem.W.kitOne K (.type "str") (.ref A.c_Place) = some false := kit_sub rfl T.ic_Place T.ty_Place T.su_Place
def sp_init (A : Ad) : Sp := fun vs H Q _ => ∃ (x dx : Addr) (ns : List Str), vs = .ref x :: ns.map V.str ∧ H x = some (.ins A.c_Place dx []) ∧ Good ns ∧
  ∀ (H' : Hp) (t : Addr), (∀ b o, b ≠ x → H b = some o → H' b = some o) → H t = none → H' x = some (.ins A.c_Place dx [("parts", .ref t)]) → H' t = some (.tup (ns.map V.str)) → Q .non H'
theorem ok_init (T : Tx K mg A) : FnR P w K mg base CX0 2 A.f_Place_init (sp_init A) := by
  obtain ⟨t1, k1⟩ := T.most_Place
  refine (fnr_star (ps := ["self"]) (pv := "names") (sp := fun vs H Q _ => ∃ (x dx t : Addr) (ns : List Str), vs = [.ref x, .ref t] ∧ H x = some (.ins A.c_Place dx []) ∧ H t = some (.tup (ns.map V.str)) ∧ Good ns ∧
      ∀ H' : Hp, (∀ b o, b ≠ x → H b = some o → H' b = some o) → H' x = some (.ins A.c_Place dx [("parts", .ref t)]) → Q .non H')
    T.F_Place_init sc_Place_init (fun kV doc pm an cdv ct => StX.bind_star1 (B := fun us => bindArgs (PySem.W.fnOf "__init__" "Place.__init__" (defArgs s_Place_init) (defBody s_Place_init) (defScope s_Place_init) .none kV doc pm an cdv ct) ⟨us, []⟩) (fun a => rfl) (fun a r rs => rfl)) (fun cdv A' outer s H vs Q E hr h => ?_)).imp fun vs H Q E h => ?_
  · obtain ⟨x, dx, t, ns, rfl, hx, ht, g, k⟩ := h
    refine ⟨_, pss_cons (ps_for PassesOwn.never rfl (pi_tup (pv 1)) (pg_name (i := 2) sc_Place_init.nd rfl (.inl rfl))
        (pss_one (ps_if (pt_not (pt_val (pe_cl (ok_is_name T) hr (by rfl) T.mg_is_name T.kp_is_name pass0 (pa_cons (pv 2) pa_nil)))) (pss_one ps_never) pss_nil)))
      (pss_cons (ps_if (pt_cmpR op_gt (pe_callB call_len_seq (by rfl) T.z_len PySem.boot_len (pa_cons (pv 1) pa_nil)) (ClX.pe_cval (pe_glob (v := .ref A.c_Place) (by rfl) T.mg_Place rfl)) (nomark _)) (pss_one ps_never) pss_nil)
      (pss_one (ps_fld (pv 0) (pe_callTy call_tuple_of (by rfl) T.z_tuple (by decide +kernel) (pa_cons (pv 1) pa_nil)) rfl))), ?_⟩
    refine ⟨_, rfl, t, rfl, ⟨_, SqT.of ht⟩, for_tup (K := K) (a := t) (xs := ns.map V.str) (fun i σ H' => Same H H' ∧ ∃ v, σ = [some (.ref x), some (.ref t), v]) ⟨Same.refl H, none, rfl⟩ (fun i σ H' _ p => SqT.of (p.1 _ _ ht)) ?_ ?_⟩
    · rintro i y σ H' hy ⟨s1, v, rfl⟩
      rw [List.getElem?_map] at hy
      obtain ⟨n, hn, rfl⟩ := Option.map_eq_some_iff.mp hy
      have hm := List.mem_of_getElem? hn
      refine ⟨_, rfl, .inl ⟨n, rfl, sz (by have := g.len8 n hm; omega), fun H2 s2 => ⟨_, rfl, iteF' (by rw [g.2 n hm]; rfl) ⟨s1.trans s2, _, rfl⟩⟩⟩⟩
    · rintro σ H' ⟨s1, v, rfl⟩
      refine ⟨_, rfl, t, _, rfl, .inr (SqT.of (s1 _ _ ht)), A.c_Place, .type "type", .int 8, _, rfl, T.rdP, ⟨k1, ⟨_, rfl⟩⟩, _, _, rfl, rfl, _, rfl, iteF' (decide_eq_false (by rw [List.length_map]; have := g.1; omega)) ?_⟩
      refine ⟨_, rfl, t, _, rfl, .inr ⟨SqT.of (s1 _ _ ht), _, rfl, x, A.c_Place, dx, [], rfl, s1 _ _ hx, T.cl, T.np, by show 0 < 1000; decide, ?_⟩⟩
      refine k _ (fun b o n e => ?_) ?_
      · rw [upd_ne n]; exact s1 _ _ e
      · rw [upd_same]; rfl
  · obtain ⟨x, dx, ns, rfl, hx, g, k⟩ := h
    refine ⟨[.ref x], ns.map V.str, rfl, rfl, by rw [List.length_map]; exact sz (by have := g.1; omega), fun p hp => ?_⟩
    have npx : x ≠ p := ne_of_none hx hp
    refine ⟨x, dx, p, ns, rfl, by rw [upd_ne npx]; exact hx, upd_same, g, fun H' h1 h2 => k H' p (fun b o n e => h1 b o n (by rw [upd_ne (ne_of_none e hp)]; exact e)) hp h2 (h1 _ _ npx.symm upd_same)⟩
/-- C(*names) -/
theorem mk_pl {H1 : Hp} {ns : List Str} {Q : VK} {E : XK} (g : Good ns) (k : ∀ x H2, H1 x = none → Same H1 H2 → Pl A H2 x ns → Q (.ref x) H2) :
    ∀ x dx, H1 x = Option.none → H1 dx = Option.none → dx ≠ x → sp_init A (V.ref x :: ns.map V.str) (upd (upd H1 dx (.own x)) x (.ins A.c_Place dx [])) (fun v H2 => v = .non ∧ Q (.ref x) H2) E := by
  intro x dx hx hd hne
  refine ⟨x, dx, ns, rfl, upd_same, g, fun H' t h1 h2 h3 h4 => ⟨rfl, k x H' hx (fun b o e => h1 b o (ne_of_none e hx) ?_) ⟨g, dx, t, h3, h4⟩⟩⟩
  rw [upd_ne (ne_of_none e hx), upd_ne (ne_of_none e hd)]
  exact e
end
end NK

namespace NK
open PySem PySem.Spec PyProof.Rows L2 NA TL
section
variable {P : Program} {w : World} {K : PySem.W.Frag} {mg : Str → Option Value} {base : Heap} {A : Ad}
/-- a place is made and handed back -/
def RetP (A : Ad) (H : Hp) (ns : List Str) (Q : VK) : Prop := ∀ x H', H x = none → Same H H' → Pl A H' x ns → Q (.ref x) H'
theorem RetP.up {H H1 : Hp} {ns : List Str} {Q : VK} (k : RetP A H ns Q) (e : Same H H1) : RetP A H1 ns Q := fun x H' hx e2 h => k x H' (e.free hx) (e.trans e2) h
/-- Place(*names) of a tuple that stands -/
theorem mk_plT {H : Hp} {p : Addr} {ns : List Str} {Q : VK} {E : XK} (g : Good ns) (h : SqT K H p (ns.map V.str)) (k : RetP A H ns Q) :
    ∃ a xs, V.ref p = V.ref a ∧ (SqT K H a xs ∨ SqL K H a xs) ∧ ∀ x dx, H x = Option.none → H dx = Option.none → dx ≠ x →
      sp_init A (V.ref x :: xs) (upd (upd H dx (.own x)) x (.ins A.c_Place dx [])) (fun v H2 => v = .non ∧ Q (.ref x) H2) E :=
  ⟨p, _, rfl, .inl h, mk_pl g k⟩
def sp_names (A : Ad) : Sp := fun vs H Q _ => ∃ a ns, vs = [.ref a] ∧ Pl A H a ns ∧ ∀ t, H t = some (.tup (ns.map V.str)) → Q (.ref t) H
theorem ok_names (T : Tx K mg A) : FnR P w K mg base CX0 1 A.f_Place_names (sp_names A) := by
  refine fnr T.F_Place_names sc_Place_names (fun _ _ _ _ _ _ us hl => match us, hl with | [_], _ => rfl) (fun vs H Q E h => ?_) (fun cdv A' outer s H vs Q E hr h => ?_)
  · obtain ⟨a, ns, rfl, _⟩ := h; rfl
  · obtain ⟨a, ns, rfl, ⟨g, dx, t, h1, h2⟩, k⟩ := h
    exact ⟨_, pss_one (ps_ret (pe_fld (pv 0) rfl)), ⟨_, rfl, a, _, dx, _, _, rfl, h1, T.cl, T.np, lkp t, k t h2⟩⟩
def sp_text (A : Ad) : Sp := fun vs H Q _ => ∃ a ns, vs = [.ref a] ∧ Pl A H a ns ∧ Q (.str (txt ns)) H
theorem ok_text (T : Tx K mg A) : FnR P w K mg base CX0 2 A.f_Place_text (sp_text A) := by
  refine fnr T.F_Place_text sc_Place_text (fun _ _ _ _ _ _ us hl => match us, hl with | [_], _ => rfl) (fun vs H Q E h => ?_) (fun cdv A' outer s H vs Q E hr h => ?_)
  · obtain ⟨a, ns, rfl, _⟩ := h; rfl
  · obtain ⟨a, ns, rfl, ⟨g, dx, t, h1, h2⟩, k⟩ := h
    exact ⟨_, pss_one (ps_ret (pe_cl (ok_text_of T) hr (by rfl) T.mg_text_of T.kp_text_of pass0 (pa_cons (pe_fld (pv 0) rfl) pa_nil))), ⟨_, rfl, a, _, dx, _, _, rfl, h1, T.cl, T.np, lkp t, t, ns, rfl, SqT.of h2, g, k⟩⟩
def sp_up (A : Ad) : Sp := fun vs H Q _ => ∃ a ns, vs = [.ref a] ∧ Pl A H a ns ∧ (ns = [] → ∀ H', Same H H' → Q .non H') ∧ (ns ≠ [] → RetP A H ns.dropLast Q)
theorem ok_up (T : Tx K mg A) : FnR P w K mg base CX0 4 A.f_Place_up (sp_up A) := by
  refine fnr T.F_Place_up sc_Place_up (fun _ _ _ _ _ _ us hl => match us, hl with | [_], _ => rfl) (fun vs H Q E h => ?_) (fun cdv A' outer s H vs Q E hr h => ?_)
  · obtain ⟨a, ns, rfl, _⟩ := h; rfl
  · obtain ⟨a, ns, rfl, ⟨g, dx, t, h1, h2⟩, k1, k2⟩ := h
    refine ⟨_, pss_cons (ps_if (pt_cmpR (op_eqD hr.units) (pe_fld (pv 0) rfl) (pe_tup pa_nil) (nomark _)) (pss_one (ps_ret pe_non)) pss_nil)
      (pss_cons (ps_set (i := 1) sc_Place_up.nd rfl (.inl rfl) (pe_slice sl_tupA (pe_fld (pv 0) rfl) po_none (po_some (pe_un un_neg pe_int))))
      (pss_one (ps_ret (pe_mkS T.mkP (ok_init T) hr (by rfl) T.mg_Place pass0 (pv 1))))), ?_⟩
    refine ⟨_, rfl, a, _, dx, _, _, rfl, h1, T.cl, T.np, lkp t, Nat.zero_le _, fun p hp => ?_⟩
    have s1 := Same.new (o := .tup []) hp
    refine c_eqT (ns := ns) (ms := []) g.oks (fun _ h => nomatch h) (SqT.of (s1 _ _ h2)) (SqT.of upd_same) ⟨_, rfl, ?_⟩
    by_cases hn : ns = []
    · exact iteT' (decide_eq_true hn) (k1 hn _ s1)
    · refine iteF' (decide_eq_false hn) ⟨_, rfl, a, _, dx, _, _, rfl, s1 _ _ h1, T.cl, T.np, lkp t, 1, rfl, _, rfl, c_slT1 (SqT.of (s1 _ _ h2)) (by simpa using hn) fun r H2 s2 h3 => ⟨_, rfl, ?_⟩⟩
      rw [← List.map_dropLast] at h3
      have gd : Good ns.dropLast := by rw [List.dropLast_eq_take]; exact g.take _
      exact mk_plT gd h3 ((k2 hn).up (s1.trans s2))
def sp_head (A : Ad) : Sp := fun vs H Q _ => ∃ (a : Addr) (ns : List Str) (k : Nat), vs = [.ref a, .int k] ∧ Pl A H a ns ∧ k ≤ ns.length ∧ RetP A H (ns.take k) Q
theorem bd_head : ∀ (cdv : Value) (A' : Around) (outer : List Env) (s : Shared) (H : Hp) (vs : List V) (Q : VK) (E : XK) (T : Tx K mg A), Room 3 (A'.deeper (envOfC "Place.head" (defScope s_Place_head) s.heap.objs.size A.f_Place_head cdv)) → sp_head A vs H Q E →
      ∃ t, PSs (cxOf CX0 P w K mg base ["self", "k", "names"] "Place.head" (defScope s_Place_head) A.f_Place_head cdv A' outer s H E).nox (defBody s_Place_head) t ∧ t { nx := fun _ H' => Q .non H', rt := Q } (start ["self", "k", "names"] vs) H := by
  intro cdv A' outer s H vs Q E T hr h
  obtain ⟨a, ns, j, rfl, ⟨g, dx, t, h1, h2⟩, hj, k⟩ := h
  refine ⟨_, pss_cons (ps_if (pt_not (pt_val (pe_cl (ok_is_between T) (hr.mono (by decide)) (by rfl) T.mg_is_between T.kp_is_between pass0 (pa_cons (pv 1) (pa_cons pe_int (pa_cons (pe_callB call_len_seq (by rfl) T.z_len PySem.boot_len (pa_cons (pe_fld (pv 0) rfl) pa_nil)) pa_nil)))))) (pss_one ps_never) pss_nil)
      (pss_cons (ps_set (i := 2) sc_Place_head.nd rfl (.inl rfl) (pe_slice sl_tupA (pe_fld (pv 0) rfl) po_none (po_some (pv 1))))
      (pss_one (ps_ret (pe_mkS T.mkP (ok_init T) hr (by rfl) T.mg_Place pass0 (pv 2))))), ?_⟩
  refine ⟨_, rfl, _, rfl, a, _, dx, _, _, rfl, h1, T.cl, T.np, lkp t, t, _, rfl, .inr (SqT.of h2), .inl ⟨(j : Int), 0, _, rfl, _, rfl, iteF' ?_ ?_⟩⟩
  · rw [List.length_map, decide_eq_true (by omega), decide_eq_true (by omega)]; rfl
  · refine ⟨_, rfl, a, _, dx, _, _, rfl, h1, T.cl, T.np, lkp t, _, rfl, _, rfl, c_slT (k := j) (SqT.of h2) (by rw [List.length_map]; exact hj) fun r H2 s2 h3 => ⟨_, rfl, ?_⟩⟩
    rw [← List.map_take] at h3
    exact mk_plT (g.take j) h3 (k.up s2)
theorem len_head : ∀ vs H Q E, sp_head A vs H Q E → vs.length = ["self", "k"].length := fun vs H Q E h => by
  obtain ⟨a, ns, j, rfl, _⟩ := h; rfl
theorem ok_head (T : Tx K mg A) : FnR P w K mg base CX0 4 A.f_Place_head (sp_head A) :=
  fnr T.F_Place_head sc_Place_head (fun _ _ _ _ _ _ us hl => match us, hl with | [_, _], _ => rfl) len_head (fun cdv A' outer s H vs Q E hr h => bd_head cdv A' outer s H vs Q E T hr h)
theorem ok_headK (T : Tx K mg A) : FnK P w K mg base CX0 4 A.f_Place_head 1 ["k"] (sp_head A) :=
  fnrk T.F_Place_head sc_Place_head (fun _ _ _ _ _ _ us ws h1 h2 => match us, h1, ws, h2 with | [_], _, [_], _ => rfl) len_head (fun cdv A' outer s H vs Q E hr h => bd_head cdv A' outer s H vs Q E T hr h)
end
end NK

namespace NK
open PySem PySem.Spec PyProof.Rows L2 NA TL
section
variable {P : Program} {w : World} {K : PySem.W.Frag} {mg : Str → Option Value} {base : Heap} {A : Ad}
def sp_is_ahead (A : Ad) : Sp := fun vs H Q _ => ∃ a b ns ms, vs = [.ref a, .ref b] ∧ Pl A H a ns ∧ Pl A H b ms ∧ Q (.bl (nLt ns ms)) H
theorem ok_is_ahead (T : Tx K mg A) : FnR P w K mg base CX0 1 A.f_Place_is_ahead (sp_is_ahead A) := by
  refine fnr T.F_Place_is_ahead sc_Place_is_ahead (fun _ _ _ _ _ _ us hl => match us, hl with | [_, _], _ => rfl) (fun vs H Q E h => ?_) (fun cdv A' outer s H vs Q E hr h => ?_)
  · obtain ⟨a, b, ns, ms, rfl, _⟩ := h; rfl
  · obtain ⟨a, b, ns, ms, rfl, ⟨g, dx, t, h1, h2⟩, ⟨g', dy, u, h3, h4⟩, k⟩ := h
    refine ⟨_, pss_cons (ps_if (pt_not (pt_val (pe_callB call_isi (by rfl) T.z_isinstance (by decide +kernel) (pa_cons (pv 1) (pa_cons (pe_glob (v := .ref A.c_Place) (by rfl) T.mg_Place rfl) pa_nil))))) (pss_one ps_never) pss_nil)
      (pss_one (ps_ret (pe_cmpR (op_ltS hr.units) (pe_fld (pv 0) rfl) (pe_fld (pv 1) rfl) (nomark _)))), ?_⟩
    refine ⟨_, rfl, .ref b, .ref A.c_Place, .ref A.c_Place, .ref A.c_Place, true, rfl, .own _, T.tyP h3, kit_self, true, rfl, iteF ?_⟩
    exact ⟨_, rfl, a, _, dx, _, _, rfl, h1, T.cl, T.np, lkp t, _, rfl, b, _, dy, _, _, rfl, h3, T.cl, T.np, lkp u, t, u, ns, ms, rfl, rfl, SqT.of h2, SqT.of h4, k⟩
def sp_add (A : Ad) : Sp := fun vs H Q _ => ∃ a ns n, vs = [.ref a, .str n] ∧ Pl A H a ns ∧ isNm n = true ∧ ns.length < 8 ∧ RetP A H (ns ++ [n]) Q
theorem ok_add (T : Tx K mg A) : FnR P w K mg base CX0 4 A.f_Place_add (sp_add A) := by
  obtain ⟨t1, k1⟩ := T.most_Place
  refine fnr T.F_Place_add sc_Place_add (fun _ _ _ _ _ _ us hl => match us, hl with | [_, _], _ => rfl) (fun vs H Q E h => ?_) (fun cdv A' outer s H vs Q E hr h => ?_)
  · obtain ⟨a, ns, n, rfl, _⟩ := h; rfl
  · obtain ⟨a, ns, n, rfl, ⟨g, dx, t, h1, h2⟩, hn, hl, k⟩ := h
    refine ⟨_, pss_cons (ps_if (pt_not (pt_val (pe_cl (ok_is_name T) (hr.mono (by decide)) (by rfl) T.mg_is_name T.kp_is_name pass0 (pa_cons (pv 1) pa_nil)))) (pss_one ps_never) pss_nil)
      (pss_cons (ps_if (pt_cmpR op_eq (pe_callB call_len_seq (by rfl) T.z_len PySem.boot_len (pa_cons (pe_fld (pv 0) rfl) pa_nil)) (ClX.pe_cval (pe_glob (v := .ref A.c_Place) (by rfl) T.mg_Place rfl)) (nomark _)) (pss_one ps_never) pss_nil)
      (pss_cons (ps_set (i := 2) sc_Place_add.nd rfl (.inl rfl) (pe_tup (StX.pa_star (pe_fld (pv 0) rfl) (pa_cons (pv 1) pa_nil))))
      (pss_one (ps_ret (pe_mkS T.mkP (ok_init T) hr (by rfl) T.mg_Place pass0 (pv 2)))))), ?_⟩
    refine ⟨_, rfl, .inl ⟨n, rfl, sz (by have := (isNm_iff.mp hn).2.1; omega), fun H1 s1 => ⟨_, rfl, iteF' (by rw [hn]; rfl) ?_⟩⟩⟩
    refine ⟨_, rfl, a, _, dx, _, _, rfl, s1 _ _ h1, T.cl, T.np, lkp t, t, _, rfl, .inr (SqT.of (s1 _ _ h2)), A.c_Place, .type "type", .int 8, _, rfl, T.rdP, ⟨k1, ⟨_, rfl⟩⟩, rfl, _, rfl, iteF' ?_ ?_⟩
    · rw [List.length_map]
      exact decide_eq_false (fun e => by injection e with e; omega)
    · refine ⟨_, rfl, a, _, dx, _, _, rfl, s1 _ _ h1, T.cl, T.np, lkp t, t, _, rfl, .inl (SqT.of (s1 _ _ h2)), _, rfl, ?_, fun p hp => ⟨_, rfl, ?_⟩⟩
      · rw [List.length_append, List.length_map]; exact sz (by show ns.length + 1 ≤ 1000000; omega)
      · refine mk_plT (g.snoc hl hn) (SqT.of ?_) (k.up (s1.trans (Same.new hp)))
        rw [upd_same, List.map_append]; rfl
def sp_contains (A : Ad) : Sp := fun vs H Q _ => ∃ a b ns ms, vs = [.ref a, .ref b] ∧ Pl A H a ns ∧ Pl A H b ms ∧ ∀ H', Same H H' → Q (.bl (decide (ms.take ns.length = ns))) H'
theorem ok_contains (T : Tx K mg A) : FnR P w K mg base CX0 3 A.f_Place_contains (sp_contains A) := by
  refine fnr T.F_Place_contains sc_Place_contains (fun _ _ _ _ _ _ us hl => match us, hl with | [_, _], _ => rfl) (fun vs H Q E h => ?_) (fun cdv A' outer s H vs Q E hr h => ?_)
  · obtain ⟨a, b, ns, ms, rfl, _⟩ := h; rfl
  · obtain ⟨a, b, ns, ms, rfl, ⟨g, dx, t, h1, h2⟩, ⟨g', dy, u, h3, h4⟩, k⟩ := h
    refine ⟨_, pss_cons (ps_if (PW.pt (pw_and (pt_not (pt_val (pe_callB call_isi (by rfl) T.z_isinstance (by decide +kernel) (pa_cons (pv 1) (pa_cons (pe_glob (v := .ref A.c_Place) (by rfl) T.mg_Place rfl) pa_nil)))))
        (pw_and1 (pt_not (pt_val (pe_cl (ok_is_text T) hr (by rfl) T.mg_is_text T.kp_is_text pass0 (pa_cons (pv 1) pa_nil))))))) (pss_one (ps_ret pe_bl)) pss_nil)
      (pss_cons (ps_set (i := 2) sc_Place_contains.nd rfl (.inl rfl) (pe_ifExp (pt_val (pe_callB call_isi (by rfl) T.z_isinstance (by decide +kernel) (pa_cons (pv 1) (pa_cons (pe_glob (v := .ref A.c_Place) (by rfl) T.mg_Place rfl) pa_nil))))
        (pe_fld (pv 1) rfl) (pe_cl (ok_names_in T) (hr.mono (by decide)) (by rfl) T.mg_names_in T.kp_names_in pass0 (pa_cons (pv 1) pa_nil))))
      (pss_one (ps_ret (pe_cmpR (op_eqD hr.units) (pe_slice sl_tupA (pv 2) po_none (po_some (pe_callB call_len_seq (by rfl) T.z_len PySem.boot_len (pa_cons (pe_fld (pv 0) rfl) pa_nil)))) (pe_fld (pv 0) rfl) (nomark _))))), ?_⟩
    refine ⟨_, rfl, .ref b, .ref A.c_Place, .ref A.c_Place, .ref A.c_Place, true, rfl, .own _, T.tyP h3, kit_self, true, rfl, iteF (iteF ?_)⟩
    refine ⟨_, rfl, .ref b, .ref A.c_Place, .ref A.c_Place, .ref A.c_Place, true, rfl, .own _, T.tyP h3, kit_self, true, rfl, iteT ?_⟩
    refine ⟨_, rfl, b, _, dy, _, _, rfl, h3, T.cl, T.np, lkp u, ?_⟩
    refine ⟨_, rfl, _, rfl, a, _, dx, _, _, rfl, h1, T.cl, T.np, lkp t, t, _, rfl, .inr (SqT.of h2), _, rfl, ?_⟩
    have key : ∀ r H2, Same H H2 → SqT K H2 r ((ms.take ns.length).map V.str) → tFld K (tVar 0) "parts" [some (.ref a), some (.ref b), some (.ref u)] H2 fun y H3 => rEqD K (.ref r) y H3 Q := fun r H2 s2 h5 =>
      ⟨_, rfl, a, _, dx, _, _, rfl, s2 _ _ h1, T.cl, T.np, lkp t, c_eqT (g'.take ns.length).oks g.oks h5 (SqT.of (s2 _ _ h2)) (k H2 s2)⟩
    rw [List.length_map]
    by_cases hl : ns.length ≤ ms.length
    · exact c_slT (k := ns.length) (SqT.of h4) (by rw [List.length_map]; exact hl) fun r H2 s2 h5 => key r H2 s2 (by rw [List.map_take]; exact h5)
    · refine ⟨u, _, rfl, SqT.of h4, fun _ => key u H (Same.refl H) ?_, fun hw => (hw ?_).elim⟩
      · rw [List.take_of_length_le (by omega)]; exact SqT.of h4
      · rw [HT.sIx_none, HT.sIx_nat, List.length_map, Nat.min_eq_right (by omega)]; exact ⟨rfl, rfl⟩
def sp_len (A : Ad) : Sp := fun vs H Q _ => ∃ a ns, vs = [.ref a] ∧ Pl A H a ns ∧ Q (.int ns.length) H
theorem ok_len (T : Tx K mg A) : FnR P w K mg base CX0 1 A.f_Place_len (sp_len A) := by
  refine fnr T.F_Place_len sc_Place_len (fun _ _ _ _ _ _ us hl => match us, hl with | [_], _ => rfl) (fun vs H Q E h => ?_) (fun cdv A' outer s H vs Q E hr h => ?_)
  · obtain ⟨a, ns, rfl, _⟩ := h; rfl
  · obtain ⟨a, ns, rfl, ⟨g, dx, t, h1, h2⟩, k⟩ := h
    refine ⟨_, pss_one (ps_ret (pe_callB call_len_seq (by rfl) T.z_len PySem.boot_len (pa_cons (pe_fld (pv 0) rfl) pa_nil))), ⟨_, rfl, a, _, dx, _, _, rfl, h1, T.cl, T.np, lkp t, t, _, rfl, .inr (SqT.of h2), ?_⟩⟩
    rw [List.length_map]; exact k
def sp_bool (A : Ad) : Sp := fun vs H Q _ => ∃ a ns, vs = [.ref a] ∧ Pl A H a ns ∧ ∀ H', Same H H' → Q (.bl (!decide (ns = []))) H'
theorem ok_bool (T : Tx K mg A) : FnR P w K mg base CX0 1 A.f_Place_bool (sp_bool A) := by
  refine fnr T.F_Place_bool sc_Place_bool (fun _ _ _ _ _ _ us hl => match us, hl with | [_], _ => rfl) (fun vs H Q E h => ?_) (fun cdv A' outer s H vs Q E hr h => ?_)
  · obtain ⟨a, ns, rfl, _⟩ := h; rfl
  · obtain ⟨a, ns, rfl, ⟨g, dx, t, h1, h2⟩, k⟩ := h
    refine ⟨_, pss_one (ps_ret (pe_callTy call_bool1 (by rfl) T.z_bool (by decide +kernel) (pa_cons (pe_cmpR (op_neD hr.units) (pe_fld (pv 0) rfl) (pe_tup pa_nil) (nomark _)) pa_nil))), ⟨_, rfl, a, _, dx, _, _, rfl, h1, T.cl, T.np, lkp t, Nat.zero_le _, fun p hp => ?_⟩⟩
    have s1 := Same.new (o := .tup []) hp
    exact c_neT (ns := ns) (ms := []) g.oks (fun _ h => nomatch h) (SqT.of (s1 _ _ h2)) (SqT.of upd_same) (.inr ⟨_, rfl, k _ s1⟩)
def sp_eq (A : Ad) : Sp := fun vs H Q _ => ∃ a b ns ms, vs = [.ref a, .ref b] ∧ Pl A H a ns ∧ Pl A H b ms ∧ Q (.bl (decide (ns = ms))) H
theorem ok_eq (T : Tx K mg A) : FnR P w K mg base CX0 1 A.f_Place_eq (sp_eq A) := by
  refine fnr T.F_Place_eq sc_Place_eq (fun _ _ _ _ _ _ us hl => match us, hl with | [_, _], _ => rfl) (fun vs H Q E h => ?_) (fun cdv A' outer s H vs Q E hr h => ?_)
  · obtain ⟨a, b, ns, ms, rfl, _⟩ := h; rfl
  · obtain ⟨a, b, ns, ms, rfl, ⟨g, dx, t, h1, h2⟩, ⟨g', dy, u, h3, h4⟩, k⟩ := h
    refine ⟨_, pss_one (ps_ret (pe_and (pe_callB call_isi (by rfl) T.z_isinstance (by decide +kernel) (pa_cons (pv 1) (pa_cons (pe_glob (v := .ref A.c_Place) (by rfl) T.mg_Place rfl) pa_nil)))
      (pe_one (pe_cmpR (op_eqD hr.units) (pe_fld (pv 0) rfl) (pe_fld (pv 1) rfl) (nomark _))))), ?_⟩
    exact ⟨_, rfl, .ref b, .ref A.c_Place, .ref A.c_Place, .ref A.c_Place, true, rfl, .own _, T.tyP h3, kit_self, true, rfl, iteT ⟨_, rfl, a, _, dx, _, _, rfl, h1, T.cl, T.np, lkp t, _, rfl, b, _, dy, _, _, rfl, h3, T.cl, T.np, lkp u, c_eqT g.oks g'.oks (SqT.of h2) (SqT.of h4) k⟩⟩
def sp_read (A : Ad) : Sp := fun vs H Q _ => ∃ ns, vs = [.ref A.c_Place, .str (txt ns)] ∧ Good ns ∧ RetP A H ns Q
theorem ok_read (T : Tx K mg A) : FnR P w K mg base CX0 4 A.f_Place_read (sp_read A) := by
  refine fnr T.F_Place_read sc_Place_read (fun _ _ _ _ _ _ us hl => match us, hl with | [_, _], _ => rfl) (fun vs H Q E h => ?_) (fun cdv A' outer s H vs Q E hr h => ?_)
  · obtain ⟨ns, rfl, _⟩ := h; rfl
  · obtain ⟨ns, rfl, g, k⟩ := h
    refine ⟨_, pss_cons (ps_if (pt_not (pt_val (pe_cl (ok_is_text T) (hr.mono (by decide)) (by rfl) T.mg_is_text T.kp_is_text pass0 (pa_cons (pv 1) pa_nil)))) (pss_one ps_never) pss_nil)
      (pss_cons (ps_set (i := 2) sc_Place_read.nd rfl (.inl rfl) (pe_cl (ok_names_in T) (hr.mono (by decide)) (by rfl) T.mg_names_in T.kp_names_in pass0 (pa_cons (pv 1) pa_nil)))
      (pss_one (ps_ret (pe_mkSL (i := 0) T.mkP (ok_init T) hr rfl (.inl rfl) pass0 (pv 2))))), ?_⟩
    have hl := txt_len g
    refine ⟨_, rfl, .inl ⟨_, rfl, by omega, fun H1 s1 => ⟨_, rfl, iteF' (by rw [isTx_txt g]; rfl) ⟨_, rfl, _, rfl, by omega, fun p H2 hp s2 h2 => ⟨rfl, _, rfl, ?_⟩⟩⟩⟩⟩
    rw [names_txt g.2] at h2
    exact mk_plT g (SqT.of h2) (k.up (s1.trans s2))
end
end NK

namespace NK
open PySem PySem.Spec PyProof.Rows L2 NA TL
theorem com_le : ∀ ns ms : List Str, (com ns ms).length ≤ ns.length ∧ (com ns ms).length ≤ ms.length
  | [], _ => by simp [com]
  | _ :: _, [] => by simp [com]
  | a :: as, b :: bs => by
    have := com_le as bs
    unfold com
    split <;> simp <;> omega
theorem com_take : ∀ ns ms : List Str, ns.take (com ns ms).length = com ns ms
  | [], _ => by simp [com]
  | _ :: _, [] => by simp [com]
  | a :: as, b :: bs => by
    unfold com
    split
    · simp [com_take as bs]
    · simp
theorem com_at : ∀ (ns ms : List Str) (j : Nat), j < (com ns ms).length → ∃ x, ns[j]? = some x ∧ ms[j]? = some x
  | [], _, j, h => by simp [com] at h
  | _ :: _, [], j, h => by simp [com] at h
  | a :: as, b :: bs, j, h => by
    unfold com at h
    split at h
    · rename_i e
      subst e
      cases j with
      | zero => exact ⟨a, rfl, rfl⟩
      | succ j =>
        obtain ⟨x, h1, h2⟩ := com_at as bs j (by simpa using h)
        exact ⟨x, by simpa using h1, by simpa using h2⟩
    · simp at h
theorem com_stop : ∀ (ns ms : List Str) (x y : Str), ns[(com ns ms).length]? = some x → ms[(com ns ms).length]? = some y → x ≠ y
  | [], _, x, y, h, _ => by simp [com] at h
  | _ :: _, [], x, y, _, h => by simp [com] at h
  | a :: as, b :: bs, x, y, h1, h2 => by
    unfold com at h1 h2
    by_cases e : a = b
    · rw [if_pos e] at h1 h2
      exact com_stop as bs x y (by simpa using h1) (by simpa using h2)
    · rw [if_neg e] at h1 h2
      simp at h1 h2
      rw [← h1, ← h2]
      exact e
theorem com_good {ns ms : List Str} (g : Good ns) : Good (com ns ms) := by rw [← com_take]; exact g.take _
section
variable {P : Program} {w : World} {K : PySem.W.Frag} {mg : Str → Option Value} {base : Heap} {A : Ad}
def sp_and (A : Ad) : Sp := fun vs H Q _ => ∃ a b ns ms, vs = [.ref a, .ref b] ∧ Pl A H a ns ∧ Pl A H b ms ∧ RetP A H (com ns ms) Q
theorem ok_and (T : Tx K mg A) : FnR P w K mg base CX0 4 A.f_Place_and (sp_and A) := by
  refine fnr T.F_Place_and sc_Place_and (fun _ _ _ _ _ _ us hl => match us, hl with | [_, _], _ => rfl) (fun vs H Q E h => ?_) (fun cdv A' outer s H vs Q E hr h => ?_)
  · obtain ⟨a, b, ns, ms, rfl, _⟩ := h; rfl
  · obtain ⟨a, b, ns, ms, rfl, ⟨g, dx, t, h1, h2⟩, ⟨g', dy, u, h3, h4⟩, k⟩ := h
    refine ⟨_, pss_cons (ps_if (pt_not (pt_val (pe_callB call_isi (by rfl) T.z_isinstance (by decide +kernel) (pa_cons (pv 1) (pa_cons (pe_glob (v := .ref A.c_Place) (by rfl) T.mg_Place rfl) pa_nil))))) (pss_one ps_never) pss_nil)
      (pss_cons (ps_set (i := 2) sc_Place_and.nd rfl (.inl rfl) pe_int)
      (pss_cons (ps_while PassesOwn.never (PW.pt (pw_and (pt_cmpR op_lt (pv 2) (pe_callB (call_min2 rfl) (by rfl) T.z_min (by decide +kernel) (pa_cons (pe_callB call_len_seq (by rfl) T.z_len PySem.boot_len (pa_cons (pe_fld (pv 0) rfl) pa_nil))
            (pa_cons (pe_callB call_len_seq (by rfl) T.z_len PySem.boot_len (pa_cons (pe_fld (pv 1) rfl) pa_nil)) pa_nil))) (nomark _))
          (pw_and1 (pt_cmpR op_eq (pe_ix ix_tup (pe_fld (pv 0) rfl) (pv 2) (fun _ _ => rfl)) (pe_ix ix_tup (pe_fld (pv 1) rfl) (pv 2) (fun _ _ => rfl)) (nomark _)))))
        (pss_one (ps_aug (i := 2) sc_Place_and.nd rfl (.inl rfl) pe_int ip_add)))
      (pss_cons (ps_set (i := 3) sc_Place_and.nd rfl (.inl rfl) (pe_slice sl_tupA (pe_fld (pv 0) rfl) po_none (po_some (pv 2))))
      (pss_one (ps_ret (pe_mkS T.mkP (ok_init T) hr (by rfl) T.mg_Place pass0 (pv 3))))))), ?_⟩
    refine ⟨_, rfl, .ref b, .ref A.c_Place, .ref A.c_Place, .ref A.c_Place, true, rfl, .own _, T.tyP h3, kit_self, true, rfl, iteF ?_⟩
    have cl := com_le ns ms
    refine ⟨fun m σ H' => ∃ j : Nat, σ = [some (.ref a), some (.ref b), some (.int j), none] ∧ H' = H ∧ j ≤ (com ns ms).length ∧ m = (com ns ms).length - j, ⟨_, 0, rfl, rfl, Nat.zero_le _, rfl⟩, ?_⟩
    rintro m σ H' ⟨j, rfl, rfl, hj, rfl⟩
    refine ⟨_, rfl, _, rfl, a, _, dx, _, _, rfl, h1, T.cl, T.np, lkp t, t, _, rfl, .inr (SqT.of h2), _, rfl, b, _, dy, _, _, rfl, h3, T.cl, T.np, lkp u, u, _, rfl, .inr (SqT.of h4), _, _, rfl, _, _, rfl, rfl, _, rfl, ?_⟩
    have fin : ∀ j : Nat, j = (com ns ms).length → tSeq (tAsg (tSl (rSlA K) (tFld K (tVar 0) "parts") tNoPart (tPart (tVar 2))) (gName 3)) (tRet (tMkS K A.c_Place (sp_init A) E0 (tVar 3))) { nx := fun x H' => Q V.non H', rt := Q } [some (.ref a), some (.ref b), some (.int j), none] H' := by
      rintro j rfl
      refine ⟨_, rfl, a, _, dx, _, _, rfl, h1, T.cl, T.np, lkp t, _, rfl, _, rfl, c_slT (SqT.of h2) (by rw [List.length_map]; exact cl.1) fun r H2 s2 h5 => ⟨_, rfl, ?_⟩⟩
      rw [← List.map_take, com_take] at h5
      exact mk_plT (com_good g) h5 (k.up s2)
    rw [List.length_map, List.length_map]
    by_cases hc : j < (com ns ms).length
    · obtain ⟨x, e1, e2⟩ := com_at ns ms j hc
      refine iteT' (decide_eq_true (by split <;> omega)) ?_
      refine ⟨_, rfl, a, _, dx, _, _, rfl, h1, T.cl, T.np, lkp t, _, rfl, t, _, _, .str x, rfl, rfl, SqT.of h2, atI_nat (by rw [List.getElem?_map, e1] <;> rfl), ?_⟩
      refine ⟨_, rfl, b, _, dy, _, _, rfl, h3, T.cl, T.np, lkp u, _, rfl, u, _, _, .str x, rfl, rfl, SqT.of h4, atI_nat (by rw [List.getElem?_map, e2] <;> rfl), ?_⟩
      refine ⟨rfl, _, rfl, iteT' (by simp) ⟨fun σ2 H2 => ∃ m', m' < _ ∧ _, fun σ2 H2 h => h, ?_⟩⟩
      exact ⟨_, rfl, _, _, rfl, rfl, (com ns ms).length - (j + 1), by omega, j + 1, rfl, rfl, hc, rfl⟩
    · have ej : j = (com ns ms).length := by omega
      by_cases hl : j < ns.length ∧ j < ms.length
      · have e1 : ns[j]? = some ns[j] := List.getElem?_eq_getElem hl.1
        have e2 : ms[j]? = some ms[j] := List.getElem?_eq_getElem hl.2
        refine iteT' (decide_eq_true (by split <;> omega)) ?_
        refine ⟨_, rfl, a, _, dx, _, _, rfl, h1, T.cl, T.np, lkp t, _, rfl, t, _, _, .str ns[j], rfl, rfl, SqT.of h2, atI_nat (by rw [List.getElem?_map, e1] <;> rfl), ?_⟩
        refine ⟨_, rfl, b, _, dy, _, _, rfl, h3, T.cl, T.np, lkp u, _, rfl, u, _, _, .str ms[j], rfl, rfl, SqT.of h4, atI_nat (by rw [List.getElem?_map, e2] <;> rfl), ?_⟩
        refine ⟨rfl, _, rfl, iteF' (decide_eq_false fun z => ?_) (fin j ej)⟩
        have z' : ns[j] = ms[j] := by injection z
        exact com_stop ns ms ns[j] ms[j] (by rw [← ej]; exact e1) (by rw [← ej]; exact e2) z'
      · exact iteF' (decide_eq_false (by split <;> omega)) (iteF (fin j ej))
end
end NK

namespace NK
open PySem PySem.Spec PyProof.Rows L2 NA TL
/-- the law's pen: the script's numbers, how many were drawn (at most b more may be), what is left of a great one -/
def Pen (H : Hp) (pn : Addr) (b : Nat) : Prop := ∃ (l : Addr) (ns : List Int) (at_ rest : Int), H pn = some (.lst [.ref l, .int at_, .int rest]) ∧ H l = some (.lst (ns.map V.int)) ∧ l ≠ pn ∧ ns.length ≤ 63 ∧ 0 ≤ at_ ∧ at_ + b ≤ 1000000
theorem Pen.same {H H' : Hp} {pn : Addr} {b : Nat} (h : Pen H pn b) (e : Same H H') : Pen H' pn b := by
  obtain ⟨l, ns, a, r, h1, h2, h3⟩ := h
  exact ⟨l, ns, a, r, e _ _ h1, e _ _ h2, h3⟩
theorem Pen.less {H : Hp} {pn : Addr} {b c : Nat} (h : Pen H pn b) (hc : c ≤ b) : Pen H pn c := by
  obtain ⟨l, ns, a, r, h1, h2, h3, h4, h5, h6⟩ := h
  exact ⟨l, ns, a, r, h1, h2, h3, h4, h5, by omega⟩
theorem Pen.lst {H : Hp} {pn : Addr} {b : Nat} (h : Pen H pn b) : ∃ xs, H pn = some (.lst xs) := by
  obtain ⟨l, ns, a, r, h1, _⟩ := h
  exact ⟨_, h1⟩
theorem eqvAll_nil : ∀ ns : List Int, PyData.eqvAll (ns.map PyData.int) [] = ns.isEmpty
  | [] => by simp [PyData.eqvAll]
  | _ :: _ => by simp [PyData.eqvAll]
theorem dp_ints {K : PySem.W.Frag} {H : Hp} : ∀ ns : List Int, DpAll K H (ns.map V.int) (ns.map PyData.int)
  | [] => .nil
  | a :: as => .cons (.int a) (dp_ints as)
theorem canLay_ints : ∀ ns : List Int, PyData.canLayAll0 (ns.map PyData.int) = true
  | [] => by simp [PyData.canLayAll0]
  | a :: as => by simp only [List.map_cons, PyData.canLayAll0, PyData.canLay0, canLay_ints as, Bool.and_self]
theorem depth_ints : ∀ ns : List Int, PyData.depthAll (ns.map PyData.int) ≤ 1
  | [] => by simp [PyData.depthAll]
  | a :: as => by
    have := depth_ints as
    simp only [List.map_cons, PyData.depthAll, PyData.depth]
    omega
theorem shaped_ints (ns : List Int) : SeqAt.shaped (.list (ns.map PyData.int)) = true := by
  unfold SeqAt.shaped
  have := depth_ints ns
  rw [Bool.and_eq_true]
  exact ⟨by rw [PyData.canLay0]; exact canLay_ints ns, decide_eq_true (by rw [PyData.depth]; omega)⟩
/-- xs != [] -/
theorem c_neL {K : PySem.W.Frag} {H : Hp} {l q : Addr} {ns : List Int} {Q : VK} (h : SqL K H l (ns.map V.int)) (hq : SqL K H q []) (k : Q (.bl (!ns.isEmpty)) H) : rNeD K (.ref l) (.ref q) H Q :=
  ⟨_, .list (([] : List Int).map PyData.int), .lst h (dp_ints ns), .lst hq .nil, shaped_ints ns, shaped_ints [], by
    have e : PyData.eqv (.list (ns.map PyData.int)) (.list (([] : List Int).map PyData.int)) = ns.isEmpty := by rw [PyData.eqv]; exact eqvAll_nil ns
    rw [e]; exact k⟩
section
variable {P : Program} {w : World} {K : PySem.W.Frag} {mg : Str → Option Value} {base : Heap} {A : Ad}
def sp_pen (K : PySem.W.Frag) : Sp := fun vs H Q _ => ∃ (a : Addr) (ns : List Int), vs = [.ref a] ∧ SqL K H a (ns.map V.int) ∧ ∀ pn H', H pn = none → Same H H' → Pen H' pn 1000000 → Q (.ref pn) H'
theorem ok_pen (T : Tx K mg A) : FnR P w K mg base CX0 1 A.f_law_pen (sp_pen K) := by
  refine fnr T.F_law_pen sc_law_pen (fun _ _ _ _ _ _ us hl => match us, hl with | [_], _ => rfl) (fun vs H Q E h => ?_) (fun cdv A' outer s H vs Q E hr h => ?_)
  · obtain ⟨a, ns, rfl, _⟩ := h; rfl
  · obtain ⟨a, ns, rfl, hS, k⟩ := h
    refine ⟨_, pss_one (ps_ret (pe_lst (pa_cons (pe_callTy call_list_of (by rfl) T.z_list (by decide +kernel) (pa_cons (pe_slice sl_list (pv 0) po_none (po_some pe_int)) pa_nil)) (pa_cons pe_int (pa_cons pe_int pa_nil))))), ?_⟩
    refine ⟨_, rfl, _, rfl, a, _, rfl, hS, fun p hp => ?_⟩
    refine ⟨p, _, rfl, .inl (SqL.of upd_same), fun l hl => ⟨sz (by show 3 ≤ 1000000; omega), fun pn hpn => ?_⟩⟩
    have e : cutV (ns.map V.int) none (some 63) = (ns.take 63).map V.int := by
      unfold cutV
      rw [HT.sIx_none, List.drop_zero, Nat.sub_zero, show (63 : Int) = ((63 : Nat) : Int) from rfl, HT.sIx_nat, List.map_take]
      by_cases h : 63 ≤ (ns.map V.int).length
      · rw [Nat.min_eq_left h]
      · rw [Nat.min_eq_right (by omega), List.take_of_length_le (Nat.le_refl _), List.take_of_length_le (by omega)]
    rw [e] at hl hpn ⊢
    have s1 := (Same.new (o := .lst ((ns.take 63).map V.int)) hp).trans (Same.new (o := .lst ((ns.take 63).map V.int)) hl)
    have hll : l ≠ pn := ne_of_none upd_same hpn
    refine k pn _ (s1.free hpn) (s1.trans (Same.new hpn)) ⟨l, ns.take 63, 0, 0, upd_same, ?_, hll, ?_, by omega, by omega⟩
    · rw [upd_ne hll, upd_same]
    · rw [List.length_take]; omega
def sp_draw : Sp := fun vs H Q _ => ∃ (pn : Addr) (m : Int) (b : Nat), vs = [.ref pn, .int m] ∧ Pen H pn (b + 1) ∧ 1 ≤ m ∧ m ≤ 100000 ∧ ∀ (d : Nat) H', (d : Int) < m → Sam pn H H' → Pen H' pn b → Q (.int d) H'
theorem pow_bd1 {x a c1 c2 : Int} (h1 : 0 ≤ a) (h2 : a ≤ 1000000) (hx : 0 ≤ x) (hx2 : x < 2147483648) (h3 : 0 ≤ c1) (h4 : c1 ≤ 100000) (h5 : 0 ≤ c2) (h6 : c2 ≤ 100000) : (x + c1 * a + c2).natAbs < 2 ^ 64 := by
  have m1 : c1 * a ≤ 100000 * 1000000 := Int.mul_le_mul h4 h2 h1 (by omega)
  have m0 : 0 ≤ c1 * a := Int.mul_nonneg h3 h1
  omega
theorem pow_bd2 {st a c1 c2 c3 : Int} (hs : 0 ≤ st) (hs2 : st < 2147483648) (h1 : 0 ≤ a) (h2 : a ≤ 1000000) (h3 : 0 ≤ c1) (h4 : c1 ≤ 100000) (h5 : 0 ≤ c2) (h6 : c2 ≤ 100000) (h7 : 0 ≤ c3) (h8 : c3 ≤ 100000) :
    (st * (2 * a + c1) + c2 * a * a + c3).natAbs < 2 ^ 64 := by
  have m1 : st * (2 * a + c1) ≤ 2147483648 * 2100000 := Int.mul_le_mul (by omega) (by omega) (by omega) (by omega)
  have m2 : 0 ≤ st * (2 * a + c1) := Int.mul_nonneg hs (by omega)
  have m3 : c2 * a ≤ 100000 * 1000000 := Int.mul_le_mul h6 h2 h1 (by omega)
  have m4 : 0 ≤ c2 * a := Int.mul_nonneg h5 h1
  have m5 : c2 * a * a ≤ 100000 * 1000000 * 1000000 := Int.mul_le_mul m3 h2 h1 (by omega)
  have m6 : 0 ≤ c2 * a * a := Int.mul_nonneg m4 h1
  omega
theorem ok_draw (T : Tx K mg A) : FnR P w K mg base CX0 1 A.f_law_draw sp_draw := by
  refine fnr T.F_law_draw sc_law_draw (fun _ _ _ _ _ _ us hl => match us, hl with | [_, _], _ => rfl) (fun vs H Q E h => ?_) (fun cdv A' outer s H vs Q E hr h => ?_)
  · obtain ⟨pn, m, b, rfl, _⟩ := h; rfl
  · obtain ⟨pn, m, b, rfl, ⟨l, ns, a, r, hp, hL, hne, hn, ha, hb⟩, hm, hm2, k⟩ := h
    refine ⟨_, pss_cons (ps_if (pt_cmpR op_gt (pe_ix ix_list (pv 0) pe_int (fun _ _ => rfl)) pe_int (nomark _))
        (pss_cons (ps_set (i := 2) sc_law_draw.nd rfl (.inl rfl) (pe_op op_mod (pe_callTy call_int1 (by rfl) T.z_int (by decide +kernel) (pa_cons (pe_ix ix_list (pv 0) pe_int (fun _ _ => rfl)) pa_nil)) (pv 1)))
        (pss_cons (ps_asg (pe_op op_fdiv (pe_callTy call_int1 (by rfl) T.z_int (by decide +kernel) (pa_cons (pe_ix ix_list (pv 0) pe_int (fun _ _ => rfl)) pa_nil)) (pv 1)) (pg_sub (pv 0) pe_int set_list))
        (pss_one (ps_ret (pv 2))))) pss_nil)
      (pss_cons (ps_set (i := 3) sc_law_draw.nd rfl (.inl rfl) (pe_ix ix_list (pv 0) pe_int (fun _ _ => rfl)))
      (pss_cons (ps_asg (pe_op op_add (pv 3) pe_int) (pg_sub (pv 0) pe_int set_list))
      (pss_cons (ps_set (i := 4) sc_law_draw.nd rfl (.inl rfl) (pe_op op_add (pe_op op_mul pe_int (pv 3)) pe_int))
      (pss_jn (ps_if (pt_cmpR (op_neD hr.units) (pe_ix ix_list (pv 0) pe_int (fun _ _ => rfl)) (pe_lst pa_nil) (nomark _))
        (pss_one (ps_set (i := 4) sc_law_draw.nd rfl (.inl rfl) (pe_ix ix_list (pe_ix ix_list (pv 0) pe_int (fun _ _ => rfl)) (pe_op op_mod (pe_callTy call_int1 (by rfl) T.z_int (by decide +kernel) (pa_cons (pv 3) pa_nil))
          (pe_callB call_len_seq (by rfl) T.z_len PySem.boot_len (pa_cons (pe_ix ix_list (pv 0) pe_int (fun _ _ => rfl)) pa_nil))) (fun _ _ => rfl)))) pss_nil)
      (pss_jn (ps_if (PW.pt (pw_and (pt_cmpR op_lt (pv 3) (pe_callB call_len_seq (by rfl) T.z_len PySem.boot_len (pa_cons (pe_ix ix_list (pv 0) pe_int (fun _ _ => rfl)) pa_nil)) (nomark _))
          (pw_and1 (pt_cmpR op_ge (pe_callB call_abs (by rfl) T.z_abs (by decide +kernel) (pa_cons (pv 4) pa_nil)) (pe_op op_pow pe_int pe_int) (nomark _)))))
        (pss_cons (ps_set (i := 5) sc_law_draw.nd rfl (.inl rfl) (pe_op op_add (pe_op op_mul pe_int (pe_op op_sub (pe_callB call_abs (by rfl) T.z_abs (by decide +kernel) (pa_cons (pv 4) pa_nil)) (pe_op op_pow pe_int pe_int)))
          (pe_callTy call_int1 (by rfl) T.z_int (by decide +kernel) (pa_cons (pe_cmpR op_lt (pv 4) pe_int (nomark _)) pa_nil))))
        (pss_cons (ps_asg (pe_op op_fdiv (pe_callTy call_int1 (by rfl) T.z_int (by decide +kernel) (pa_cons (pv 5) pa_nil)) (pv 1)) (pg_sub (pv 0) pe_int set_list))
        (pss_one (ps_ret (pe_op op_mod (pe_callTy call_int1 (by rfl) T.z_int (by decide +kernel) (pa_cons (pv 5) pa_nil)) (pv 1)))))) pss_nil)
      (pss_cons (ps_set (i := 6) sc_law_draw.nd rfl (.inl rfl) (pe_op op_mod (pe_callTy call_int1 (by rfl) T.z_int (by decide +kernel) (pa_cons (pe_op op_pow (pe_op op_add (pe_op op_add (pe_op op_mod (pe_callTy call_int1 (by rfl) T.z_int (by decide +kernel) (pa_cons (pv 4) pa_nil)) pe_int) (pe_op op_mul pe_int (pv 3))) pe_int) pe_int) pa_nil)) pe_int))
      (pss_cons (ps_set (i := 6) sc_law_draw.nd rfl (.inl rfl) (pe_op op_mod (pe_callTy call_int1 (by rfl) T.z_int (by decide +kernel) (pa_cons (pe_op op_pow (pe_op op_add (pe_op op_add (pe_op op_mul (pv 6) (pe_op op_add (pe_op op_mul pe_int (pv 3)) pe_int)) (pe_op op_mul (pe_op op_mul pe_int (pv 3)) (pv 3))) pe_int) pe_int) pa_nil)) pe_int))
      (pss_one (ps_ret (pe_op op_mod (pe_callTy call_int1 (by rfl) T.z_int (by decide +kernel) (pa_cons (pe_op op_fdiv (pv 6) pe_int) pa_nil)) (pv 1))))))))))), ?_⟩
    have i0 : ∀ x y z : V, atI [x, y, z] 0 = some x := fun _ _ _ => rfl
    have i1 : ∀ x y z : V, atI [x, y, z] 1 = some y := fun _ _ _ => rfl
    have i2 : ∀ x y z : V, atI [x, y, z] 2 = some z := fun _ _ _ => rfl
    have res : ∀ (X : Int) H', Sam pn H H' → Pen H' pn b → Q (.int (X % m)) H' := fun X H' e1 e2 => by
      have h0 := Int.emod_nonneg X (by omega : m ≠ 0)
      have h1 := Int.emod_lt_of_pos X (by omega : 0 < m)
      have := k (X % m).toNat H' (by omega) e1 e2
      rw [Int.toNat_of_nonneg h0] at this
      exact this
    have hm0 : 0 < m := by omega
    have hmd : CDiv 0 m := ⟨hm0, by omega⟩
    refine ⟨_, rfl, pn, _, _, _, rfl, rfl, SqL.of hp, i2 _ _ _, _, _, rfl, rfl, _, rfl, ite2 (fun _ => ?_) (fun _ => ?_)⟩
    · refine ⟨_, rfl, pn, _, _, _, rfl, rfl, SqL.of hp, i2 _ _ _, .inl ⟨_, rfl, _, rfl, _, _, rfl, rfl, hm0, ?_⟩⟩
      refine ⟨_, rfl, pn, _, _, _, rfl, rfl, SqL.of hp, i2 _ _ _, .inl ⟨_, rfl, _, rfl, _, _, rfl, rfl, hmd, ?_⟩⟩
      refine ⟨_, rfl, pn, _, _, 2, rfl, rfl, hp, rfl, _, rfl, res _ _ (Sam.upd (Sam.refl H)) ?_⟩
      exact ⟨l, ns, a, _, by rw [upd_same]; rfl, by rw [upd_ne hne]; exact hL, hne, hn, ha, by omega⟩
    · refine ⟨_, rfl, pn, _, _, _, rfl, rfl, SqL.of hp, i1 _ _ _, ?_⟩
      refine ⟨_, rfl, _, _, rfl, rfl, _, rfl, pn, _, _, 1, rfl, rfl, hp, rfl, ?_⟩
      have hp1 : upd H pn (.lst ([V.ref l, V.int a, V.int r].set 1 (.int (a + 1)))) pn = some (.lst [V.ref l, V.int (a + 1), V.int r]) := by rw [upd_same]; rfl
      have hL1 : upd H pn (.lst ([V.ref l, V.int a, V.int r].set 1 (.int (a + 1)))) l = some (.lst (ns.map V.int)) := by rw [upd_ne hne]; exact hL
      have e1 : Sam pn H (upd H pn (.lst ([V.ref l, V.int a, V.int r].set 1 (.int (a + 1))))) := Sam.upd (Sam.refl H)
      generalize upd H pn (.lst ([V.ref l, V.int a, V.int r].set 1 (.int (a + 1)))) = H1 at hp1 hL1 e1 ⊢
      refine ⟨_, rfl, _, _, rfl, rfl, .inl ⟨by decide, by decide⟩, _, _, rfl, rfl, ?_⟩
      refine ⟨fun σ' H' => ∃ c : Int, σ' = [some (.ref pn), some (.int m), none, some (.int a), some (.int c), none, none] ∧ Sam pn H H' ∧ H' pn = some (.lst [V.ref l, V.int (a + 1), V.int r]) ∧ H' l = some (.lst (ns.map V.int)),
        ⟨_, rfl, pn, _, _, _, rfl, rfl, SqL.of hp1, i0 _ _ _, Nat.zero_le _, fun q hq => ?_⟩, ?_⟩
      · have s1 := Same.new (o := .lst []) hq
        have hp2 := s1 _ _ hp1
        have hL2 := s1 _ _ hL1
        have e2 : Sam pn H (upd H1 q (.lst [])) := e1.trans (Sam.of s1)
        refine c_neL (SqL.of hL2) (SqL.of upd_same) ⟨_, rfl, ?_⟩
        cases hns : ns.isEmpty with
        | true => exact iteF ⟨_, rfl, e2, hp2, hL2⟩
        | false =>
          have hlen : 0 < ns.length := by
            rcases ns with _ | ⟨x, r⟩
            · cases hns
            · simp
          have h0 := Int.emod_nonneg a (by omega : (ns.length : Int) ≠ 0)
          have h1 := Int.emod_lt_of_pos a (by omega : 0 < (ns.length : Int))
          have hj : (a % (ns.length : Int)).toNat < ns.length := by omega
          refine iteT ⟨_, rfl, pn, _, _, _, rfl, rfl, SqL.of hp2, i0 _ _ _, _, rfl, .inl ⟨_, rfl, ?_⟩⟩
          refine ⟨_, rfl, pn, _, _, _, rfl, rfl, SqL.of hp2, i0 _ _ _, l, _, rfl, .inl (SqL.of hL2), _, _, rfl, rfl, by rw [List.length_map]; omega, ?_⟩
          refine ⟨l, _, _, .int ns[(a % (ns.length : Int)).toNat], rfl, rfl, SqL.of hL2, ?_, _, rfl, e2, hp2, hL2⟩
          refine at_of (j := (a % (ns.length : Int)).toNat) ?_ ?_
          · rw [List.length_map]; omega
          · rw [List.getElem?_map, List.getElem?_eq_getElem hj] <;> rfl
      · rintro σ' H' ⟨c, rfl, e2, hp2, hL2⟩
        have pn2 : Pen H' pn b := ⟨l, ns, a + 1, r, hp2, hL2, hne, hn, by omega, by omega⟩
        have p18 : CPow 10 18 := ⟨by decide, by decide, by decide⟩
        refine ⟨fun σ' H2 => σ' = [some (.ref pn), some (.int m), none, some (.int a), some (.int c), none, none] ∧ H2 = H', ?_, ?_⟩
        · refine ⟨_, rfl, _, rfl, pn, _, _, _, rfl, rfl, SqL.of hp2, i0 _ _ _, l, _, rfl, .inl (SqL.of hL2), _, _, rfl, rfl, _, rfl, ite2 (fun _ => ?_) (fun _ => iteF ⟨rfl, rfl⟩)⟩
          refine ⟨_, rfl, _, rfl, _, _, rfl, rfl, p18, _, _, rfl, rfl, _, rfl, ite2 (fun _ => ?_) (fun _ => ⟨rfl, rfl⟩)⟩
          refine ⟨_, rfl, _, rfl, _, _, rfl, rfl, p18, _, _, rfl, rfl, _, _, rfl, rfl, .inl ⟨by decide, by decide⟩, _, rfl, _, _, rfl, rfl, .inr ⟨_, rfl, _, _, rfl, rfl, ?_⟩⟩
          refine ⟨_, rfl, .inl ⟨_, rfl, _, rfl, _, _, rfl, rfl, hmd, ?_⟩⟩
          refine ⟨_, rfl, pn, _, _, 2, rfl, rfl, hp2, rfl, _, rfl, .inl ⟨_, rfl, _, rfl, _, _, rfl, rfl, hm0, res _ _ (Sam.upd e2) ?_⟩⟩
          exact ⟨l, ns, a + 1, _, by rw [upd_same]; rfl, by rw [upd_ne hne]; exact hL2, hne, hn, by omega, by omega⟩
        · rintro σ' H2 ⟨rfl, rfl⟩
          have md : ∀ (X : Int) (k : Int), 0 < k → k < 2147483648 → 0 ≤ X % k ∧ X % k < 2147483648 := fun X k h1 h2 => ⟨Int.emod_nonneg X (by omega), by have := Int.emod_lt_of_pos X h1; omega⟩
          have mdb : ∀ (X : Int) (k : Int), 0 < k → k < 2147483648 → -(2 ^ 64) < X % k ∧ X % k < 2 ^ 64 := fun X k h1 h2 => by have := md X k h1 h2; omega
          refine ⟨_, rfl, .inl ⟨_, rfl, _, _, rfl, rfl, (by dsimp only; decide), _, rfl, _, _, rfl, rfl, .inl ⟨by decide, by decide⟩, _, _, rfl, rfl, _, _, rfl, rfl, _, _, rfl, rfl,
            ⟨by decide, by decide, pow_bd1 ha (by omega) (md _ _ (by decide) (by decide)).1 (md _ _ (by decide) (by decide)).2 (by decide) (by decide) (by decide) (by decide)⟩, .inl ⟨_, rfl, _, _, rfl, rfl, (by dsimp only; decide), ?_⟩⟩⟩
          refine ⟨_, rfl, _, rfl, _, _, rfl, rfl, .inl ⟨by decide, by decide⟩, _, _, rfl, rfl, _, _, rfl, rfl, .inl (mdb _ _ (by decide) (by decide)), _, rfl, _, _, rfl, rfl, .inl ⟨by decide, by decide⟩, _, rfl, _, _, rfl, rfl, .inr ⟨by omega, by omega⟩, _, _, rfl, rfl, _, _, rfl, rfl, _, _, rfl, rfl,
            ⟨by decide, by decide, pow_bd2 (md _ _ (by decide) (by decide)).1 (md _ _ (by decide) (by decide)).2 ha (by omega) (by decide) (by decide) (by decide) (by decide) (by decide) (by decide)⟩, .inl ⟨_, rfl, _, _, rfl, rfl, (by dsimp only; decide), ?_⟩⟩
          exact ⟨_, rfl, _, _, rfl, rfl, ⟨by decide, by decide⟩, .inl ⟨_, rfl, _, rfl, _, _, rfl, rfl, hm0, res _ _ e2 pn2⟩⟩
def sp_pick : Sp := fun vs H Q _ => ∃ (pn l : Addr) (xs : List V) (b : Nat), vs = [.ref pn, .ref l] ∧ Pen H pn (b + 1) ∧ H l = some (.lst xs) ∧ l ≠ pn ∧ 1 ≤ xs.length ∧ xs.length ≤ 100000 ∧ ∀ v H', v ∈ xs → Sam pn H H' → Pen H' pn b → Q v H'
theorem ok_pick (T : Tx K mg A) : FnR P w K mg base CX0 2 A.f_law_pick sp_pick := by
  refine fnr T.F_law_pick sc_law_pick (fun _ _ _ _ _ _ us hl => match us, hl with | [_, _], _ => rfl) (fun vs H Q E h => ?_) (fun cdv A' outer s H vs Q E hr h => ?_)
  · obtain ⟨pn, l, xs, b, rfl, _⟩ := h; rfl
  · obtain ⟨pn, l, xs, b, rfl, hp, hl, hne, h1, h2, k⟩ := h
    refine ⟨_, pss_one (ps_ret (pe_ix ix_list (pv 1) (pe_cl (ok_draw T) hr (by rfl) T.mg_law_draw T.kp_law_draw pass0 (pa_cons (pv 0) (pa_cons (pe_callB call_len_seq (by rfl) T.z_len PySem.boot_len (pa_cons (pv 1) pa_nil)) pa_nil))) (fun _ _ => rfl))), ?_⟩
    refine ⟨_, rfl, _, rfl, _, rfl, l, _, rfl, .inl (SqL.of hl), pn, _, b, rfl, hp, by omega, by omega, fun d H' hd e1 p1 => ?_⟩
    have hd' : d < xs.length := by omega
    refine ⟨l, xs, _, xs[d], rfl, rfl, SqL.of (e1 _ _ hne hl), atI_nat (List.getElem?_eq_getElem hd'), k _ H' (List.getElem_mem hd') e1 p1⟩
end
end NK

namespace NK
open PySem PySem.Spec PyProof.Rows L2 NA TL
section
variable {P : Program} {w : World} {K : PySem.W.Frag} {mg : Str → Option Value} {base : Heap} {A : Ad}
theorem Tx.addS (T : Tx K mg A) : Spc K A.c_Place "__add__" A.f_Place_add := ⟨T.at_Place_add, T.fn_Place_add⟩
theorem Tx.addB (T : Tx K mg A) : BinT K A.c_Place "add" "str" := ⟨⟨_, T.ra_Place, .inl rfl⟩, ⟨_, T.ta⟩, ⟨_, T.tra⟩, T.su_Place⟩
theorem Tx.andS (T : Tx K mg A) : Spc K A.c_Place "__and__" A.f_Place_and := ⟨T.at_Place_and, T.fn_Place_and⟩
theorem Tx.inS (T : Tx K mg A) : Spc K A.c_Place "__contains__" A.f_Place_contains := ⟨T.at_Place_contains, T.fn_Place_contains⟩
theorem Tx.lenS (T : Tx K mg A) : Spc K A.c_Place "__len__" A.f_Place_len := ⟨T.at_Place_len, T.fn_Place_len⟩
theorem Tx.boolS (T : Tx K mg A) : Spc K A.c_Place "__bool__" A.f_Place_bool := ⟨T.at_Place_bool, T.fn_Place_bool⟩
theorem Tx.eqS (T : Tx K mg A) : Spc K A.c_Place "__eq__" A.f_Place_eq := ⟨T.at_Place_eq, T.fn_Place_eq⟩
theorem Tx.neS (T : Tx K mg A) : NeC K A.c_Place := ⟨T.ob_Place, T.ne_Place⟩
theorem Tx.upP (T : Tx K mg A) : PropOf K A.c_Place "up" A.p_Place_up A.f_Place_up := ⟨T.at_Place_up, T.ge_Place_up, T.tk_Place_up, T.rc_Place_up⟩
theorem Tx.textP (T : Tx K mg A) : PropOf K A.c_Place "text" A.p_Place_text A.f_Place_text := ⟨T.at_Place_text, T.ge_Place_text, T.tk_Place_text, T.rc_Place_text⟩
theorem Tx.namesP (T : Tx K mg A) : PropOf K A.c_Place "names" A.p_Place_names A.f_Place_names := ⟨T.at_Place_names, T.ge_Place_names, T.tk_Place_names, T.rc_Place_names⟩
theorem Pl.ins {H : Hp} {a : Addr} {ns : List Str} (h : Pl A H a ns) : ∃ dx fs, H a = some (.ins A.c_Place dx fs) := by
  obtain ⟨_, dx, t, h1, _⟩ := h
  exact ⟨dx, _, h1⟩
theorem Pl.good {H : Hp} {a : Addr} {ns : List Str} (h : Pl A H a ns) : Good ns := h.1
/-! the operators, at the level of values -/
theorem v_add {H : Hp} {a : Addr} {ns : List Str} {n : Str} {Q : VK} {E : XK} (h : Pl A H a ns) (hn : isNm n = true) (hl : ns.length < 8) (k : RetP A H (ns ++ [n]) Q) : rBinS A.c_Place (sp_add A) E (.ref a) (.str n) H Q := by
  obtain ⟨dx, fs, e⟩ := h.ins
  exact ⟨a, dx, fs, n, rfl, rfl, e, a, ns, n, rfl, h, hn, hl, k⟩
theorem v_and {H : Hp} {a b : Addr} {ns ms : List Str} {Q : VK} {E : XK} (h : Pl A H a ns) (h' : Pl A H b ms) (k : RetP A H (com ns ms) Q) : rBinC A.c_Place (sp_and A) E (.ref a) (.ref b) H Q := by
  obtain ⟨dx, fs, e⟩ := h.ins
  obtain ⟨dy, gs, e'⟩ := h'.ins
  exact ⟨a, dx, fs, b, dy, gs, rfl, rfl, e, e', a, b, ns, ms, rfl, h, h', k⟩
theorem v_in {H : Hp} {a b : Addr} {ns ms : List Str} {Q : VK} {E : XK} {neg : Bool} (h : Pl A H a ns) (h' : Pl A H b ms) (k : ∀ H', Same H H' → Q (.bl (if neg then !decide (ms.take ns.length = ns) else decide (ms.take ns.length = ns))) H') : rInC A.c_Place (sp_contains A) E neg (.ref b) (.ref a) H Q := by
  obtain ⟨dx, fs, e⟩ := h.ins
  exact ⟨a, dx, fs, rfl, e, a, b, ns, ms, rfl, h, h', fun H' e => ⟨_, rfl, k H' e⟩⟩
theorem v_eq {H : Hp} {a b : Addr} {ns ms : List Str} {Q : VK} {E : XK} {neg : Bool} (h : Pl A H a ns) (h' : Pl A H b ms) (k : Q (.bl (if neg then !decide (ns = ms) else decide (ns = ms))) H) : rEqC A.c_Place (sp_eq A) E neg (.ref a) (.ref b) H Q := by
  obtain ⟨dx, fs, e⟩ := h.ins
  obtain ⟨dy, gs, e'⟩ := h'.ins
  exact ⟨a, dx, fs, b, dy, gs, rfl, rfl, e, e', a, b, ns, ms, rfl, h, h', _, rfl, k⟩
theorem v_len {H : Hp} {a : Addr} {ns : List Str} {Q : VK} {E : XK} (h : Pl A H a ns) (k : Q (.int ns.length) H) : rLenC A.c_Place (sp_len A) E [.ref a] H Q := by
  obtain ⟨dx, fs, e⟩ := h.ins
  have := h.good.1
  exact ⟨a, dx, fs, rfl, e, a, ns, rfl, h, _, rfl, ⟨by omega, by omega⟩, k⟩
theorem v_mk0 {H : Hp} {Q : VK} {E : XK} {σ : L2.St} (k : RetP A H [] Q) : StX.tMakeR A.c_Place (sp_init A) E tNil σ H Q := mk_pl (ns := []) good_nil k
def sp_place (A : Ad) : Sp := fun vs H Q _ => ∃ (pn l : Addr) (ps : List Str) (b : Nat), vs = [.ref pn, .ref l] ∧ Pen H pn (b + 9) ∧ H l = some (.lst (ps.map V.str)) ∧ l ≠ pn ∧ 1 ≤ ps.length ∧ ps.length ≤ 1000 ∧ (∀ n ∈ ps, isNm n = true) ∧
  ∀ x ns H', Sam pn H H' → Pen H' pn b → Pl A H' x ns → (∀ n ∈ ns, n ∈ ps) → Q (.ref x) H'
theorem ok_place (T : Tx K mg A) : FnR P w K mg base CX0 5 A.f_law_place (sp_place A) := by
  refine fnr T.F_law_place sc_law_place (fun _ _ _ _ _ _ us hl => match us, hl with | [_, _], _ => rfl) (fun vs H Q E h => ?_) (fun cdv A' outer s H vs Q E hr h => ?_)
  · obtain ⟨pn, l, ps, b, rfl, _⟩ := h; rfl
  · obtain ⟨pn, l, ps, b, rfl, hp, hl, hne, h1, h2, hps, k⟩ := h
    refine ⟨_, pss_cons (ps_set (i := 2) sc_law_place.nd rfl (.inl rfl) (pe_mk0 T.mkP (ok_init T) (hr.mono (by decide)) (by rfl) T.mg_Place pass0))
      (pss_cons (ps_for PassesOwn.never rfl (pi_range1 (by rfl) T.z_range (pa_cons (pe_cl (ok_pick T) (hr.mono (by decide)) (by rfl) T.mg_law_pick T.kp_law_pick pass0 (pa_cons (pv 0) (pa_cons (pe_lst (pa_cons pe_int (pa_cons pe_int (pa_cons pe_int (pa_cons pe_int (pa_cons pe_int (pa_cons pe_int pa_nil))))))) pa_nil))) pa_nil)) (pg_name (i := 3) sc_law_place.nd rfl (.inl rfl))
        (pss_one (ps_set (i := 2) sc_law_place.nd rfl (.inl rfl) (pe_op (op_binS T.addS T.addB T.sf_Place (ok_add T) hr pass0) (pv 2) (pe_cl (ok_pick T) (hr.mono (by decide)) (by rfl) T.mg_law_pick T.kp_law_pick pass0 (pa_cons (pv 0) (pa_cons (pv 1) pa_nil)))))))
      (pss_one (ps_ret (pv 2)))), ?_⟩
    refine q_set (v_mk0 fun x H1 hx s1 p1 => ?_)
    have pen1 := hp.same s1
    refine ⟨_, rfl, sz (by show 6 ≤ 1000000; omega), fun q hq => ?_⟩
    have s2 := Same.new (o := .lst [V.int 0, V.int 1, V.int 2, V.int 3, V.int 5, V.int 8]) hq
    have pen2 := pen1.same s2
    obtain ⟨xs, hpl⟩ := pen2.lst
    have nq : q ≠ pn := by
      obtain ⟨ys, e⟩ := pen1.lst
      exact (ne_of_none e hq).symm
    refine ⟨pn, q, _, b + 8, rfl, pen2, upd_same, nq, by show 1 ≤ 6; omega, by show 6 ≤ 100000; omega, fun v H3 hv e3 pen3 => ?_⟩
    obtain ⟨n, rfl, hn⟩ : ∃ n : Nat, v = .int (n : Int) ∧ n ≤ 8 := by
      simp only [List.mem_cons, List.not_mem_nil, or_false] at hv
      rcases hv with rfl | rfl | rfl | rfl | rfl | rfl
      · exact ⟨0, rfl, by omega⟩
      · exact ⟨1, rfl, by omega⟩
      · exact ⟨2, rfl, by omega⟩
      · exact ⟨3, rfl, by omega⟩
      · exact ⟨5, rfl, by omega⟩
      · exact ⟨8, rfl, by omega⟩
    have e0 : Sam pn H H3 := (Sam.of (s1.trans s2)).trans e3
    refine ⟨_, rfl, by omega, by omega, for_range (lo := 0) (n := (n : Int).toNat) (fun i σ H' => ∃ x ns sv, σ = [some (.ref pn), some (.ref l), some (.ref x), sv] ∧ Sam pn H H' ∧ Pen H' pn (b + (8 - i)) ∧ Pl A H' x ns ∧ ns.length = i ∧ (∀ m ∈ ns, m ∈ ps))
      ⟨x, [], none, rfl, e0, pen3, (p1.same s2).sam hpl e3, rfl, fun _ h => nomatch h⟩ ?_ ?_⟩
    · rintro i σ H' hi ⟨x, ns, sv, rfl, e1, pn1, p1, hlen, hsub⟩
      have hi8 : i < 8 := by omega
      obtain ⟨ys, hpl1⟩ := pn1.lst
      refine ⟨_, rfl, _, rfl, _, rfl, pn, l, _, b + (8 - (i + 1)), rfl, by rw [show b + (8 - (i + 1)) + 1 = b + (8 - i) by omega]; exact pn1, e1 _ _ hne hl, hne, by rw [List.length_map]; exact h1, by rw [List.length_map]; omega, fun v H2 hv e2 pn2 => ?_⟩
      obtain ⟨m, hm, rfl⟩ := List.mem_map.mp hv
      refine v_add (p1.sam hpl1 e2) (hps m hm) (by omega) fun y H4 hy s4 p4 => ?_
      refine ⟨y, ns ++ [m], _, rfl, (e1.trans e2).trans (Sam.of s4), pn2.same s4, p4, by rw [List.length_append, List.length_singleton, hlen], fun z hz => ?_⟩
      rcases List.mem_append.mp hz with h | h
      · exact hsub z h
      · rw [List.mem_singleton.mp h]; exact hm
    · rintro σ H' ⟨x, ns, sv, rfl, e1, pn1, p1, hlen, hsub⟩
      exact ⟨_, rfl, k x ns H' e1 (pn1.less (by omega)) p1 hsub⟩
/-- the way to a place -/
def Way (A : Ad) (H : Hp) (l : Addr) (ns : List Str) : Prop := ∃ as : List Addr, H l = some (.lst (as.map V.ref)) ∧ as.length = ns.length + 1 ∧ ∀ i x, as[i]? = some x → Pl A H x (ns.take i)
def sp_way (A : Ad) : Sp := fun vs H Q _ => ∃ a ns, vs = [.ref a] ∧ Pl A H a ns ∧ ∀ l H', H l = none → Same H H' → Way A H' l ns → Q (.ref l) H'
theorem ok_way (T : Tx K mg A) : FnR P w K mg base CX0 6 A.f_law_way (sp_way A) := by
  refine fnr T.F_law_way sc_law_way (fun _ _ _ _ _ _ us hl => match us, hl with | [_], _ => rfl) (fun vs H Q E h => ?_) (fun cdv A' outer s H vs Q E hr h => ?_)
  · obtain ⟨a, ns, rfl, _⟩ := h; rfl
  · obtain ⟨a, ns, rfl, pa, k⟩ := h
    refine ⟨_, pss_cons (ps_set (i := 1) sc_law_way.nd rfl (.inl rfl) (pe_lst (pa_cons (pv 0) pa_nil)))
      (pss_cons (ps_while PassesOwn.never (PW.pt (pw_and (pt_truthR (pe_ix ix_list (pv 1) pe_int (fun _ _ => rfl)) (tru_C T.boolS (ok_bool T) (hr.mono (by decide)) pass0) (by intro _; rfl))
          (pw_and1 (pt_cmpR op_lt (pe_callB call_len_seq (by rfl) T.z_len PySem.boot_len (pa_cons (pv 1) pa_nil)) pe_int (nomark _)))))
        (pss_one (ps_expr (pe_bm PySem.F.plainAttrs_list PySem.F.slot_list_insert PySem.F.type_list_insert mt_insert (pv 1) (pa_cons pe_int (pa_cons (pe_prp (pe_ix ix_list (pv 1) pe_int (fun _ _ => rfl)) T.cl T.upP (ok_up T) hr noErr) pa_nil))))))
      (pss_one (ps_ret (pv 1)))), ?_⟩
    refine ⟨_, rfl, sz (by show 1 ≤ 1000000; omega), fun l hl => ?_⟩
    have g8 := pa.good.1
    refine ⟨fun m σ H' => ∃ as : List Addr, σ = [some (.ref a), some (.ref l)] ∧ Same H H' ∧ H' l = some (.lst (as.map V.ref)) ∧ as.length + m = ns.length + 1 ∧ 1 ≤ as.length ∧ ∀ i x, as[i]? = some x → Pl A H' x (ns.take (m + i)), ?_, ?_⟩
    · refine ⟨ns.length, [a], rfl, Same.new hl, upd_same, by simp; omega, by simp, fun i x hx => ?_⟩
      cases i with
      | zero =>
        have e : x = a := by simpa using hx.symm
        rw [e, Nat.add_zero, List.take_length]
        exact pa.same (Same.new hl)
      | succ i => simp at hx
    · rintro m σ H' ⟨as, rfl, s1, hL, hlen, h1, hw⟩
      obtain ⟨x0, rest, rfl⟩ : ∃ x0 rest, as = x0 :: rest := by
        cases as with
        | nil => simp at h1
        | cons x0 rest => exact ⟨x0, rest, rfl⟩
      have p0 := hw 0 x0 rfl
      rw [Nat.add_zero] at p0
      obtain ⟨dx, fs, e0⟩ := p0.ins
      refine ⟨_, rfl, l, _, _, .ref x0, rfl, rfl, SqL.of hL, at_of (j := 0) rfl rfl, x0, dx, fs, rfl, e0, x0, _, rfl, p0, fun H2 s2 => ⟨_, rfl, ?_⟩⟩
      have hL2 := s2 _ _ hL
      by_cases hm : m = 0
      · subst hm
        refine iteF' (by simp) (iteF ⟨_, rfl, k l H2 hl (s1.trans s2) ⟨x0 :: rest, hL2, by omega, fun i x hx => ?_⟩⟩)
        have := (hw i x hx).same s2
        rw [Nat.zero_add] at this
        exact this
      · have hne : ns.take m ≠ [] := by
          intro e
          have := congrArg List.length e
          rw [List.length_take, List.length_nil] at this
          have hl2 : rest.length + 1 + m = ns.length + 1 := hlen
          omega
        refine iteT' (by simpa using hne) ⟨_, rfl, l, _, rfl, .inl (SqL.of hL2), _, _, rfl, rfl, _, rfl, iteT' (decide_eq_true (by rw [List.length_map]; simp at hlen ⊢; omega)) ⟨fun σ2 H2 => ∃ m', m' < m ∧ _, fun σ2 H2 h => h, ?_⟩⟩
        refine ⟨_, rfl, .inl ⟨rfl, _, SqL.of hL2⟩, _, rfl, l, _, _, .ref x0, rfl, rfl, SqL.of hL2, at_of (j := 0) rfl rfl, x0, dx, fs, rfl, s2 _ _ e0, x0, _, rfl, p0.same s2, fun e => (hne e).elim, fun _ y H3 hy s3 p3 => ?_⟩
        have hL3 := s3 _ _ hL2
        refine ⟨l, _, 0, .ref y, rfl, rfl, hL3, by rw [List.length_map]; exact szl (by simp at hlen ⊢; omega), by omega, by omega, m - 1, by omega, y :: x0 :: rest, rfl, Same.mut ((s1.trans s2).trans s3) hl, by rw [upd_same]; rfl, by simp at hlen ⊢; omega, by simp, fun i x hx => ?_⟩
        have et : (ns.take m).dropLast = ns.take (m - 1) := by
          rw [List.dropLast_eq_take, List.length_take, List.take_take]
          congr 1
          simp at hlen
          omega
        rw [et] at p3
        cases i with
        | zero =>
          have e : x = y := by simpa using hx.symm
          rw [e, Nat.add_zero]
          exact p3.sam hL3 (Sam.upd (Sam.refl H3))
        | succ i =>
          have := (hw i x (by simpa using hx)).same (s2.trans s3)
          rw [show m - 1 + (i + 1) = m + i by omega]
          exact this.sam hL3 (Sam.upd (Sam.refl H3))
end
end NK

namespace NK
open PySem PySem.Spec PyProof.Rows L2 NA TL
theorem nLt_self : ∀ ns : List Str, nLt ns ns = false
  | [] => rfl
  | a :: as => by
    show (if a = a then nLt as as else _) = false
    rw [if_pos rfl, nLt_self as]
theorem nLt_app : ∀ (ns : List Str) (x : Str) (r : List Str), nLt ns (ns ++ x :: r) = true
  | [], _, _ => rfl
  | a :: as, x, r => by
    show (if a = a then nLt as (as ++ x :: r) else _) = true
    rw [if_pos rfl, nLt_app as]
theorem nLt_back : ∀ (ns r : List Str), nLt (ns ++ r) ns = false
  | [], [] => rfl
  | [], _ :: _ => rfl
  | a :: as, r => by
    show (if a = a then nLt (as ++ r) as else _) = false
    rw [if_pos rfl, nLt_back as]
theorem cps_tri (a b : Str) (h : a ≠ b) : decide (a.cps.toList < b.cps.toList) = !decide (b.cps.toList < a.cps.toList) := by
  by_cases h1 : a.cps.toList < b.cps.toList
  · rw [decide_eq_true h1, decide_eq_false (List.lt_asymm h1)]; rfl
  · by_cases h2 : b.cps.toList < a.cps.toList
    · rw [decide_eq_false h1, decide_eq_true h2]; rfl
    · exact (h (ext_tl (List.le_antisymm h2 h1))).elim
theorem nLt_tri : ∀ ns ms : List Str, ([nLt ns ms, decide (ns = ms), nLt ms ns].count true) = 1
  | [], [] => by decide
  | [], _ :: _ => by simp [nLt]
  | _ :: _, [] => by simp [nLt]
  | a :: as, b :: bs => by
    by_cases h : a = b
    · subst h
      have := nLt_tri as bs
      have e : decide (a :: as = a :: bs) = decide (as = bs) := by simp
      rw [e]
      show ([(if a = a then nLt as bs else _), decide (as = bs), (if a = a then nLt bs as else _)].count true) = 1
      rw [if_pos rfl, if_pos rfl]
      exact this
    · have e : decide (a :: as = b :: bs) = false := by simp [h]
      rw [e]
      show ([(if a = b then nLt as bs else decide (a.cps.toList < b.cps.toList)), false, (if b = a then nLt bs as else decide (b.cps.toList < a.cps.toList))].count true) = 1
      rw [if_neg h, if_neg (Ne.symm h), cps_tri a b h]
      cases decide (b.cps.toList < a.cps.toList) <;> rfl
theorem com_comm : ∀ ns ms : List Str, com ns ms = com ms ns
  | [], [] => rfl
  | [], _ :: _ => rfl
  | _ :: _, [] => rfl
  | a :: as, b :: bs => by
    unfold com
    by_cases h : a = b
    · subst h; rw [if_pos rfl, if_pos rfl, com_comm as bs]
    · rw [if_neg h, if_neg (Ne.symm h)]
theorem com_nil (ns : List Str) : com ns [] = [] := by cases ns <;> rfl
theorem com_self : ∀ ns : List Str, com ns ns = ns
  | [] => rfl
  | a :: as => by
    unfold com
    rw [if_pos rfl, com_self as]
theorem com_takeR : ∀ (ns : List Str) (k : Nat), com ns (ns.take k) = ns.take k
  | [], k => by simp [com]
  | a :: as, 0 => by simp [com]
  | a :: as, k + 1 => by
    rw [List.take_succ_cons]
    unfold com
    rw [if_pos rfl, com_takeR as k]
theorem com_assoc : ∀ a b c : List Str, com (com a b) c = com a (com b c)
  | [], b, c => by simp [com]
  | a :: as, [], c => by simp [com]
  | a :: as, b :: bs, [] => by rw [com_nil, com_nil, com_nil]
  | a :: as, b :: bs, c :: cs => by
    by_cases h1 : a = b
    · subst h1
      by_cases h2 : a = c
      · subst h2
        simp only [com, if_pos]
        rw [com_assoc as bs cs]
      · simp only [com, if_pos, if_neg h2]
    · by_cases h2 : b = c
      · subst h2
        simp only [com, if_neg h1, if_pos]
      · simp only [com, if_neg h1, if_neg h2]
theorem com_right (ns ms : List Str) : decide (com ns ms = ms) = decide (ns.take ms.length = ms) := by
  rw [Bool.eq_iff_iff, decide_eq_true_eq, decide_eq_true_eq]
  constructor
  · intro h
    have := com_take ns ms
    rw [h] at this
    exact this
  · intro h
    have := com_takeR ns ms.length
    rw [h] at this
    exact this
theorem com_snoc : ∀ (ns ms : List Str) (q : Str), q ∉ ms → com (ns ++ [q]) ms = com ns ms
  | [], [], q, _ => rfl
  | [], b :: bs, q, h => by
    show (if q = b then _ else []) = _
    rw [if_neg (fun e => h (by simp [e]))]
    rfl
  | a :: as, [], q, _ => rfl
  | a :: as, b :: bs, q, h => by
    show (if a = b then a :: com (as ++ [q]) bs else []) = (if a = b then a :: com as bs else [])
    rw [com_snoc as bs q fun e => h (List.mem_cons_of_mem _ e)]
/-- which beginnings of ns are beginnings of ms too -/
theorem take_both (ns ms : List Str) (i : Nat) (hi : i ≤ ns.length) : ((List.range (ms.length + 1)).any fun j => decide (ms.take j = ns.take i)) = decide (i ≤ (com ns ms).length) := by
  rw [Bool.eq_iff_iff, List.any_eq_true, decide_eq_true_eq]
  constructor
  · rintro ⟨j, hj, e⟩
    have e' := of_decide_eq_true e
    rw [List.mem_range] at hj
    have hl := congrArg List.length e'
    rw [List.length_take, List.length_take] at hl
    have h1 : com (ns.take i) (ms.take j) = ns.take i := by rw [e', com_self]
    have h2 : com ns ms = com ns ms := rfl
    -- the beginning is one of both
    have h3 : com (com ns ms) (ns.take i) = ns.take i := by
      rw [com_comm, ← com_assoc, com_comm (ns.take i) ns, com_takeR, ← e', com_comm, com_takeR]
    have := (com_le (com ns ms) (ns.take i)).1
    rw [h3, List.length_take] at this
    omega
  · intro h
    refine ⟨i, ?_, decide_eq_true ?_⟩
    · rw [List.mem_range]
      have := (com_le ns ms).2
      omega
    · have h1 := com_take ns ms
      have h2 : ms.take (com ns ms).length = com ns ms := by
        have := com_take ms ns
        rw [com_comm ms ns] at this
        exact this
      have e : ns.take (com ns ms).length = ms.take (com ns ms).length := h1.trans h2.symm
      have := congrArg (List.take i) e
      rw [List.take_take, List.take_take, Nat.min_eq_left h] at this
      exact this.symm
theorem filter_range (n c : Nat) (h : c ≤ n) : (List.range (n + 1)).filter (fun i => decide (i ≤ c)) = List.range (c + 1) := by
  obtain ⟨d, rfl⟩ : ∃ d, n = c + d := ⟨n - c, by omega⟩
  clear h
  induction d with
  | zero =>
    rw [Nat.add_zero]
    apply List.filter_eq_self.mpr
    intro i hi
    rw [List.mem_range] at hi
    exact decide_eq_true (by omega)
  | succ d ih =>
    rw [show c + (d + 1) + 1 = (c + d + 1) + 1 by omega, List.range_succ, List.filter_append, ih]
    simp
    omega
end NK

namespace NK
open PySem PySem.Spec PyProof.Rows L2 NA TL
section
variable {P : Program} {w : World} {K : PySem.W.Frag} {mg : Str → Option Value} {base : Heap} {A : Ad}
theorem Tx.headM (T : Tx K mg A) : Meth K A.c_Place "head" A.f_Place_head := ⟨T.at_Place_head, T.fn_Place_head, T.kp_Place_head⟩
theorem Tx.aheadM (T : Tx K mg A) : Meth K A.c_Place "is_ahead" A.f_Place_is_ahead := ⟨T.at_Place_is_ahead, T.fn_Place_is_ahead, T.kp_Place_is_ahead⟩
theorem Tx.readC (T : Tx K mg A) : ClX.CMet K A.c_Place (.type "type") "read" A.p_Place_read A.f_Place_read := ⟨T.at_Place_read, T.rc_Place_read, T.fi_Place_read⟩
theorem Pl.m {H : Hp} {a : Addr} {ns : List Str} {m : Str} (h : Pl A H a ns) (hm : (m == ("parts" : Str)) = false) : ∃ dx fs, H a = some (.ins A.c_Place dx fs) ∧ fs.lookup m = none := by
  obtain ⟨_, dx, t, h1, _⟩ := h
  exact ⟨dx, _, h1, by simp only [List.lookup, hm]⟩
def sp_way_right (A : Ad) : Sp := fun vs H Q _ => ∃ a ns, vs = [.ref a] ∧ Pl A H a ns ∧ ∀ H', Same H H' → Q (.bl true) H'
theorem ok_way_right (T : Tx K mg A) : FnR P w K mg base CX0 7 A.f_law_way_right (sp_way_right A) := by
  refine fnr T.F_law_way_right sc_law_way_right (fun _ _ _ _ _ _ us hl => match us, hl with | [_], _ => rfl) (fun vs H Q E h => ?_) (fun cdv A' outer s H vs Q E hr h => ?_)
  · obtain ⟨a, ns, rfl, _⟩ := h; rfl
  · obtain ⟨a, ns, rfl, pa, k⟩ := h
    have r1 : Room 1 _ := hr.mono (by decide)
    have r2 : Room 2 _ := hr.mono (by decide)
    have r3 : Room 3 _ := hr.mono (by decide)
    have r4 : Room 4 _ := hr.mono (by decide)
    have r5 : Room 5 _ := hr.mono (by decide)
    refine ⟨_, pss_cons (ps_set (i := 1) sc_law_way_right.nd rfl (.inl rfl) (pe_cl (ok_way T) hr (by rfl) T.mg_law_way T.kp_law_way pass0 (pa_cons (pv 0) pa_nil)))
      (pss_cons (ps_if (PW.pt (pw_or (pt_cmpR op_notN (pe_prp (pe_ix ix_list (pv 1) pe_int (fun _ _ => rfl)) T.cl T.upP (ok_up T) r5 noErr) pe_non (nomark _))
          (pw_or (pt_cmpR op_ne (pe_callB call_len_seq (by rfl) T.z_len PySem.boot_len (pa_cons (pv 1) pa_nil)) (pe_op op_add (pe_callB (call_lenC T.lenS (ok_len T) r2 pass0) (by rfl) T.z_len PySem.boot_len (pa_cons (pv 0) pa_nil)) pe_int) (nomark _))
          (pw_or1 (pt_cmpR (op_neC T.eqS T.neS (ok_eq T) r2 pass0) (pe_ix ix_list (pv 1) pe_int (fun _ _ => rfl)) (pe_mk0 T.mkP (ok_init T) r3 (by rfl) T.mg_Place pass0) (nomark _))))))
        (pss_one (ps_ret pe_bl)) pss_nil)
      (pss_cons (ps_for PassesOwn.never rfl (pi_enum (by rfl) T.z_enumerate (pa_cons (pv 1) pa_nil)) (pg_tup rfl (pgs_cons (pg_name (i := 2) sc_law_way_right.nd rfl (.inl rfl)) (pgs_cons (pg_name (i := 3) sc_law_way_right.nd rfl (.inl rfl)) pgs_nil)))
        (pss_cons (ps_if (PW.pt (pw_or (pt_cmpR (op_neC T.eqS T.neS (ok_eq T) r2 pass0) (pv 3) (pe_methR (pv 0) T.cl T.headM (ok_head T) r4 pass0 (pa_cons (pv 2) pa_nil)) (nomark _))
            (pw_or1 (pt_cmpR (op_neC T.eqS T.neS (ok_eq T) r2 pass0) (pe_mthK (pv 0) T.cl T.headM (ok_headK T) r4 pass0 (pk_cons (pv 2) pk_nil))
              (ClX.pe_cmeth (pe_glob (v := .ref A.c_Place) (by rfl) T.mg_Place rfl) T.rdP T.readC (ok_read T) r4 pass0 (pa_cons (pe_prp (pv 3) T.cl T.textP (ok_text T) r3 noErr) pa_nil)) (nomark _)))))
          (pss_one (ps_ret pe_bl)) pss_nil)
        (pss_cons (ps_if (PW.pt (pw_or (pt_cmpR (op_notInC T.inS (ok_contains T) r3 pass0) (pv 0) (pv 3) rfl)
            (pw_or1 (pt_cmpR op_ne (pe_callB (call_lenC T.lenS (ok_len T) r2 pass0) (by rfl) T.z_len PySem.boot_len (pa_cons (pv 3) pa_nil)) (pv 2) (nomark _)))))
          (pss_one (ps_ret pe_bl)) pss_nil)
        (pss_jn (ps_if (pt_cmpR op_gt (pv 2) pe_int (nomark _))
          (pss_cons (ps_set (i := 4) sc_law_way_right.nd rfl (.inl rfl) (pe_ix ix_list (pv 1) (pe_op op_sub (pv 2) pe_int) (fun _ _ => rfl)))
          (pss_one (ps_if (PW.pt (pw_or (pt_not (pt_val (pe_methR (pv 4) T.cl T.aheadM (ok_is_ahead T) r1 pass0 (pa_cons (pv 3) pa_nil))))
              (pw_or (pt_cmpR (op_neC T.eqS T.neS (ok_eq T) r2 pass0) (pe_op (op_binS T.addS T.addB T.sf_Place (ok_add T) r4 pass0) (pv 4) (pe_ix ix_tup (pe_prp (pv 3) T.cl T.namesP (ok_names T) r2 noErr) (pe_un un_neg pe_int) (fun _ _ => rfl))) (pv 3) (nomark _))
              (pw_or1 (pt_cmpR (op_notInC T.inS (ok_contains T) r3 pass0) (pv 3) (pv 4) rfl)))))
            (pss_one (ps_ret pe_bl)) pss_nil))) pss_nil)
        (pss_one (ps_if (PW.pt (pw_and (pt_cmpR op_lt (pv 2) (pe_callB (call_lenC T.lenS (ok_len T) r2 pass0) (by rfl) T.z_len PySem.boot_len (pa_cons (pv 0) pa_nil)) (nomark _))
            (pw_and1 (PW.pt (pw_or (pt_cmpR (op_inC T.inS (ok_contains T) r3 pass0) (pv 3) (pv 0) rfl) (pw_or1 (pt_val (pe_methR (pv 0) T.cl T.aheadM (ok_is_ahead T) r1 pass0 (pa_cons (pv 3) pa_nil)))))))))
          (pss_one (ps_ret pe_bl)) pss_nil))))))
      (pss_one (ps_ret (pe_cmpR (op_eqC T.eqS (ok_eq T) r1 pass0) (pe_ix ix_list (pv 1) (pe_un un_neg pe_int) (fun _ _ => rfl)) (pv 0) (nomark _)))))), ?_⟩
    refine ⟨_, rfl, a, ns, rfl, pa, fun l H1 hl s1 wy => ?_⟩
    obtain ⟨as, hL, hlen, hw⟩ := wy
    have g8 := pa.good.1
    have pa1 := pa.same s1
    have asx : ∀ i, i ≤ ns.length → ∃ x, as[i]? = some x := fun i hi => ⟨_, List.getElem?_eq_getElem (by omega)⟩
    have asat : ∀ (i : Nat) x, as[i]? = some x → (as.map V.ref)[i]? = some (.ref x) := fun i x h => by rw [List.getElem?_map, h] <;> rfl
    obtain ⟨x0, hx0⟩ := asx 0 (by omega)
    have p0 := hw 0 x0 hx0
    obtain ⟨d0, f0, e0⟩ := p0.ins
    refine ⟨_, rfl, l, _, _, .ref x0, rfl, rfl, SqL.of hL, at_of (j := 0) rfl (asat 0 x0 hx0), x0, d0, f0, rfl, e0, x0, _, rfl, p0, fun _ H2 s2 => ⟨rfl, _, rfl, iteF' (by simp) ?_⟩, fun h => (h rfl).elim⟩
    refine ⟨_, rfl, l, _, rfl, .inl (SqL.of (s2 _ _ hL)), _, rfl, v_len (pa1.same s2) ⟨_, _, rfl, rfl, rfl, _, rfl, iteF' (by rw [List.length_map, hlen]; simp) ?_⟩⟩
    refine ⟨_, rfl, l, _, _, .ref x0, rfl, rfl, SqL.of (s2 _ _ hL), at_of (j := 0) rfl (asat 0 x0 hx0), v_mk0 fun z H3 hz s3 p3 => v_eq (p0.same (s2.trans s3)) p3 ⟨_, rfl, iteF' (by simp) ?_⟩⟩
    have s13 := s2.trans s3
    refine ⟨_, rfl, l, _, rfl, SqL.of (s13 _ _ hL), for_it (walk_enum (K := K) (a := l) (xs := as.map V.ref)) (fun i σ H' => Same H1 H' ∧ ∃ v2 v3 v4, σ = [some (.ref a), some (.ref l), v2, v3, v4]) ⟨s13, _, _, _, rfl⟩ (fun i σ H' _ p => SqL.of (p.1 _ _ hL)) ?_ ?_⟩
    · rintro i x σ H5 H6 hi ⟨s5, v2, v3, v4, rfl⟩ ⟨Tt, y1, y2, rfl, hT, rfl, ey1, ey2⟩
      obtain ⟨x, hx⟩ : ∃ x, as[i]? = some x := ⟨_, List.getElem?_eq_getElem (by rw [List.length_map] at hi; exact hi)⟩
      have e2 : y2 = .ref x := by
        have h1 : (as.map V.ref)[i]? = some y2 := ey2
        rw [asat i x hx] at h1
        exact (Option.some.inj h1).symm
      subst e2
      obtain rfl : V.int i = y1 := Option.some.inj ey1
      have s6 : Same H5 (upd H5 Tt (.tup [.int i, .ref x])) := Same.new (o := .tup [.int i, .ref x]) hT
      have hin : i ≤ ns.length := by rw [List.length_map] at hi; omega
      have px := (hw i x hx).same (s5.trans s6)
      have pa6 := pa1.same (s5.trans s6)
      refine ⟨Tt, _, rfl, SqT.of upd_same, rfl, _, _, rfl, _, _, rfl, rfl, ?_⟩
      obtain ⟨dx, fs, ea, lk⟩ := pa6.m (m := "head") (by decide)
      have hti : (ns.take i).length = i := by rw [List.length_take]; omega
      refine ⟨_, rfl, _, rfl, a, dx, fs, rfl, ea, lk, _, rfl, a, ns, i, rfl, pa6, hin, fun y7 H7 hy7 s7 p7 => v_eq (px.same s7) p7 ⟨_, rfl, iteF' (by simp) ?_⟩⟩
      refine ⟨_, rfl, a, dx, fs, rfl, s7 _ _ ea, lk, _, rfl, rfl, a, ns, i, rfl, pa6.same s7, hin, fun y8 H8 hy8 s8 p8 => ?_⟩
      obtain ⟨dy, gs, ex⟩ := px.ins
      have s78 := s7.trans s8
      refine ⟨rfl, _, rfl, x, dy, gs, rfl, s78 _ _ ex, x, _, rfl, px.same s78, ns.take i, rfl, px.good, fun y9 H9 hy9 s9 p9 => v_eq (p8.same s9) p9 ⟨_, rfl, iteF' (by simp) ?_⟩⟩
      have s79 := s78.trans s9
      refine ⟨_, rfl, _, rfl, v_in (px.same s79) (pa6.same s79) fun H10 s10 => ⟨_, rfl, iteF' (by simp [hti]) ?_⟩⟩
      have s710 := s79.trans s10
      refine ⟨_, rfl, v_len (px.same s710) ⟨_, rfl, rfl, _, rfl, iteF' (by rw [hti]; simp) ?_⟩⟩
      have px10 := px.same s710
      have pa10 := pa6.same s710
      have t10 : Same H1 H10 := (s5.trans s6).trans s710
      refine ⟨fun σ' H' => Same H10 H' ∧ ∃ v4, σ' = [some (.ref a), some (.ref l), some (.int i), some (.ref x), v4], ?_, ?_⟩
      · refine ⟨_, rfl, _, _, rfl, rfl, _, rfl, ?_⟩
        by_cases hi0 : i = 0
        · subst hi0
          exact iteF' (by simp) ⟨Same.refl _, _, rfl⟩
        · refine iteT' (decide_eq_true (by omega)) ?_
          obtain ⟨u, hu⟩ := asx (i - 1) (by omega)
          have pu := (hw _ u hu).same t10
          obtain ⟨x1, hx1⟩ : ∃ n, ns[i - 1]? = some n := ⟨_, List.getElem?_eq_getElem (by omega)⟩
          have etk : ns.take i = ns.take (i - 1) ++ [x1] := by
            have h1 := List.take_succ (l := ns) (i := i - 1)
            rw [hx1, show i - 1 + 1 = i by omega] at h1
            exact h1
          refine ⟨_, rfl, _, rfl, _, _, rfl, rfl, l, _, (i : Int) - 1, .ref u, rfl, rfl, SqL.of (t10 _ _ hL), at_of (j := i - 1) (by omega) (asat _ u hu), ?_⟩
          obtain ⟨du, fu, eu, lku⟩ := pu.m (m := "is_ahead") (by decide)
          obtain ⟨dz, fz, ez⟩ := px10.ins
          have hx1m : x1 ∈ ns := List.mem_of_getElem? hx1
          refine ⟨_, rfl, u, du, fu, rfl, eu, lku, _, rfl, u, x, _, _, rfl, pu, px10, _, rfl, iteF' (by rw [etk, nLt_app]; rfl) ?_⟩
          refine ⟨_, rfl, _, rfl, x, dz, fz, rfl, ez, x, _, rfl, px10, fun t ht => ⟨1, rfl, t, _, _, .str x1, rfl, rfl, SqT.of ht, by rw [etk, List.map_append]; exact atI_last _ _, v_add pu (pa.good.2 _ hx1m) (by rw [List.length_take]; omega) fun y12 H12 hy12 s12 p12 => ?_⟩⟩
          refine ⟨_, rfl, v_eq p12 (px10.same s12) ⟨_, rfl, iteF' (by rw [etk]; simp) ?_⟩⟩
          refine ⟨_, rfl, _, rfl, v_in (pu.same s12) (px10.same s12) fun H13 s13' => ⟨_, rfl, iteF' ?_ ⟨s12.trans s13', _, rfl⟩⟩⟩
          have : (ns.take i).take (ns.take (i - 1)).length = ns.take (i - 1) := by rw [etk, List.take_append_length]
          rw [decide_eq_true this]; rfl
      · rintro σ' H11 ⟨s11, w4, rfl⟩
        have px11 := px10.same s11
        have pa11 := pa10.same s11
        have fin : ∀ H', Same H11 H' → Same H1 H' := fun H' e => (t10.trans s11).trans e
        refine ⟨_, rfl, _, rfl, v_len pa11 ⟨_, _, rfl, rfl, _, rfl, ?_⟩⟩
        by_cases hin2 : i = ns.length
        · exact iteF' (decide_eq_false (by omega)) ⟨fin _ (Same.refl _), _, _, _, rfl⟩
        · refine iteT' (decide_eq_true (by omega)) ?_
          refine ⟨_, rfl, _, rfl, v_in pa11 px11 fun H14 s14 => ⟨_, rfl, iteF' ?_ ?_⟩⟩
          · have : (ns.take i).take ns.length ≠ ns := fun e => by
              have := congrArg List.length e
              rw [List.length_take, hti] at this
              omega
            simpa using this
          · obtain ⟨dq, fq, eq, lkq⟩ := (pa11.same s14).m (m := "is_ahead") (by decide)
            refine ⟨_, rfl, a, dq, fq, rfl, eq, lkq, _, rfl, a, x, _, _, rfl, pa11.same s14, px11.same s14, _, rfl, iteF' ?_ ⟨fin _ s14, _, _, _, rfl⟩⟩
            have := nLt_back (ns.take i) (ns.drop i)
            rw [List.take_append_drop] at this
            exact this
    · rintro σ H5 ⟨s5, v2, v3, v4, rfl⟩
      obtain ⟨xn, hxn⟩ := asx ns.length (by omega)
      have pn := hw _ xn hxn
      rw [List.take_length] at pn
      refine ⟨_, rfl, 1, rfl, l, _, _, .ref xn, rfl, rfl, SqL.of (s5 _ _ hL), ?_, _, rfl, v_eq (pn.same s5) (pa1.same s5) ?_⟩
      · obtain ⟨pre, rfl⟩ : ∃ pre, as = pre ++ [xn] := by
          have hne : as ≠ [] := by intro e; rw [e] at hlen; simp at hlen
          refine ⟨as.dropLast, ?_⟩
          have h1 : as.getLast? = some xn := by rw [List.getLast?_eq_getElem?, hlen]; exact hxn
          rw [List.getLast?_eq_some_getLast hne] at h1
          rw [← Option.some.inj h1]; exact (List.dropLast_concat_getLast hne).symm
        rw [List.map_append]
        exact atI_last _ _
      · have e : decide (ns = ns) = true := by simp
        rw [e]
        exact k _ (s1.trans s5)
end
end NK

namespace NK
open PySem PySem.Spec PyProof.Rows L2 NA TL
section
variable {P : Program} {w : World} {K : PySem.W.Frag} {mg : Str → Option Value} {base : Heap} {A : Ad}
theorem atI_end {ys : List V} {c : Nat} {v : V} (hl : ys.length = c + 1) (h : ys[c]? = some v) : atI ys (-1) = some v := by
  have hne : ys ≠ [] := by intro e; rw [e] at hl; simp at hl
  have h1 : ys.getLast? = some v := by rw [List.getLast?_eq_getElem?, hl]; exact h
  rw [List.getLast?_eq_some_getLast hne] at h1
  have e : ys = ys.dropLast ++ [v] := by rw [← Option.some.inj h1]; exact (List.dropLast_concat_getLast hne).symm
  rw [e]
  exact atI_last _ _
def sp_met_right (A : Ad) : Sp := fun vs H Q _ => ∃ a b ns ms, vs = [.ref a, .ref b] ∧ Pl A H a ns ∧ Pl A H b ms ∧ ∀ H', Same H H' → Q (.bl true) H'
theorem ok_met_right (T : Tx K mg A) : FnR P w K mg base CX0 7 A.f_law_met_right (sp_met_right A) := by
  refine fnr T.F_law_met_right sc_law_met_right (fun _ _ _ _ _ _ us hl => match us, hl with | [_, _], _ => rfl) (fun vs H Q E h => ?_) (fun cdv A' outer s H vs Q E hr h => ?_)
  · obtain ⟨a, b, ns, ms, rfl, _⟩ := h; rfl
  · obtain ⟨a, b, ns, ms, rfl, pa, pb, k⟩ := h
    have r1 : Room 1 _ := hr.mono (by decide)
    have r2 : Room 2 _ := hr.mono (by decide)
    have r3 : Room 3 _ := hr.mono (by decide)
    have r4 : Room 4 _ := hr.mono (by decide)
    refine ⟨_, pss_cons (ps_set (i := 2) sc_law_met_right.nd rfl (.inl rfl) (pe_op (op_binC T.andS T.sf_Place (ok_and T) r4 pass0) (pv 0) (pv 1)))
      (pss_cons (ps_if (PW.pt (pw_or (pt_cmpR (op_neC T.eqS T.neS (ok_eq T) r2 pass0) (pv 2) (pe_op (op_binC T.andS T.sf_Place (ok_and T) r4 pass0) (pv 1) (pv 0)) (nomark _))
          (pw_or (pt_cmpR (op_notInC T.inS (ok_contains T) r3 pass0) (pv 0) (pv 2) rfl)
          (pw_or1 (pt_cmpR (op_notInC T.inS (ok_contains T) r3 pass0) (pv 1) (pv 2) rfl)))))
        (pss_one (ps_ret pe_bl)) pss_nil)
      (pss_cons (ps_asg (pe_tup (pa_cons (pe_cl (ok_way T) hr (by rfl) T.mg_law_way T.kp_law_way pass0 (pa_cons (pv 0) pa_nil)) (pa_cons (pe_cl (ok_way T) hr (by rfl) T.mg_law_way T.kp_law_way pass0 (pa_cons (pv 1) pa_nil)) pa_nil)))
        (pg_tup rfl (pgs_cons (pg_name (i := 3) sc_law_met_right.nd rfl (.inl rfl)) (pgs_cons (pg_name (i := 4) sc_law_met_right.nd rfl (.inr rfl)) pgs_nil))))
      (pss_cons (ps_setLc (i := 5) (own := [("_law_spot", 6)]) (g := gName 6) rfl sc_law_met_right.nd rfl rfl (sw_true rfl rfl rfl rfl) (pi_list (pv 3)) (blkOk_by (N := ["_law_one", "_law_other", "_law_met", "_law_mine", "_law_yours", "_law_both", "_law_spot"]) (sc := defScope s_law_met_right) (by decide +kernel)) (fun _ _ _ _ _ => pg_name (i := 6) sc_law_met_right.nd rfl (Or.inl rfl))
          (fun _ _ _ _ _ => pts_one (pt_cmpR (op_inL T.eqS (ok_eq T) r2 pass0) (pv 6) (pv 4) rfl))
          (fun _ _ _ _ _ => pv 6))
      (pss_cons (ps_if (PW.pt (pw_or (pt_cmpR (op_neC T.eqS T.neS (ok_eq T) r2 pass0) (pe_ix ix_list (pv 5) (pe_un un_neg pe_int) (fun _ _ => rfl)) (pv 2) (nomark _))
          (pw_or1 (pt_cmpR op_ne (pe_callB call_len_seq (by rfl) T.z_len PySem.boot_len (pa_cons (pv 5) pa_nil)) (pe_op op_add (pe_callB (call_lenC T.lenS (ok_len T) r2 pass0) (by rfl) T.z_len PySem.boot_len (pa_cons (pv 2) pa_nil)) pe_int) (nomark _)))))
        (pss_one (ps_ret pe_bl)) pss_nil)
      (pss_cons (ps_if (PW.pt (pw_or (pt_cmpR op_ne (pe_cmpR (op_inC T.inS (ok_contains T) r3 pass0) (pv 0) (pv 1) rfl) (pe_cmpR (op_eqC T.eqS (ok_eq T) r1 pass0) (pv 2) (pv 1) (nomark _)) (nomark _))
          (pw_or1 (pt_cmpR op_ne (pe_cmpR (op_inC T.inS (ok_contains T) r3 pass0) (pv 1) (pv 0) rfl) (pe_cmpR (op_eqC T.eqS (ok_eq T) r1 pass0) (pv 2) (pv 0) (nomark _)) (nomark _)))))
        (pss_one (ps_ret pe_bl)) pss_nil)
      (pss_one (ps_ret (pe_cmpR op_eq (pe_bm PySem.F.plainAttrs_list PySem.F.slot_list_count PySem.F.type_list_count mt_countB
        (pe_lst (pa_cons (pe_methR (pv 0) T.cl T.aheadM (ok_is_ahead T) r1 pass0 (pa_cons (pv 1) pa_nil)) (pa_cons (pe_cmpR (op_eqC T.eqS (ok_eq T) r1 pass0) (pv 0) (pv 1) (nomark _)) (pa_cons (pe_methR (pv 1) T.cl T.aheadM (ok_is_ahead T) r1 pass0 (pa_cons (pv 0) pa_nil)) pa_nil)))) (pa_cons pe_bl pa_nil)) pe_int (nomark _))))))))), ?_⟩
    refine q_set ⟨_, rfl, _, rfl, v_and pa pb fun m H1 hm s1 pm => ?_⟩
    have c1 : ns.take (com ns ms).length = com ns ms := com_take ns ms
    have c2 : ms.take (com ns ms).length = com ns ms := by rw [com_comm ns ms]; exact com_take ms ns
    refine ⟨_, rfl, _, rfl, _, rfl, v_and (pb.same s1) (pa.same s1) fun m2 H2 hm2 s2 pm2 => v_eq (pm.same s2) pm2 ⟨_, rfl, iteF' (by rw [com_comm ms ns]; simp) ?_⟩⟩
    have t2 := s1.trans s2
    refine ⟨_, rfl, _, rfl, v_in (pm.same s2) (pa.same t2) fun H3 s3 => ⟨_, rfl, iteF' (by rw [decide_eq_true c1]; rfl) ?_⟩⟩
    refine ⟨_, rfl, _, rfl, v_in (pm.same (s2.trans s3)) (pb.same (t2.trans s3)) fun H4 s4 => ⟨_, rfl, iteF' (by rw [decide_eq_true c2]; rfl) ?_⟩⟩
    have u4 := (s2.trans s3).trans s4
    have t4 := s1.trans u4
    refine ⟨_, rfl, a, ns, rfl, pa.same t4, fun l1 H5 hl1 s5 w1 => ⟨_, rfl, b, ms, rfl, pb.same (t4.trans s5), fun l2 H6 hl2 s6 w2 => ⟨sz (by show 2 ≤ 1000000; omega), fun p hp => ⟨p, _, rfl, SqT.of upd_same, rfl, _, _, rfl, _, _, rfl, rfl, ?_⟩⟩⟩⟩
    obtain ⟨as, hL1, hlen1, hw1⟩ := w1
    obtain ⟨bs, hL2, hlen2, hw2⟩ := w2
    have s7 : Same H6 (upd H6 p (.tup [.ref l1, .ref l2])) := Same.new hp
    have e1 := (s6.trans s7) _ _ hL1
    have e2 := s7 _ _ hL2
    have f1 : ∀ i x, as[i]? = some x → Pl A (upd H6 p (.tup [.ref l1, .ref l2])) x (ns.take i) := fun i x h => (hw1 i x h).same (s6.trans s7)
    have f2 : ∀ i x, bs[i]? = some x → Pl A (upd H6 p (.tup [.ref l1, .ref l2])) x (ms.take i) := fun i x h => (hw2 i x h).same s7
    have u7 := ((u4.trans s5).trans s6).trans s7
    have g8 := pa.good.1
    have hc1 := (com_le ns ms).1
    refine ⟨_, rfl, l1, rfl, ⟨_, SqL.of e1⟩, fun D hD => ?_⟩
    refine lc_flt (walk_list (K := K) (a := l1) (xs := as.map V.ref)) (fun i v H' => ∃ x, as[i]? = some x ∧ v = .ref x) (fun i => decide (i ≤ (com ns ms).length)) hD (fun _ _ _ _ _ _ _ h => h) (fun H' s' => SqL.of (s' _ _ e1)) (by rw [List.length_map]; exact szl (by omega)) ?_ g_name_mono ?_
    · rintro i x H9 H8 hi s8 ⟨rfl, hx⟩
      rw [List.getElem?_map] at hx
      obtain ⟨x, hx', rfl⟩ := Option.map_eq_some_iff.mp hx
      clear hx
      have hx := hx'
      have hi2 : i < as.length := (List.getElem?_eq_some_iff.mp hx).1
      refine ⟨Same.refl _, rfl, Same.refl _, fun Q' hQ => ?_⟩
      refine ⟨_, rfl, _, rfl, l2, bs, x, (fun j => decide (ms.take j = ns.take i)), (fun H' => Same H8 H'), rfl, rfl, Same.refl _, fun H' s' => ⟨s' _ _ (s8 _ _ e2), ((f1 i x hx).same (s8.trans s')).ins, fun j y hy => ?_⟩, fun H' s' => ⟨_, rfl, ?_⟩⟩
      · have py := (f2 j y hy).same (s8.trans s')
        have px := (f1 i x hx).same (s8.trans s')
        exact ⟨py.ins, fun e => decide_eq_true (by subst e; exact py.inj px), y, x, _, _, rfl, py, px, rfl, s'⟩
      · have := hQ H' s' (fun _ Q'' h => ⟨_, rfl, h _ _ (Same.refl _) ⟨x, hx, rfl⟩⟩)
        rw [← take_both ns ms i (by omega), ← hlen2] at this
        exact this
    · intro H9 ys s9 e9 hl9 hy9
      rw [List.length_map, hlen1, filter_range _ _ hc1] at hl9 hy9
      rw [List.length_range] at hl9
      obtain ⟨v, hv⟩ : ∃ v, ys[(com ns ms).length]? = some v := ⟨_, List.getElem?_eq_getElem (by omega)⟩
      obtain ⟨xc, hxc, rfl⟩ := hy9 _ _ v (by rw [List.getElem?_range (by omega)]) hv
      have pxc := (f1 _ _ hxc).same s9
      rw [c1] at pxc
      have u9 := u7.trans s9
      have pm9 := pm.same u9
      have t9 := s1.trans u9
      refine ⟨_, rfl, 1, rfl, D, ys, _, .ref xc, rfl, rfl, SqL.of e9, atI_end hl9 hv, _, rfl, v_eq pxc pm9 ⟨_, rfl, iteF' (by simp) ?_⟩⟩
      refine ⟨_, rfl, D, _, rfl, .inl (SqL.of e9), _, rfl, v_len pm9 ⟨_, _, rfl, rfl, rfl, _, rfl, iteF' (by rw [hl9]; simp) ?_⟩⟩
      refine ⟨_, rfl, _, rfl, v_in (pb.same t9) (pa.same t9) fun H10 s10 => ⟨_, rfl, _, rfl, v_eq (pm9.same s10) (pb.same (t9.trans s10)) ⟨rfl, _, rfl, iteF' ?_ ?_⟩⟩⟩
      · have := com_right ns ms
        simp [this]
      have t10 := t9.trans s10
      refine ⟨_, rfl, _, rfl, v_in (pa.same t10) (pb.same t10) fun H11 s11 => ⟨_, rfl, _, rfl, v_eq (pm9.same (s10.trans s11)) (pa.same (t10.trans s11)) ⟨rfl, _, rfl, iteF' ?_ ?_⟩⟩⟩
      · have := com_right ms ns
        rw [com_comm ms ns] at this
        simp [this]
      have t11 := t10.trans s11
      obtain ⟨dx, fx, ex, lx⟩ := (pa.same t11).m (m := "is_ahead") (by decide)
      obtain ⟨dy, fy, ey, ly⟩ := (pb.same t11).m (m := "is_ahead") (by decide)
      refine ⟨_, rfl, a, dx, fx, rfl, ex, lx, _, rfl, a, b, _, _, rfl, pa.same t11, pb.same t11, _, rfl, _, rfl, v_eq (pa.same t11) (pb.same t11) ⟨_, rfl, b, dy, fy, rfl, ey, ly, _, rfl, b, a, _, _, rfl, pb.same t11, pa.same t11, sz (by show 3 ≤ 1000000; omega), fun q hq => ⟨.inl ⟨rfl, _, SqL.of upd_same⟩, q, [nLt ns ms, decide (ns = ms), nLt ms ns], true, rfl, rfl, SqL.of upd_same, rfl, ?_⟩⟩⟩
      rw [nLt_tri]
      exact k _ (t11.trans (Same.new hq))
end
end NK

namespace NK
open PySem PySem.Spec PyProof.Rows L2 NA TL
section
variable {P : Program} {w : World} {K : PySem.W.Frag} {mg : Str → Option Value} {base : Heap} {A : Ad}
def spLaw (K : PySem.W.Frag) : Sp := fun vs H Q _ => ∃ (a : Addr) (ns : List Int), vs = [.ref a] ∧ SqL K H a (ns.map V.int) ∧ ns.length ≤ 63 ∧ ∀ H', Q (.bl true) H'
theorem ok_law (T : Tx K mg A) {fd : FuncData} (F : Fun K "law" "law" s_law A.f_law fd) : FnOk P w K mg base CX0 8 A.f_law fd ["_law_script"] (spLaw K) := by
  refine F.ok sc_law (fun vs H Q E h => ?_) (fun cdv A' outer s H vs Q E hr h => ?_)
  · obtain ⟨a, ns, rfl, _⟩ := h; rfl
  · obtain ⟨a, ns, rfl, hS, hns, k⟩ := h
    have r1 : Room 1 _ := hr.mono (by decide)
    have r2 : Room 2 _ := hr.mono (by decide)
    have r3 : Room 3 _ := hr.mono (by decide)
    have r4 : Room 4 _ := hr.mono (by decide)
    have r5 : Room 5 _ := hr.mono (by decide)
    refine ⟨_, pss_cons (ps_set (i := 1) sc_law.nd rfl (.inl rfl) (pe_cl (ok_pen T) r1 (by rfl) T.mg_law_pen T.kp_law_pen pass0 (pa_cons (pv 0) pa_nil)))
      (pss_cons (ps_for PassesOwn.never rfl (pi_range1 (by rfl) T.z_range (pa_cons pe_int pa_nil)) (pg_name (i := 2) sc_law.nd rfl (.inl rfl))
        (pss_jn (ps_set (i := 3) sc_law.nd rfl (.inl rfl) (pe_cl (ok_pick T) r2 (by rfl) T.mg_law_pick T.kp_law_pick pass0 (pa_cons (pv 1) (pa_cons (pe_lst
            (pa_cons (pe_lst (pa_cons pe_str (pa_cons pe_str pa_nil))) (pa_cons (pe_lst (pa_cons pe_str (pa_cons pe_str (pa_cons pe_str pa_nil)))) (pa_cons (pe_lst (pa_cons pe_str (pa_cons pe_str (pa_cons pe_str (pa_cons pe_str pa_nil))))) pa_nil)))) pa_nil))))
        (pss_jn (ps_par3 (i := 4) (j := 5) (l := 6) (by rfl) sc_law.nd rfl rfl rfl (by decide) (by decide) (by decide) rfl rfl rfl
          (pa_cons (pe_cl (ok_place T) r5 (by rfl) T.mg_law_place T.kp_law_place pass0 (pa_cons (pv 1) (pa_cons (pv 3) pa_nil))) (pa_cons (pe_cl (ok_place T) r5 (by rfl) T.mg_law_place T.kp_law_place pass0 (pa_cons (pv 1) (pa_cons (pv 3) pa_nil))) (pa_cons (pe_cl (ok_place T) r5 (by rfl) T.mg_law_place T.kp_law_place pass0 (pa_cons (pv 1) (pa_cons (pv 3) pa_nil))) pa_nil))) (by rfl))
        (pss_cons (ps_if (PW.pt (pw_or (pt_not (pt_val (pe_cl (ok_way_right T) hr (by rfl) T.mg_law_way_right T.kp_law_way_right pass0 (pa_cons (pv 4) pa_nil)))) (pw_or (pt_not (pt_val (pe_cl (ok_way_right T) hr (by rfl) T.mg_law_way_right T.kp_law_way_right pass0 (pa_cons (pv 5) pa_nil)))) (pw_or1 (pt_not (pt_val (pe_cl (ok_way_right T) hr (by rfl) T.mg_law_way_right T.kp_law_way_right pass0 (pa_cons (pv 6) pa_nil))))))))
          (pss_one (ps_ret pe_bl)) pss_nil)
        (pss_cons (ps_if (PW.pt (pw_or (pt_not (pt_val (pe_cl (ok_met_right T) hr (by rfl) T.mg_law_met_right T.kp_law_met_right pass0 (pa_cons (pv 4) (pa_cons (pv 5) pa_nil))))) (pw_or (pt_not (pt_val (pe_cl (ok_met_right T) hr (by rfl) T.mg_law_met_right T.kp_law_met_right pass0 (pa_cons (pv 4) (pa_cons (pv 6) pa_nil))))) (pw_or1 (pt_not (pt_val (pe_cl (ok_met_right T) hr (by rfl) T.mg_law_met_right T.kp_law_met_right pass0 (pa_cons (pv 6) (pa_cons (pv 6) pa_nil)))))))))
          (pss_one (ps_ret pe_bl)) pss_nil)
        (pss_cons (ps_if (PW.pt (pw_or (pt_cmpR (op_neC T.eqS T.neS (ok_eq T) r2 pass0) (pe_op (op_binC T.andS T.sf_Place (ok_and T) r4 pass0) (pe_op (op_binC T.andS T.sf_Place (ok_and T) r4 pass0) (pv 4) (pv 5)) (pv 6)) (pe_op (op_binC T.andS T.sf_Place (ok_and T) r4 pass0) (pv 4) (pe_op (op_binC T.andS T.sf_Place (ok_and T) r4 pass0) (pv 5) (pv 6))) (nomark _))
            (pw_or1 (pt_cmpR (op_neC T.eqS T.neS (ok_eq T) r2 pass0) (pe_op (op_binC T.andS T.sf_Place (ok_and T) r4 pass0) (pv 4) (pe_mk0 T.mkP (ok_init T) r3 (by rfl) T.mg_Place pass0)) (pe_mk0 T.mkP (ok_init T) r3 (by rfl) T.mg_Place pass0) (nomark _)))))
          (pss_one (ps_ret pe_bl)) pss_nil)
        (pss_jn (ps_set (i := 7) sc_law.nd rfl (.inl rfl) (pe_methR (pv 4) T.cl T.headM (ok_head T) r4 pass0 (pa_cons (pe_cl (ok_draw T) r1 (by rfl) T.mg_law_draw T.kp_law_draw pass0 (pa_cons (pv 1) (pa_cons (pe_op op_add (pe_callB (call_lenC T.lenS (ok_len T) r2 pass0) (by rfl) T.z_len PySem.boot_len (pa_cons (pv 4) pa_nil)) pe_int) pa_nil))) pa_nil)))
        (pss_one (ps_if (PW.pt (pw_or (pt_cmpR (op_neC T.eqS T.neS (ok_eq T) r2 pass0) (pe_op (op_binC T.andS T.sf_Place (ok_and T) r4 pass0) (pv 4) (pv 7)) (pv 7) (nomark _))
            (pw_or (pt_cmpR (op_notInC T.inS (ok_contains T) r3 pass0) (pv 4) (pv 7) rfl)
            (pw_or1 (PW.pt (pw_and (pt_cmpR op_lt (pe_callB (call_lenC T.lenS (ok_len T) r2 pass0) (by rfl) T.z_len PySem.boot_len (pa_cons (pv 4) pa_nil)) pe_int (nomark _))
              (pw_and1 (pt_cmpR (op_neC T.eqS T.neS (ok_eq T) r2 pass0) (pe_op (op_binC T.andS T.sf_Place (ok_and T) r4 pass0) (pe_op (op_binS T.addS T.addB T.sf_Place (ok_add T) r4 pass0) (pv 4) pe_str) (pv 5)) (pe_op (op_binC T.andS T.sf_Place (ok_and T) r4 pass0) (pv 4) (pv 5)) (nomark _)))))))))
          (pss_one (ps_ret pe_bl)) pss_nil)))))))))
      (pss_one (ps_ret pe_bl))), ?_⟩
    refine ⟨_, rfl, a, ns, rfl, hS, fun pn H1 hpn s1 pen1 => ?_⟩
    refine ⟨_, rfl, by decide, by decide, for_range (lo := 0) (n := 5) (fun i σ H' => ∃ v2 v3 v4 v5 v6 v7, σ = [some (.ref a), some (.ref pn), v2, v3, v4, v5, v6, v7] ∧ Pen H' pn (30 * (5 - i))) ⟨_, _, _, _, _, _, rfl, pen1.less (by omega)⟩ ?_ (fun σ H' h => k H')⟩
    rintro i σ H0 hi ⟨v2, v3, v4, v5, v6, v7, rfl, pen0⟩
    obtain ⟨c, hc⟩ : ∃ c, c = 30 * (5 - (i + 1)) := ⟨_, rfl⟩
    have pen0 : Pen H0 pn (c + 30) := pen0.less (by omega)
    clear pen1
    refine ⟨fun σ' H' => ∃ (l : Addr) (ps : List Str) (tv : Option V), σ' = [some (.ref a), some (.ref pn), tv, some (.ref l), v4, v5, v6, v7] ∧ Pen H' pn (c + 29) ∧ H' l = some (.lst (ps.map V.str)) ∧ l ≠ pn ∧ 1 ≤ ps.length ∧ ps.length ≤ 1000 ∧ (∀ n ∈ ps, isNm n = true) ∧ ("q" : Str) ∉ ps, ?_, ?_⟩
    · refine s_set ⟨_, rfl, sz (by show 2 ≤ 1000000; omega), fun p1 h1 => ⟨sz (by show 3 ≤ 1000000; omega), fun p2 h2 => ⟨sz (by show 4 ≤ 1000000; omega), fun p3 h3 => ⟨sz (by show 3 ≤ 1000000; omega), fun p4 h4 => ?_⟩⟩⟩⟩
      obtain ⟨xs, hpl⟩ := pen0.lst
      have a1 := Same.new (o := .lst [V.str "a", V.str "b"]) h1
      have a2 := Same.new (o := .lst [V.str "a", V.str "aa", V.str "aaa"]) h2
      have a3 := Same.new (o := .lst [V.str "0", V.str "a", V.str "abcdefgh", V.str "z"]) h3
      have a4 := Same.new (o := .lst [V.ref p1, V.ref p2, V.ref p3]) h4
      have n1 : p1 ≠ pn := (ne_of_none hpl h1).symm
      have n2 : p2 ≠ pn := (ne_of_none (a1 _ _ hpl) h2).symm
      have n3 : p3 ≠ pn := (ne_of_none ((a1.trans a2) _ _ hpl) h3).symm
      have n4 : p4 ≠ pn := (ne_of_none (((a1.trans a2).trans a3) _ _ hpl) h4).symm
      refine ⟨pn, p4, _, c + 29, rfl, pen0.same (((a1.trans a2).trans a3).trans a4), upd_same, n4, by show 1 ≤ 3; omega, by show 3 ≤ 100000; omega, fun v H5 hv e5 pen5 => ?_⟩
      simp only [List.mem_cons, List.not_mem_nil, or_false] at hv
      rcases hv with rfl | rfl | rfl
      · exact ⟨p1, ["a", "b"], _, rfl, pen5, e5 _ _ n1 (((a2.trans a3).trans a4) _ _ upd_same), n1, by decide, by decide, by decide +kernel, by decide +kernel⟩
      · exact ⟨p2, ["a", "aa", "aaa"], _, rfl, pen5, e5 _ _ n2 ((a3.trans a4) _ _ upd_same), n2, by decide, by decide, by decide +kernel, by decide +kernel⟩
      · exact ⟨p3, ["0", "a", "abcdefgh", "z"], _, rfl, pen5, e5 _ _ n3 (a4 _ _ upd_same), n3, by decide, by decide, by decide +kernel, by decide +kernel⟩
    rintro σ H5 ⟨l, ps, tv, rfl, pen5, hl, hne, l1, l2, hps, hq⟩
    refine ⟨fun σ' H' => ∃ x y z ns ms ks, σ' = [some (.ref a), some (.ref pn), tv, some (.ref l), some (.ref x), some (.ref y), some (.ref z), v7] ∧ Pen H' pn (c + 2) ∧ Pl A H' x ns ∧ Pl A H' y ms ∧ Pl A H' z ks ∧ ("q" : Str) ∉ ms, ?_, ?_⟩
    · refine ⟨_, rfl, _, rfl, pn, l, ps, c + 20, rfl, pen5, hl, hne, l1, l2, hps, fun x ns H6 e6 pen6 px hx => ?_⟩
      obtain ⟨xs6, hp6⟩ := pen6.lst
      have hl6 := e6 _ _ hne hl
      refine ⟨_, rfl, _, rfl, pn, l, ps, c + 11, rfl, pen6, hl6, hne, l1, l2, hps, fun y ms H7 e7 pen7 py hy => ?_⟩
      obtain ⟨xs7, hp7⟩ := pen7.lst
      have hl7 := e7 _ _ hne hl6
      refine ⟨_, rfl, _, rfl, pn, l, ps, c + 2, rfl, pen7, hl7, hne, l1, l2, hps, fun z ks H8 e8 pen8 pz hz => ?_⟩
      exact ⟨_, _, _, rfl, x, y, z, ns, ms, ks, rfl, pen8, (px.sam hp6 e7).sam hp7 e8, py.sam hp7 e8, pz, fun e => hq (hy _ e)⟩
    rintro σ H6 ⟨x, y, z, ns, ms, ks, rfl, pen6, px, py, pz, hq⟩
    refine ⟨_, rfl, x, _, rfl, px, fun H7 s7 => ⟨_, rfl, iteF' rfl ?_⟩⟩
    refine ⟨_, rfl, y, _, rfl, py.same s7, fun H8 s8 => ⟨_, rfl, iteF' rfl ?_⟩⟩
    have t8 := s7.trans s8
    refine ⟨_, rfl, z, _, rfl, pz.same t8, fun H9 s9 => ⟨_, rfl, iteF' rfl ?_⟩⟩
    have t9 := t8.trans s9
    refine ⟨_, rfl, _, rfl, x, y, _, _, rfl, px.same t9, py.same t9, fun H10 s10 => ⟨_, rfl, iteF' rfl ?_⟩⟩
    have t10 := t9.trans s10
    refine ⟨_, rfl, _, rfl, x, z, _, _, rfl, px.same t10, pz.same t10, fun H11 s11 => ⟨_, rfl, iteF' rfl ?_⟩⟩
    have t11 := t10.trans s11
    refine ⟨_, rfl, _, rfl, z, z, _, _, rfl, pz.same t11, pz.same t11, fun H12 s12 => ⟨_, rfl, iteF' rfl ?_⟩⟩
    have t12 := t11.trans s12
    refine ⟨_, rfl, _, rfl, v_and (px.same t12) (py.same t12) fun u1 H13 hu1 s13 q1 => ?_⟩
    have t13 := t12.trans s13
    refine ⟨_, rfl, v_and q1 (pz.same t13) fun u2 H14 hu2 s14 q2 => ?_⟩
    have t14 := t13.trans s14
    refine ⟨_, rfl, _, rfl, _, rfl, v_and (py.same t14) (pz.same t14) fun u3 H15 hu3 s15 q3 => ?_⟩
    have t15 := t14.trans s15
    refine v_and (px.same t15) q3 fun u4 H16 hu4 s16 q4 => v_eq (q2.same (s15.trans s16)) q4 ⟨_, rfl, iteF' (by rw [com_assoc]; simp) ?_⟩
    have t16 := t15.trans s16
    refine ⟨_, rfl, v_mk0 fun u5 H17 hu5 s17 q5 => v_and (px.same (t16.trans s17)) q5 fun u6 H18 hu6 s18 q6 => v_mk0 fun u7 H19 hu7 s19 q7 => v_eq (q6.same s19) q7 ⟨_, rfl, iteF' (by rw [com_nil]; simp) ?_⟩⟩
    have t19 := ((t16.trans s17).trans s18).trans s19
    have px1 := px.same t19
    have py1 := py.same t19
    have pen7 := pen6.same t19
    refine ⟨fun σ' H' => ∃ u k, σ' = [some (.ref a), some (.ref pn), tv, some (.ref l), some (.ref x), some (.ref y), some (.ref z), some (.ref u)] ∧ Pen H' pn (c + 1) ∧ Pl A H' x ns ∧ Pl A H' y ms ∧ Pl A H' u (ns.take k), ?_, ?_⟩
    · obtain ⟨dx, fx, ex, lx⟩ := px1.m (m := "head") (by decide)
      have g8 := px1.good.1
      obtain ⟨xs7, hp7⟩ := pen7.lst
      refine ⟨_, rfl, x, dx, fx, rfl, ex, lx, _, rfl, _, rfl, v_len px1 ⟨_, _, rfl, rfl, pn, _, c + 1, rfl, pen7, by omega, by omega, fun d H20 hd e20 pen8 => ?_⟩⟩
      have px2 := px1.sam hp7 e20
      exact ⟨x, ns, d, rfl, px2, by omega, fun u H21 hu s21 pu => ⟨u, d, rfl, pen8.same s21, px2.same s21, (py1.sam hp7 e20).same s21, pu⟩⟩
    rintro σ H20 ⟨u, d, rfl, pen8, px2, py2, pu⟩
    refine ⟨_, rfl, _, rfl, v_and px2 pu fun u8 H21 hu8 s21 q8 => ⟨_, rfl, v_eq q8 (pu.same s21) ⟨_, rfl, iteF' (by rw [com_takeR]; simp) ?_⟩⟩⟩
    refine ⟨_, rfl, _, rfl, v_in (pu.same s21) (px2.same s21) fun H22 s22 => ⟨_, rfl, iteF' ?_ ?_⟩⟩
    · have : ns.take (ns.take d).length = ns.take d := by
        rw [List.length_take]
        by_cases h : d ≤ ns.length
        · rw [Nat.min_eq_left h]
        · rw [Nat.min_eq_right (by omega), List.take_length, List.take_of_length_le (by omega)]
      rw [decide_eq_true this]; rfl
    have t22 := s21.trans s22
    have fin : ∀ H', Same H20 H' → Pen H' pn (30 * (5 - (i + 1))) := fun H' e => hc ▸ (pen8.same e).less (by omega)
    refine ⟨_, rfl, v_len (px2.same t22) ⟨_, _, rfl, rfl, _, rfl, ?_⟩⟩
    by_cases h8 : ns.length < 8
    · refine iteT' (decide_eq_true (by omega)) ?_
      refine ⟨_, rfl, v_add (px2.same t22) (by decide +kernel) h8 fun u9 H23 hu9 s23 q9 => ?_⟩
      have t23 := t22.trans s23
      refine ⟨_, rfl, v_and q9 (py2.same t23) fun u10 H24 hu10 s24 q10 => ⟨_, rfl, _, rfl, v_and (px2.same (t23.trans s24)) (py2.same (t23.trans s24)) fun u11 H25 hu11 s25 q11 => v_eq (q10.same s25) q11 ⟨_, rfl, iteF' (by rw [com_snoc _ _ _ hq]; simp) ?_⟩⟩⟩
      exact ⟨_, _, _, _, _, _, rfl, fin _ ((t23.trans s24).trans s25)⟩
    · exact iteF' (decide_eq_false (by omega)) ⟨_, _, _, _, _, _, rfl, fin _ t22⟩
end
theorem all_mk {l : PySem.W.OpenLaw} {w : World} {K : PySem.W.Frag} {mg : Str → Option Value} {fa : Addr} {A : Ad} (hfa : mg "law" = some (.ref fa)) (T : Tx K mg A) :
    ∃ fd : FuncData, (∀ (s : Shared) (v : Value), BindsTo s fd ⟨[v], []⟩ [("_law_script", v)]) ∧ ∀ base : Heap, K.In base → base.Ns mainGlobals mg → FnOk l.prog w K mg base CX0 20 fa fd ["_law_script"] (spLaw K) := by
  obtain ⟨fd, F⟩ := T.F_law
  have e : fa = A.f_law := by
    have := hfa.symm.trans T.mg_law
    injection this with h
    injection h
  subst e
  refine ⟨fd, fun s v => ?_, fun base _ _ => (ok_law T F).mono (by decide)⟩
  obtain ⟨oc, od, kV, doc, pm, an, cdv, ct, osl, e, lk, hcd⟩ := id F.ex
  subst e
  exact .of_eq rfl
end NK

namespace NK
open PySem PySem.Spec PyProof.Rows L2 NA
theorem walk {l : PySem.W.OpenLaw} {q : Program} {loose : List Str} {XP : (Str → Option Value) → Heap → Prop} {YP : World → Heap → Prop} {d : DefRec} {K : Params → PySem.W.Frag} (hn : l.most = some 63) (hdf : d.params.defaults = [])
    (hY : ∀ (w : World) (h : Heap), YP w h → (K w.params).In h)
    (F : ∀ (w : World) (mg : Str → Option Value) (fa : Addr) (h : Heap), (K w.params).In h → h.Ns mainGlobals mg → mg d.name = some (.ref fa) →
      ∃ fd : FuncData, (∀ (s : Shared) (u : Value), BindsTo s fd ⟨[u], []⟩ [("_law_script", u)]) ∧ ∀ base : Heap, (K w.params).In base → base.Ns mainGlobals mg → FnOk l.prog w (K w.params) mg base CX0 20 fa fd ["_law_script"] (spLaw (K w.params))) :
    PySem.W.WalkO q loose XP YP l.row.toRowW d [] (fun f vs => PySem.call f vs) :=
  L2.walk_of (n := 63) (k := 20) (x := "_law_script") (CX := fun _ => CX0) (sp := fun w => spLaw (K w.params)) hn (by decide) hdf ⟨rfl, by decide, by decide⟩ hY F (fun _ _ a ns hl _ hS => ⟨a, ns, rfl, hS, hl, fun _ => rfl⟩) fun _ _ _ _ _ z => z
end NK
open PySem PySem.W PyProof.Rows in
set_option maxRecDepth 100000 in
set_option maxHeartbeats 0 in
theorem PySem.Challenge.cw_nearestsays_k05_whole_places_meet_holds : PySem.Challenge.rw_nearestsays_k05_whole_places_meet.Holds := by
  w_on; o_law; k_head; (case hw => w_witness2)
  k_fill
  refine NK.walk (l := PySem.Challenge.rw_nearestsays_k05_whole_places_meet) rfl rfl (fun w h Y => PySem.W.kIn_of Y) ?F
  case F =>
    intro w mg fa h KX G hmg
    refine' NK.all_mk hmg (NK.tx_mk KX G ?mg_Place ?pg_Place ?hd_Place ?po_Place ?sa_Place ?mk_Place ?kc_Place ?sf_Place ?ca_Place ?cn_Place ?ct_Place ?cm_Place ?ob_Place ?ne_Place ?rd_Place ?ga_Place ?np_Place ?ic_Place ?ty_Place ?most_Place ?ra_Place ?su_Place ?mg_is_name ?fn_is_name ?l_is_name ?cc_is_name ?kk_is_name ?kp_is_name ?mg_is_integer ?fn_is_integer ?l_is_integer ?cc_is_integer ?kk_is_integer ?kp_is_integer ?mg_is_between ?fn_is_between ?l_is_between ?cc_is_between ?kk_is_between ?kp_is_between ?mg_is_text ?fn_is_text ?l_is_text ?cc_is_text ?kk_is_text ?kp_is_text ?mg_names_in ?fn_names_in ?l_names_in ?cc_names_in ?kk_names_in ?kp_names_in ?mg_text_of ?fn_text_of ?l_text_of ?cc_text_of ?kk_text_of ?kp_text_of ?at_Place_init ?fn_Place_init ?l_Place_init ?cc_Place_init ?kk_Place_init ?kp_Place_init ?at_Place_read ?rc_Place_read ?fi_Place_read ?fn_Place_read ?l_Place_read ?cc_Place_read ?kk_Place_read ?kp_Place_read ?at_Place_names ?ge_Place_names ?tk_Place_names ?rc_Place_names ?fn_Place_names ?l_Place_names ?cc_Place_names ?kk_Place_names ?kp_Place_names ?at_Place_text ?ge_Place_text ?tk_Place_text ?rc_Place_text ?fn_Place_text ?l_Place_text ?cc_Place_text ?kk_Place_text ?kp_Place_text ?at_Place_up ?ge_Place_up ?tk_Place_up ?rc_Place_up ?fn_Place_up ?l_Place_up ?cc_Place_up ?kk_Place_up ?kp_Place_up ?at_Place_head ?fn_Place_head ?l_Place_head ?cc_Place_head ?kk_Place_head ?kp_Place_head ?at_Place_is_ahead ?fn_Place_is_ahead ?l_Place_is_ahead ?cc_Place_is_ahead ?kk_Place_is_ahead ?kp_Place_is_ahead ?at_Place_add ?fn_Place_add ?l_Place_add ?cc_Place_add ?kk_Place_add ?kp_Place_add ?at_Place_contains ?fn_Place_contains ?l_Place_contains ?cc_Place_contains ?kk_Place_contains ?kp_Place_contains ?at_Place_and ?fn_Place_and ?l_Place_and ?cc_Place_and ?kk_Place_and ?kp_Place_and ?at_Place_len ?fn_Place_len ?l_Place_len ?cc_Place_len ?kk_Place_len ?kp_Place_len ?at_Place_bool ?fn_Place_bool ?l_Place_bool ?cc_Place_bool ?kk_Place_bool ?kp_Place_bool ?at_Place_eq ?fn_Place_eq ?l_Place_eq ?cc_Place_eq ?kk_Place_eq ?kp_Place_eq ?mg_law_pen ?fn_law_pen ?l_law_pen ?cc_law_pen ?kk_law_pen ?kp_law_pen ?mg_law_draw ?fn_law_draw ?l_law_draw ?cc_law_draw ?kk_law_draw ?kp_law_draw ?mg_law_pick ?fn_law_pick ?l_law_pick ?cc_law_pick ?kk_law_pick ?kp_law_pick ?mg_law_place ?fn_law_place ?l_law_place ?cc_law_place ?kk_law_place ?kp_law_place ?mg_law_way ?fn_law_way ?l_law_way ?cc_law_way ?kk_law_way ?kp_law_way ?mg_law_way_right ?fn_law_way_right ?l_law_way_right ?cc_law_way_right ?kk_law_way_right ?kp_law_way_right ?mg_law_met_right ?fn_law_met_right ?l_law_met_right ?cc_law_met_right ?kk_law_met_right ?kp_law_met_right ?mg_law ?fn_law ?l_law ?cc_law ?kk_law ?kp_law ?k_SIGNS ?k_LONGEST_NAME ?k_MOST_NAMES ?z_abs ?z_all ?z_bool ?z_enumerate ?z_int ?z_isinstance ?z_len ?z_list ?z_min ?z_range ?z_str ?z_tuple ?ta ?tra)
    (case mg_Place => k_is)
    (case pg_Place => k_is)
    (case hd_Place => k_is)
    (case po_Place => k_is)
    (case sa_Place => k_is)
    (case mk_Place => k_is)
    (case kc_Place => k_is)
    (case sf_Place => k_is)
    (case ca_Place => k_is)
    (case cn_Place => k_is)
    (case ct_Place => k_is)
    (case cm_Place => k_is)
    (case ob_Place => k_is)
    (case ne_Place => k_is)
    (case rd_Place => k_is)
    (case ga_Place => k_is)
    (case np_Place => k_is)
    (case ic_Place => k_is)
    (case ty_Place => k_is)
    (case most_Place => k_is)
    (case ra_Place => k_is)
    (case su_Place => k_is)
    (case mg_is_name => k_is)
    (case fn_is_name => k_is)
    (case l_is_name => k_is)
    (case cc_is_name => k_is)
    (case kk_is_name => k_is)
    (case kp_is_name => k_is)
    (case mg_is_integer => k_is)
    (case fn_is_integer => k_is)
    (case l_is_integer => k_is)
    (case cc_is_integer => k_is)
    (case kk_is_integer => k_is)
    (case kp_is_integer => k_is)
    (case mg_is_between => k_is)
    (case fn_is_between => k_is)
    (case l_is_between => k_is)
    (case cc_is_between => k_is)
    (case kk_is_between => k_is)
    (case kp_is_between => k_is)
    (case mg_is_text => k_is)
    (case fn_is_text => k_is)
    (case l_is_text => k_is)
    (case cc_is_text => k_is)
    (case kk_is_text => k_is)
    (case kp_is_text => k_is)
    (case mg_names_in => k_is)
    (case fn_names_in => k_is)
    (case l_names_in => k_is)
    (case cc_names_in => k_is)
    (case kk_names_in => k_is)
    (case kp_names_in => k_is)
    (case mg_text_of => k_is)
    (case fn_text_of => k_is)
    (case l_text_of => k_is)
    (case cc_text_of => k_is)
    (case kk_text_of => k_is)
    (case kp_text_of => k_is)
    (case at_Place_init => k_is)
    (case fn_Place_init => k_is)
    (case l_Place_init => k_is)
    (case cc_Place_init => k_is)
    (case kk_Place_init => k_is)
    (case kp_Place_init => k_is)
    (case at_Place_read => k_is)
    (case rc_Place_read => k_is)
    (case fi_Place_read => k_is)
    (case fn_Place_read => k_is)
    (case l_Place_read => k_is)
    (case cc_Place_read => k_is)
    (case kk_Place_read => k_is)
    (case kp_Place_read => k_is)
    (case at_Place_names => k_is)
    (case ge_Place_names => k_is)
    (case tk_Place_names => k_is)
    (case rc_Place_names => k_is)
    (case fn_Place_names => k_is)
    (case l_Place_names => k_is)
    (case cc_Place_names => k_is)
    (case kk_Place_names => k_is)
    (case kp_Place_names => k_is)
    (case at_Place_text => k_is)
    (case ge_Place_text => k_is)
    (case tk_Place_text => k_is)
    (case rc_Place_text => k_is)
    (case fn_Place_text => k_is)
    (case l_Place_text => k_is)
    (case cc_Place_text => k_is)
    (case kk_Place_text => k_is)
    (case kp_Place_text => k_is)
    (case at_Place_up => k_is)
    (case ge_Place_up => k_is)
    (case tk_Place_up => k_is)
    (case rc_Place_up => k_is)
    (case fn_Place_up => k_is)
    (case l_Place_up => k_is)
    (case cc_Place_up => k_is)
    (case kk_Place_up => k_is)
    (case kp_Place_up => k_is)
    (case at_Place_head => k_is)
    (case fn_Place_head => k_is)
    (case l_Place_head => k_is)
    (case cc_Place_head => k_is)
    (case kk_Place_head => k_is)
    (case kp_Place_head => k_is)
    (case at_Place_is_ahead => k_is)
    (case fn_Place_is_ahead => k_is)
    (case l_Place_is_ahead => k_is)
    (case cc_Place_is_ahead => k_is)
    (case kk_Place_is_ahead => k_is)
    (case kp_Place_is_ahead => k_is)
    (case at_Place_add => k_is)
    (case fn_Place_add => k_is)
    (case l_Place_add => k_is)
    (case cc_Place_add => k_is)
    (case kk_Place_add => k_is)
    (case kp_Place_add => k_is)
    (case at_Place_contains => k_is)
    (case fn_Place_contains => k_is)
    (case l_Place_contains => k_is)
    (case cc_Place_contains => k_is)
    (case kk_Place_contains => k_is)
    (case kp_Place_contains => k_is)
    (case at_Place_and => k_is)
    (case fn_Place_and => k_is)
    (case l_Place_and => k_is)
    (case cc_Place_and => k_is)
    (case kk_Place_and => k_is)
    (case kp_Place_and => k_is)
    (case at_Place_len => k_is)
    (case fn_Place_len => k_is)
    (case l_Place_len => k_is)
    (case cc_Place_len => k_is)
    (case kk_Place_len => k_is)
    (case kp_Place_len => k_is)
    (case at_Place_bool => k_is)
    (case fn_Place_bool => k_is)
    (case l_Place_bool => k_is)
    (case cc_Place_bool => k_is)
    (case kk_Place_bool => k_is)
    (case kp_Place_bool => k_is)
    (case at_Place_eq => k_is)
    (case fn_Place_eq => k_is)
    (case l_Place_eq => k_is)
    (case cc_Place_eq => k_is)
    (case kk_Place_eq => k_is)
    (case kp_Place_eq => k_is)
    (case mg_law_pen => k_is)
    (case fn_law_pen => k_is)
    (case l_law_pen => k_is)
    (case cc_law_pen => k_is)
    (case kk_law_pen => k_is)
    (case kp_law_pen => k_is)
    (case mg_law_draw => k_is)
    (case fn_law_draw => k_is)
    (case l_law_draw => k_is)
    (case cc_law_draw => k_is)
    (case kk_law_draw => k_is)
    (case kp_law_draw => k_is)
    (case mg_law_pick => k_is)
    (case fn_law_pick => k_is)
    (case l_law_pick => k_is)
    (case cc_law_pick => k_is)
    (case kk_law_pick => k_is)
    (case kp_law_pick => k_is)
    (case mg_law_place => k_is)
    (case fn_law_place => k_is)
    (case l_law_place => k_is)
    (case cc_law_place => k_is)
    (case kk_law_place => k_is)
    (case kp_law_place => k_is)
    (case mg_law_way => k_is)
    (case fn_law_way => k_is)
    (case l_law_way => k_is)
    (case cc_law_way => k_is)
    (case kk_law_way => k_is)
    (case kp_law_way => k_is)
    (case mg_law_way_right => k_is)
    (case fn_law_way_right => k_is)
    (case l_law_way_right => k_is)
    (case cc_law_way_right => k_is)
    (case kk_law_way_right => k_is)
    (case kp_law_way_right => k_is)
    (case mg_law_met_right => k_is)
    (case fn_law_met_right => k_is)
    (case l_law_met_right => k_is)
    (case cc_law_met_right => k_is)
    (case kk_law_met_right => k_is)
    (case kp_law_met_right => k_is)
    (case mg_law => k_is)
    (case fn_law => k_is)
    (case l_law => k_is)
    (case cc_law => k_is)
    (case kk_law => k_is)
    (case kp_law => k_is)
    (case k_SIGNS => k_is)
    (case k_LONGEST_NAME => k_is)
    (case k_MOST_NAMES => k_is)
    (case z_abs => k_is)
    (case z_all => k_is)
    (case z_bool => k_is)
    (case z_enumerate => k_is)
    (case z_int => k_is)
    (case z_isinstance => k_is)
    (case z_len => k_is)
    (case z_list => k_is)
    (case z_min => k_is)
    (case z_range => k_is)
    (case z_str => k_is)
    (case z_tuple => k_is)
    (case ta => k_is)
    (case tra => k_is)

