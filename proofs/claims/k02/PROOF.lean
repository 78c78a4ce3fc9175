import PyProof.Rows.All
import Wide.All
import OpenK.AllK
import Wide.FinOn
import HandS.ForMost
import HandS.Star
import HandS.Property
import HandS.ClsMeth
import HandS.OwnEq
import HandS.SlotsOwn
import HandS.TupAny
import HandS.IsInst
import HandS.Defaults
import KE.KOpsOwn
import PyProof.InstEq
import HandS.Walk
import KE.LtData
import HandS.Records
import HandS.Style
import KE.KExcSuper
import HandS.ExcInit
import HandS.Exc
import HandS.ExcField
import HandS.ExcIs
import HandS.Lambda
import HandS.EndTab
import HandS.ExcValue
import KE.KExcIs
import HandS.WordsExc
import PyProof.ReprRoads
import KE.KCallOwn
import HandS.FStr
import PySem.Challenge.RW_nearestsays_k02_texts_of_places_read
import PyProof.StrLawsRepr
set_option Elab.async false
set_option linter.all false
set_option maxRecDepth 100000
set_option maxHeartbeats 4000000
/-! Part A: rules for own classes that the hand layer lacks. -/
namespace NA
open PySem PySem.Spec PyProof.Rows L2

section
variable {prog : Program} {w : World} {A : Around} {E : Value → Shared → Prop} {s : Shared} {K : PySem.W.Frag} {x C L f : Addr} {h0 : Heap} {m : Str → Option Value} {ox : Obj} {od : Option Obj} {b tb : Value}
/-- object.__ne__ on an instance with its own == -/
theorem ne_call {Q : Value → Shared → Prop} (hu : A.in1.units < cLine) (X : K.In s.heap) (I : PySem.W.InstAt s.heap x ox C od) (ho : PySem.W.subIn K (.ref C) (.type "object") = some true) (hs : PySem.W.findIn K (.ref C) "__eq__" = some (some (.ref f))) (hf : PySem.W.isFn K (.ref f) = true)
    (h : wpAny (model prog w) A.in1 (call (.ref f) [.ref x, b]) (fun v s' => ∃ r, v = .bool r ∧ Q (.bool (!r)) s') E s) : wpAny (model prog w) A (call (.builtin "object.__ne__") [.ref x, b]) Q E s := by
  refine wpAny_call (codeAny_call_builtin F.cmp_object.ne.plain F.cmpEntry_ne (PySem.W.check_slot F.cmpKind_ne F.cmpSplit_ne (I.type.andThen (PySem.W.looks_subIn X ho)) (F.cmpArgs_ne _ _) ?_))
  show wpAny (model prog w) A.in1 (Builtin.«object.__ne__» ⟨[.ref x, b], []⟩) _ _ s
  unfold Builtin.«object.__ne__»
  repeat (first
    | with_reducible refine wpAny_cRoomFor hu ?_
    | (refine wpAny_bind (m := callSpecialIfBound? (.ref x) (Str.ofString "__eq__") [b])
        (PySem.W.ifBound_K X I hs hf (wpAny_mono h (fun r s' hr => by
          obtain ⟨b, rfl, hq⟩ := hr
          repeat (first | exact hq | exact wpAny_pure hq | exact wpAny_truthy_bool hq | (refine wpAny_bind (m := truthy (.bool _)) (wpAny_truthy_bool ?_)) | wp_step)) fun _ _ e => e)))
    | wp_step)
theorem ifBound_b {M : Model} {name : Str} {id : String} {args : List Value} {Q : Option Value → Shared → Prop} (X : K.In s.heap) (I : PySem.W.InstAt s.heap x ox C od) (hs : PySem.W.findIn K (.ref C) name = some (some (.builtin id))) (S : Slot "object" name id)
    (h : wpAny M A (call (.builtin id) (.ref x :: args)) (fun v => Q (some v)) E s) : wpAny M A (callSpecialIfBound? (.ref x) name args) Q E s := by
  simp only [callSpecialIfBound?, bindSpecialIfBound?]
  refine wpAny_holding (wpAny_bind (wpAny_bind (wpAny_bind (I.type.here ((PySem.W.looks_findIn X hs).here ?_)))))
  simp only [S.bind]
  refine wpAny_bind (wpAny_askSetting (wpAny_ite ?_))
  have fin : wpAny M A (call (.builtin id) ([.ref x] ++ args) >>= fun v => pure (some v)) Q E s := wpAny_bind (wpAny_mono h (fun v s' h' => wpAny_pure h') fun _ _ h' => h')
  split
  · exact wpAny_bind (wpAny_pure (wpAny_pure fin))
  · exact wpAny_tryCatch (wpAny_bind (wpAny_pure (wpAny_pure fin)))
theorem ne_K {Q : Value → Shared → Prop} (hu : A.units + 1 < cLine) (X : K.In s.heap) (I : PySem.W.InstAt s.heap x ox C od) (hb : PySem.W.Looks (model prog w) s.heap (typeOf b) tb) (hn : PySem.W.notFirst K C tb = true)
    (ho : PySem.W.subIn K (.ref C) (.type "object") = some true) (hne : PySem.W.findIn K (.ref C) "__ne__" = some (some (.builtin "object.__ne__"))) (hs : PySem.W.findIn K (.ref C) "__eq__" = some (some (.ref f))) (hf : PySem.W.isFn K (.ref f) = true)
    (h : wpAny (model prog w) A.in1 (call (.ref f) [.ref x, b]) (fun v s' => ∃ r, v = .bool r ∧ Q (.bool (!r)) s') E s) : wpAny (model prog w) A (richCompare .NotEq (.ref x) b) Q E s := by
  have one : wpAny (model prog w) A (tryCompare (.ref x) (cmpInfo .NotEq).2.1 b) (fun r s' => ∃ v, r = some v ∧ Q v s') E s := by
    unfold tryCompare
    refine wpAny_bind (ifBound_b X I hne F.cmp_object.ne (ne_call hu X I ho hs hf (wpAny_mono h (fun v s' hv => ?_) fun _ _ e => e)))
    obtain ⟨r, rfl, hq⟩ := hv
    exact ⟨r, rfl, wpAny_pure ⟨_, rfl, hq⟩⟩
  unfold richCompare
  simp only [oneThing_ref]
  refine wpAny_holding (wpAny_bind (wpAny_cRoomFor (Nat.lt_of_succ_lt hu) ?_))
  refine wpAny_bind (I.type.here (wpAny_bind (hb.here ?_)))
  split
  · rename_i q
    have e : PySem.W.subIn K tb (.ref C) = some false := by
      rcases Bool.or_eq_true_iff.mp hn with e | e
      · rw [beq_iff_eq.mp e] at q; simp at q
      · exact beq_iff_eq.mp e
    refine wpAny_bind ((PySem.W.looks_subIn X e).here ?_)
    simp only [Bool.false_eq_true, if_false]
    refine wpAny_bind (wpAny_mono one (fun r s' z => ?_) fun _ _ e => e)
    obtain ⟨v, rfl, hq⟩ := z
    exact wpAny_pure hq
  · refine wpAny_bind (wpAny_pure ?_)
    simp only [Bool.false_eq_true, if_false]
    refine wpAny_bind (wpAny_mono one (fun r s' z => ?_) fun _ _ e => e)
    obtain ⟨v, rfl, hq⟩ := z
    exact wpAny_pure hq
end

/-! ### over the layer -/
section
variable {X : Cx} {CX : CXT} {pins : List (Addr × Obj)} {σ : L2.St} {H : Hp} {s : Shared} {C f : Addr} {n : Nat} {sp : Sp} {E : XK}
/-- an instance's record -/
theorem inst_of {a dx : Addr} {fs : List (Str × V)} (I : Inv X pins σ H s) (h : H a = some (.ins C dx fs)) : ∃ od, PySem.W.InstAt s.heap a (PySem.W.instObj C dx) C (some od) := by
  obtain ⟨mA, O, _⟩ := ins_get I.hok h
  obtain ⟨od, J, _⟩ := O.look
  exact ⟨od, J⟩
/-- the callee somewhere below the running body -/
theorem run_sub {A : Around} {Q : VK} {us : List Value} {vs : List V} (F : FnR X.prog X.w X.K X.mg X.base CX n f sp) (hr : Room n A) (fr : A.frames = X.A.frames) (hx : Passes CX X E) (I : Inv X pins σ H s) (r : Vals vs us) (h : sp vs H Q E) :
    wpAny (model X.prog X.w) A (call (.ref f) us) (EP X pins σ Q) X.xe s := by
  have e := I.env0
  exact wpAny_call (SlX.run_at F hr ⟨by rw [fr]; exact e.frames, e.mod, e.bs, e.bsz, e.funs, e.frf, e.hok, e.bare⟩ hx I r h)

/-- what the text says of an own special method -/
structure Spc (K : PySem.W.Frag) (C : Addr) (name : Str) (f : Addr) : Prop where
  at_ : PySem.W.findIn K (.ref C) name = some (some (.ref f))
  fn : PySem.W.isFn K (.ref f) = true

/-- a op b, both of the class at C -/
def rBinC (C : Addr) (sp : Sp) (E : XK) : R2 := fun x y H Q => ∃ a dx fs b dy gs, x = .ref a ∧ y = .ref b ∧ H a = some (.ins C dx fs) ∧ H b = some (.ins C dy gs) ∧ sp [x, y] H Q E
theorem op_binC {op : Operator} (S : Spc X.K C (PySem.dunder op.info.2) f) (hc : PySem.W.selfFirst X.K C = true) (F : FnR X.prog X.w X.K X.mg X.base CX n f sp) (hr : Room n X.A) (hx : Passes CX X E) : OpR X (binaryOp op) (rBinC C sp E) := by
  intro pins s σ H x y v u Q I rx ry h
  obtain ⟨a, dx, fs, b, dy, gs, rfl, rfl, ha, hb, q⟩ := h
  cases (show v = Value.ref a from rx)
  cases (show u = Value.ref b from ry)
  obtain ⟨od, J⟩ := inst_of I ha
  obtain ⟨od', J'⟩ := inst_of I hb
  obtain ⟨m, hF⟩ := I.fr
  refine PySem.W.binop_K hF I.ok.mod.kin J J'.type hc S.at_ S.fn ?_
  refine wpAny_mono (run_sub (vs := [.ref a, .ref b]) F hr rfl hx I (.cons rfl (.cons rfl .nil)) q) (fun w s' z => ?_) fun _ _ x => x
  obtain ⟨z', H', I', rz, qz⟩ := z
  exact SlX.cmpback rz ⟨z', H', I', rz, qz⟩
/-- a op y, a of the class at C, y a text -/
def rBinS (C : Addr) (sp : Sp) (E : XK) : R2 := fun x y H Q => ∃ a dx fs z, x = .ref a ∧ y = .str z ∧ H a = some (.ins C dx fs) ∧ sp [x, y] H Q E
structure BinT (K : PySem.W.Frag) (C : Addr) (nm T : String) : Prop where
  r : ∃ rc, PySem.W.findIn K (.ref C) (dunderR nm) = some rc ∧ (rc = none ∨ ∃ g : Addr, rc = some (.ref g))
  t : ∃ fo, PySem.W.findIn K (.type T) (PySem.dunder nm) = some fo
  tr : ∃ ro, PySem.W.findIn K (.type T) (dunderR nm) = some ro
  sub : PySem.W.subIn K (.type T) (.ref C) = some false
theorem op_binS {op : Operator} (S : Spc X.K C (PySem.dunder op.info.2) f) (B : BinT X.K C op.info.2 "str") (hc : PySem.W.selfFirst X.K C = true) (F : FnR X.prog X.w X.K X.mg X.base CX n f sp) (hr : Room n X.A) (hx : Passes CX X E) : OpR X (binaryOp op) (rBinS C sp E) := by
  intro pins s σ H x y v u Q I rx ry h
  obtain ⟨a, dx, fs, z, rfl, rfl, ha, q⟩ := h
  cases (show v = Value.ref a from rx)
  obtain ⟨t, e⟩ := (show ∃ t, u = Value.str z t from ry)
  cases e
  obtain ⟨od, J⟩ := inst_of I ha
  obtain ⟨m, hF⟩ := I.fr
  obtain ⟨rc, h1, h2⟩ := B.r
  obtain ⟨fo, h3⟩ := B.t
  obtain ⟨ro, h4⟩ := B.tr
  refine PySem.W.ksp_binT (T := "str") hF I.ok.mod.kin J rfl hc S.at_ S.fn h1 h2 h3 h4 B.sub ?_
  refine wpAny_mono (run_sub (vs := [.ref a, .str z]) F hr rfl hx I (.cons rfl (.cons ⟨t, rfl⟩ .nil)) q) (fun w s' z => ?_) fun _ _ x => x
  obtain ⟨z', H', I', rz, qz⟩ := z
  exact SlX.cmpback rz ⟨z', H', I', rz, qz⟩

/-- y in a, y not in a: a of the class at C -/
def rInC (C : Addr) (sp : Sp) (E : XK) (neg : Bool) : R2 := fun y x H Q => ∃ a dx fs, x = .ref a ∧ H a = some (.ins C dx fs) ∧ sp [x, y] H (fun v H' => ∃ r, v = .bl r ∧ Q (.bl (if neg then !r else r)) H') E
theorem op_inC (S : Spc X.K C "__contains__" f) (F : FnR X.prog X.w X.K X.mg X.base CX n f sp) (hr : Room n X.A) (hx : Passes CX X E) : OpR X (compareOp .In) (rInC C sp E false) := by
  intro pins s σ H y x u v Q I ry rx h
  obtain ⟨a, dx, fs, rfl, ha, q⟩ := h
  cases (show v = Value.ref a from rx)
  obtain ⟨od, J⟩ := inst_of I ha
  obtain ⟨m, hF⟩ := I.fr
  refine PySem.W.in_K hF I.ok.mod.kin J S.at_ S.fn ?_
  refine wpAny_mono (run_sub (vs := [.ref a, y]) F hr rfl hx I (.cons rfl (.cons ry .nil)) q) (fun w s' z => ?_) fun _ _ x => x
  obtain ⟨z', H', I', rz, r, rfl, qz⟩ := z
  cases (show w = Value.bool r from rz)
  exact wpAny_truthy_bool ⟨.bl r, H', I', rfl, qz⟩
theorem op_notInC (S : Spc X.K C "__contains__" f) (F : FnR X.prog X.w X.K X.mg X.base CX n f sp) (hr : Room n X.A) (hx : Passes CX X E) : OpR X (compareOp .NotIn) (rInC C sp E true) := by
  intro pins s σ H y x u v Q I ry rx h
  obtain ⟨a, dx, fs, rfl, ha, q⟩ := h
  cases (show v = Value.ref a from rx)
  obtain ⟨od, J⟩ := inst_of I ha
  obtain ⟨m, hF⟩ := I.fr
  refine PySem.W.notIn_K hF I.ok.mod.kin J S.at_ S.fn ?_
  refine wpAny_mono (run_sub (vs := [.ref a, y]) F hr rfl hx I (.cons rfl (.cons ry .nil)) q) (fun w s' z => ?_) fun _ _ x => x
  obtain ⟨z', H', I', rz, r, rfl, qz⟩ := z
  cases (show w = Value.bool r from rz)
  exact wpAny_truthy_bool ⟨.bl (!r), H', I', rfl, qz⟩

/-- len(a) -/
def rLenC (C : Addr) (sp : Sp) (E : XK) : List V → Hp → VK → Prop := fun xs H Q => ∃ a dx fs, xs = [.ref a] ∧ H a = some (.ins C dx fs) ∧ sp [.ref a] H (fun v H' => ∃ k : Int, v = .int k ∧ (0 ≤ k ∧ k < 2 ^ 63) ∧ Q v H') E
theorem call_lenC (S : Spc X.K C "__len__" f) (F : FnR X.prog X.w X.K X.mg X.base CX n f sp) (hr : Room (n + 1) X.A) (hx : Passes CX X E) : CallR X (.builtin "len") (rLenC C sp E) := by
  intro pins s σ H xs us Q I r h
  obtain ⟨a, dx, fs, rfl, ha, q⟩ := h
  obtain ⟨u, rfl, ru⟩ := vals1 r
  cases (show u = Value.ref a from ru)
  obtain ⟨od, J⟩ := inst_of I ha
  obtain ⟨m, hF⟩ := I.fr
  refine PySem.W.len_K hF I.ok.mod.kin J S.at_ S.fn ?_
  refine wpAny_mono (run_sub (vs := [.ref a]) F hr.in1 rfl hx I (.cons rfl .nil) q) (fun w s' z => ?_) fun _ _ x => x
  obtain ⟨z', H', I', rz, k, rfl, hk, qz⟩ := z
  obtain ⟨t, e⟩ := (show ∃ t, w = Value.int k t from rz)
  cases e
  exact ⟨hk, ⟨.int k, H', I'.tok _, ⟨_, rfl⟩, qz⟩⟩
/-- the truth of a -/
theorem tru_C (S : Spc X.K C "__bool__" f) (F : FnR X.prog X.w X.K X.mg X.base CX n f sp) (hr : Room n X.A) (hx : Passes CX X E) :
    TruR X (fun x H Q => ∃ a dx fs, x = .ref a ∧ H a = some (.ins C dx fs) ∧ sp [.ref a] H (fun v H' => ∃ r, v = .bl r ∧ Q r H') E) := by
  intro pins s σ H x u Q I rx h
  obtain ⟨a, dx, fs, rfl, ha, q⟩ := h
  cases (show u = Value.ref a from rx)
  obtain ⟨od, J⟩ := inst_of I ha
  obtain ⟨m, hF⟩ := I.fr
  refine PySem.W.truthy_K hF I.ok.mod.kin J S.at_ S.fn ?_
  refine wpAny_mono (run_sub (vs := [.ref a]) F hr rfl hx I (.cons rfl .nil) q) (fun w s' z => ?_) fun _ _ x => x
  obtain ⟨z', H', I', rz, r, rfl, qz⟩ := z
  cases (show w = Value.bool r from rz)
  exact ⟨H', I', qz⟩

/-- a == b, a != b: a of the class at C, b an instance of C too -/
def rEqC (C : Addr) (sp : Sp) (E : XK) (neg : Bool) : R2 := fun x y H Q => ∃ a dx fs b dy gs, x = .ref a ∧ y = .ref b ∧ H a = some (.ins C dx fs) ∧ H b = some (.ins C dy gs) ∧ sp [x, y] H (fun v H' => ∃ r, v = .bl r ∧ Q (.bl (if neg then !r else r)) H') E
theorem notFirst_self {K : PySem.W.Frag} {C : Addr} : PySem.W.notFirst K C (.ref C) = true := by simp [PySem.W.notFirst]
theorem op_eqC (S : Spc X.K C "__eq__" f) (F : FnR X.prog X.w X.K X.mg X.base CX n f sp) (hr : Room n X.A) (hx : Passes CX X E) : OpR X (compareOp .Eq) (rEqC C sp E false) := by
  intro pins s σ H x y v u Q I rx ry h
  obtain ⟨a, dx, fs, b, dy, gs, rfl, rfl, ha, hb, q⟩ := h
  cases (show v = Value.ref a from rx)
  cases (show u = Value.ref b from ry)
  obtain ⟨od, J⟩ := inst_of I ha
  obtain ⟨od', J'⟩ := inst_of I hb
  obtain ⟨m, hF⟩ := I.fr
  show wpAny (model X.prog X.w) X.A (richCompare .Eq (.ref a) (.ref b)) (EP X pins σ Q) X.xe s
  refine PySem.W.cmp_K (op := .Eq) (tb := .ref C) hr.units0 hF I.ok.mod.kin J J'.type notFirst_self S.at_ S.fn ?_
  refine wpAny_mono (run_sub (vs := [.ref a, .ref b]) F hr rfl hx I (.cons rfl (.cons rfl .nil)) q) (fun w s' z => ?_) fun _ _ x => x
  obtain ⟨z', H', I', rz, r, rfl, qz⟩ := z
  cases (show w = Value.bool r from rz)
  exact ⟨.bl r, H', I', rfl, qz⟩
structure NeC (K : PySem.W.Frag) (C : Addr) : Prop where
  ob : PySem.W.subIn K (.ref C) (.type "object") = some true
  ne : PySem.W.findIn K (.ref C) "__ne__" = some (some (.builtin "object.__ne__"))
theorem op_neC (S : Spc X.K C "__eq__" f) (Ne : NeC X.K C) (F : FnR X.prog X.w X.K X.mg X.base CX n f sp) (hr : Room (n + 1) X.A) (hx : Passes CX X E) : OpR X (compareOp .NotEq) (rEqC C sp E true) := by
  intro pins s σ H x y v u Q I rx ry h
  obtain ⟨a, dx, fs, b, dy, gs, rfl, rfl, ha, hb, q⟩ := h
  cases (show v = Value.ref a from rx)
  cases (show u = Value.ref b from ry)
  obtain ⟨od, J⟩ := inst_of I ha
  obtain ⟨od', J'⟩ := inst_of I hb
  show wpAny (model X.prog X.w) X.A (richCompare .NotEq (.ref a) (.ref b)) (EP X pins σ Q) X.xe s
  refine ne_K (tb := .ref C) (hu_of hr) I.kIn J J'.type notFirst_self Ne.ob Ne.ne S.at_ S.fn ?_
  refine wpAny_mono (run_sub (vs := [.ref a, .ref b]) F hr.in1 rfl hx I (.cons rfl (.cons rfl .nil)) q) (fun w s' z => ?_) fun _ _ x => x
  obtain ⟨z', H', I', rz, r, rfl, qz⟩ := z
  cases (show w = Value.bool r from rz)
  exact ⟨r, rfl, .bl (!r), H', I', rfl, qz⟩
end
end NA

/-! Part B: short words over the layer. -/
namespace NA
open PySem PySem.Spec PyProof.Rows L2

def FunE (K : PySem.W.Frag) (x qual : Str) (st : Stmt) (f : Addr) : Prop := ∃ fd, Fun K x qual st f fd
section
variable {P : Program} {w : World} {K : PySem.W.Frag} {mg : Str → Option Value} {base : Heap} {CX : CXT} {k : Nat} {f : Addr} {sp : Sp}
theorem fnr_of {fd : FuncData} {ps : List Str} (F : FnOk P w K mg base CX k f fd ps sp) (hb : Binds K fd ps []) : FnR P w K mg base CX k f sp := by
  refine (F.raw hb .nil).imp fun vs H Q E h => ?_
  show sp (vs ++ []) H Q E
  rw [List.append_nil]
  exact h
/-- a def that lets no error out, by its body -/
theorem fnr {x qual : Str} {st : Stmt} {N ps : List Str} (F : FunE K x qual st f) (S : FnScope N ps (defScope st))
    (hb : ∀ (kV doc pm : Value) (an : Option Addr) (cdv ct : Value) (us : List Value), us.length = ps.length → bindArgs (PySem.W.fnOf x qual (defArgs st) (defBody st) (defScope st) .none kV doc pm an cdv ct) ⟨us, []⟩ = pure (ps.zip us))
    (len : ∀ vs H Q E, sp vs H Q E → vs.length = ps.length)
    (hbody : ∀ (cdv : Value) (A : Around) (outer : List Env) (s : Shared) (H : Hp) (vs : List V) (Q : VK) (E : XK), Room k (A.deeper (envOfC qual (defScope st) s.heap.objs.size f cdv)) → sp vs H Q E →
      ∃ t, PSs (cxOf CX0 P w K mg base N qual (defScope st) f cdv A outer s H E).nox (defBody st) t ∧ t { nx := fun _ H' => Q .non H', rt := Q } (start N vs) H) : FnR P w K mg base CX0 (k + 1) f sp := by
  obtain ⟨fd, F⟩ := F
  exact fnr_of (F.ok S len hbody) (F.binds hb)
end

section
variable {P : Program} {w : World} {K : PySem.W.Frag} {mg : Str → Option Value} {base : Heap} {k : Nat} {f : Addr} {sp : Sp}
/-- a def with *v that lets no error out -/
theorem fnr_star {x qual : Str} {st : Stmt} {N ps : List Str} {pv : Str} (F : FunE K x qual st f) (S : FnScope N (ps ++ [pv]) (defScope st))
    (hb : ∀ (kV doc pm : Value) (an : Option Addr) (cdv ct : Value) (us rest : List Value), us.length = ps.length → bindArgs (PySem.W.fnOf x qual (defArgs st) (defBody st) (defScope st) .none kV doc pm an cdv ct) ⟨us ++ rest, []⟩ = (newTuple rest >>= fun t => pure (ps.zip us ++ [(pv, t)])))
    (hbody : ∀ (cdv : Value) (A : Around) (outer : List Env) (s : Shared) (H : Hp) (vs : List V) (Q : VK) (E : XK), Room k (A.deeper (envOfC qual (defScope st) s.heap.objs.size f cdv)) → sp vs H Q E →
      ∃ t, PSs (cxOf CX0 P w K mg base N qual (defScope st) f cdv A outer s H E).nox (defBody st) t ∧ t { nx := fun _ H' => Q .non H', rt := Q } (start N vs) H) :
    FnR P w K mg base CX0 (k + 1) f (fun vs H Q E => ∃ ws rest, vs = ws ++ rest ∧ ws.length = ps.length ∧ rest.length ≤ sizeLine ∧ ∀ p, H p = Option.none → sp (ws ++ [V.ref p]) (upd H p (.tup rest)) Q E) := by
  obtain ⟨fd, F⟩ := F
  obtain ⟨oc, od, kV, doc, pm, an, cdv, ct, osl, e, lk, hcd⟩ := id F.ex
  subst e
  refine StX.fn_star lk hcd S StX.cxUp_none (hb kV doc pm an cdv ct) fun A outer s H vs Q E hr hsp => ?_
  obtain ⟨t, h, q⟩ := hbody cdv A outer s H vs Q E hr hsp
  exact ⟨t, h.nox, q⟩
end
theorem kit_sub {K : PySem.W.Frag} {t : Value} {C : Addr} {b : Bool} (hne : (t == .ref C) = false) (h1 : PySem.W.isClsIn K C = true) (h2 : PySem.W.typeIn K (.ref C) = some (.type "type")) (h3 : PySem.W.subIn K t (.ref C) = some b) : PySem.W.kitOne K t (.ref C) = some b := by
  unfold PySem.W.kitOne
  rw [if_neg (by rw [hne]; exact Bool.false_ne_true)]
  show (if ((PySem.W.clsIn K C).isSome && PySem.W.typeIn K (.ref C) == some (.type "type")) = true then PySem.W.subIn K t (.ref C) else none) = some b
  have h1' : (PySem.W.clsIn K C).isSome = true := h1
  rw [h1', h2, if_pos (by rfl), h3]
theorem kit_self {K : PySem.W.Frag} {t : Value} : PySem.W.kitOne K t t = some true := if_pos (beq_self_eq_true _)

/-! ### calls by positional promises -/
section
variable {X : Cx} {CX : CXT} {k i : Nat} {f C : Addr} {sp : Sp} {E : XK} {x m : Str} {e o : Expr} {es : List Expr} {te ta : TE} {t : TA} {p sp_ pos apos : Pos}
/-- f(e, ..) -/
def tCl (sp : Sp) (E : XK) (t : TA) : TE := fun σ H Q => t σ H fun vs H1 => sp vs H1 Q E
theorem pe_cl (F : FnR X.prog X.w X.K X.mg X.base CX k f sp) (hr : Room k X.A) (hg : Gl X x) (hm : X.mg x = some (.ref f)) (hk : PySem.W.keepIn X.K (.ref f) = true) (hx : Passes CX X E)
    (ha : PA X (e :: es) t) (hdb : (x == ("__debug__" : Str)) = false := by decide) (he : starEach (e :: es) X.env = (false, eval e X.env) :: starEach es X.env := by rfl) (hpl : (backTo pos (starEach es X.env)).any (·.1) = false := by rfl) :
    PE X (.Call (.Name x p) (e :: es) [] pos) (tCl sp E t) := by
  refine ⟨fun pins s σ H Q I h => ?_⟩
  refine wpAny_Call_Name_kw (ld_glob I hg hm ?_ hdb)
  refine PySem.W.callWith_K (h₀ := X.base) I.ok.mod.kin hk (thn (ha.run pos pins s σ H _ I h) fun us s1 ⟨vs, H1, I1, r, q⟩ => ⟨I1.kIn, ?_⟩) he hpl
  exact wpAny_call (run_fnR F hr hx I1 r q)
theorem pe_cl0 (F : FnR X.prog X.w X.K X.mg X.base CX k f sp) (hr : Room k X.A) (hg : Gl X x) (hm : X.mg x = some (.ref f)) (hk : PySem.W.keepIn X.K (.ref f) = true) (hx : Passes CX X E)
    (hdb : (x == ("__debug__" : Str)) = false := by decide) : PE X (.Call (.Name x p) [] [] pos) (tCl sp E tNil) := by
  refine ⟨fun pins s σ H Q I h => ?_⟩
  refine wpAny_Call_Name_kw (ld_glob I hg hm ?_ hdb)
  exact PySem.W.callWith_K0 I.kIn hk (wpAny_call (run_fnR (us := []) F hr hx I .nil h))
/-- C(), C(*e) of the module's class; cls(*e) of a local name -/
theorem pe_mk0 (M : Mk X.K C f) (F : FnR X.prog X.w X.K X.mg X.base CX k f sp) (hr : Room (k + 1) X.A) (hg : Gl X x) (hm : X.mg x = some (.ref C)) (hx : Passes CX X E)
    (hdb : (x == ("__debug__" : Str)) = false := by decide) : PE X (.Call (.Name x p) [] [] pos) (StX.tMakeR C sp E tNil) := by
  refine ⟨fun pins s σ H Q I h => ?_⟩
  refine wpAny_Call_Name_kw (ld_glob I hg hm ?_ hdb)
  exact PySem.W.callWith_K0 I.kIn M.kp (StX.run_makeR (us := []) M F hr hx I .nil h)
def tMkS (K : PySem.W.Frag) (C : Addr) (sp : Sp) (E : XK) (te : TE) : TE := fun σ H Q => te σ H fun y H1 => ∃ a xs, y = V.ref a ∧ (SqT K H1 a xs ∨ SqL K H1 a xs) ∧ ∀ x dx, H1 x = Option.none → H1 dx = Option.none → dx ≠ x →
  sp (V.ref x :: xs) (upd (upd H1 dx (.own x)) x (.ins C dx [])) (fun v H2 => v = .non ∧ Q (.ref x) H2) E
theorem pe_mkS (M : Mk X.K C f) (F : FnR X.prog X.w X.K X.mg X.base CX k f sp) (hr : Room (k + 1) X.A) (hg : Gl X x) (hm : X.mg x = some (.ref C)) (hx : Passes CX X E) (he : PE X e te)
    (hdb : (x == ("__debug__" : Str)) = false := by decide) (hst : starEach [.Starred e sp_] X.env = [(true, eval e X.env)] := by rfl) : PE X (.Call (.Name x p) [.Starred e sp_] [] pos) (tMkS X.K C sp E te) := by
  refine ⟨fun pins s σ H Q I h => ?_⟩
  refine wpAny_Call_Name_kw (ld_glob I hg hm ?_ hdb)
  refine PySem.W.callWith_S (h₀ := X.base) I.ok.mod.kin M.kp (thn (he.run pins s σ H _ I h) fun v s1 ⟨y, H1, I1, ry, a, xs, ey, hxs, q⟩ => ?_) hst
  subst ey
  obtain rfl : v = Value.ref a := ry
  exact StX.star_any I1 hxs fun us s2 I2 rv => ⟨I2.kIn, StX.run_makeR M F hr hx I2 rv q⟩
def tMkSL (K : PySem.W.Frag) (C : Addr) (i : Nat) (sp : Sp) (E : XK) (te : TE) : TE := fun σ H Q => σ[i]? = some (some (.ref C)) ∧ tMkS K C sp E te σ H Q
theorem pe_mkSL (M : Mk X.K C f) (F : FnR X.prog X.w X.K X.mg X.base CX k f sp) (hr : Room (k + 1) X.A) (hN : X.N[i]? = some x) (hv : Vis X.env.scope x) (hx : Passes CX X E) (he : PE X e te)
    (hd : (x == ("__debug__" : Str)) = false := by decide) (hcd : (x == ("__classdict__" : Str)) = false := by decide) (hst : starEach [.Starred e sp_] X.env = [(true, eval e X.env)] := by rfl) : PE X (.Call (.Name x p) [.Starred e sp_] [] pos) (tMkSL X.K C i sp E te) := by
  refine ⟨fun pins s σ H Q I h => ?_⟩
  obtain ⟨hs, h⟩ := h
  refine wpAny_Call_Name_kw (thn ((pe_var (pos := p) (i := i) hN hv hd hcd).run pins s σ H (fun v H1 => v = .ref C ∧ H1 = H) I ⟨.ref C, hs, rfl, rfl⟩) fun u s1 ⟨v, H1, I1, r1, ev, eH⟩ => ?_)
  subst ev
  rw [eH] at I1
  cases r1
  refine PySem.W.callWith_S (h₀ := X.base) I.ok.mod.kin M.kp (thn (he.run pins s1 σ H _ I1 h) fun v s1 ⟨y, H1, I1, ry, a, xs, ey, hxs, q⟩ => ?_) hst
  subst ey
  obtain rfl : v = Value.ref a := ry
  exact StX.star_any I1 hxs fun us s2 I2 rv => ⟨I2.kIn, StX.run_makeR M F hr hx I2 rv q⟩
/-- o.m() -/
theorem pe_mth0 {pl : Sem Bool} (he : PE X o ta) (c : Cls X.K C) (hm : Meth X.K C m f) (F : FnR X.prog X.w X.K X.mg X.base CX k f sp) (hr : Room k X.A) (hx : Passes CX X E)
    (ht : eval (.Call (.Attribute o m apos) [] [] pos) X.env = (do
      let ov ← eval o X.env
      standAt apos.atName
      let (f, first) ← holding [ov] (getMethod ov m pl)
      callWith pos f first (backTo pos (starEach [] X.env)) (backToKw pos (keywordEach [] X.env))) := by rfl) :
    PE X (.Call (.Attribute o m apos) [] [] pos) (tMethR C m sp E ta tNil) := by
  refine ⟨fun pins s σ H Q I h => ?_⟩
  refine PySem.W.methodCall_KW (pl := pl) (thn (he.run pins s σ H _ I h) fun u s1 ⟨x, H1, I1, rx, a, dx, fs, ex, ea, l, q⟩ => ?_) ht
  subst ex
  obtain rfl : u = Value.ref a := rx
  refine getmeth_ok I1 ea c hm l ?_
  exact PySem.W.callWith_K0 (first := [.ref a]) I1.kIn hm.kp (wpAny_call (run_fnR (us := [.ref a]) (vs := [.ref a]) F hr hx I1 (.cons rfl .nil) q))
/-- e.f, a property -/
def tPrp (C : Addr) (sp : Sp) (E : XK) (ta : TE) : TE := fun σ H Q => ta σ H fun x H1 => ∃ a dx fs, x = .ref a ∧ H1 a = some (.ins C dx fs) ∧ sp [.ref a] H1 Q E
theorem pe_prp {g q : Addr} (he : PE X e ta) (c : Cls X.K C) (hp : PropOf X.K C m q g) (F : FnR X.prog X.w X.K X.mg X.base CX k g sp) (hr : Room (k + 1) X.A)
    (hx : ∀ (H : Hp) (s : Shared) (e : Value) (s' : Shared), CX X.stack H s E e s' → False)
    (hab : attributeBase e m X.env (eval e X.env) = eval e X.env := by rfl) : PE X (.Attribute e m pos) (tPrp C sp E ta) := by
  refine ⟨fun pins s σ H Q I h => ?_⟩
  refine attr_of hab (thn (he.run pins s σ H _ I h) fun u s1 ⟨x, H1, I1, rx, a, dx, fs, ex, ea, q⟩ => ?_)
  subst ex
  obtain rfl : u = Value.ref a := rx
  obtain ⟨mA, O, _⟩ := ins_get I1.hok ea
  obtain ⟨od, J, _⟩ := O.look
  obtain ⟨rest, hrec⟩ := hp.rec_
  have hc : (PySem.W.clsIn X.K C).isSome = true := by
    obtain ⟨cd, hc, _⟩ := PySem.W.any_some c.hd
    rw [hc]
    rfl
  have I2 := I1.tok (s1.toks + 1)
  refine PySem.W.get_bind I1.kIn J (PySem.W.plainGet_of (c.get m)).1 (PySem.W.findObj_data hc hp.at_ hp.get hp.tak) (PySem.W.plainGet_of (c.get m)).2 (wpAny_call (PySem.W.prop_get (s := { s1 with toks := s1.toks + 1 }) I1.kIn hrec ?_))
  refine codeAny_mono (F X.A.in1 X.stack { s1 with toks := s1.toks + 1 } H1 [.ref a] [.ref a] Q E hr.in1 I2.env0.in1 (.cons rfl .nil) q) fun r s' hq => ?_
  cases r with
  | error er => exact (hx _ _ _ _ hq).elim
  | ok fl =>
    cases fl with
    | ret u =>
      obtain ⟨v, H', I3, rv, q3⟩ := I2.after hq
      exact wpAny_of_eq (PySem.W.handedOut_of (handed_of rv)) ⟨v, H', I3, rv, q3⟩
    | next => exact False.elim hq
    | brk => exact False.elim hq
    | cont => exact False.elim hq
end
theorem noErr {X : Cx} : ∀ (H : Hp) (s : Shared) (e : Value) (s' : Shared), CX0 X.stack H s E0 e s' → False := fun _ _ _ _ h => h

/-! ### o.m(k = v, ..) -/
/-- a promise by n positional values and the keywords ks, in the order of the parameters -/
def FnK (P : Program) (w : World) (K : PySem.W.Frag) (mg : Str → Option Value) (base : Heap) (CX : CXT) (k : Nat) (f : Addr) (n : Nat) (ks : List Str) (sp : Sp) : Prop :=
  ∀ (A : Around) (outer : List Env) (s : Shared) (H : Hp) (us ws : List Value) (vs : List V) (Q : VK) (E : XK), Room k A → Env0 P w K mg base A outer s H → us.length = n → ws.length = ks.length → Vals vs (us ++ ws) → sp vs H Q E →
    codeAny (model P w) A (.call (.ref f) ⟨us, ks.zip ws⟩) (CR CX outer P w H s Q E) s
section
variable {P : Program} {w : World} {K : PySem.W.Frag} {mg : Str → Option Value} {base : Heap} {CX : CXT} {k : Nat} {f : Addr} {sp : Sp}
theorem fnk_of {fd : FuncData} {ps ks : List Str} {n : Nat} (F : FnOk P w K mg base CX k f fd ps sp) (hb : ∀ (us ws : List Value), us.length = n → ws.length = ks.length → bindArgs fd ⟨us, ks.zip ws⟩ = pure (ps.zip (us ++ ws))) : FnK P w K mg base CX k f n ks sp := by
  intro A outer s H us ws vs Q E hr e0 h1 h2 r hs
  exact F.run A outer s H ⟨us, ks.zip ws⟩ (us ++ ws) vs Q E hr e0 (.of_eq (hb us ws h1 h2)) r hs
/-- from the def: its promise by position, and by some keywords -/
theorem fnrk {x qual : Str} {st : Stmt} {N ps ks : List Str} {n : Nat} (F : FunE K x qual st f) (S : FnScope N ps (defScope st))
    (hk : ∀ (kV doc pm : Value) (an : Option Addr) (cdv ct : Value) (us ws : List Value), us.length = n → ws.length = ks.length → bindArgs (PySem.W.fnOf x qual (defArgs st) (defBody st) (defScope st) .none kV doc pm an cdv ct) ⟨us, ks.zip ws⟩ = pure (ps.zip (us ++ ws)))
    (len : ∀ vs H Q E, sp vs H Q E → vs.length = ps.length)
    (hbody : ∀ (cdv : Value) (A : Around) (outer : List Env) (s : Shared) (H : Hp) (vs : List V) (Q : VK) (E : XK), Room k (A.deeper (envOfC qual (defScope st) s.heap.objs.size f cdv)) → sp vs H Q E →
      ∃ t, PSs (cxOf CX0 P w K mg base N qual (defScope st) f cdv A outer s H E).nox (defBody st) t ∧ t { nx := fun _ H' => Q .non H', rt := Q } (start N vs) H) : FnK P w K mg base CX0 (k + 1) f n ks sp := by
  obtain ⟨fd, F⟩ := F
  obtain ⟨oc, od, kV, doc, pm, an, cdv, ct, osl, e, lk, hcd⟩ := id F.ex
  refine fnk_of (F.ok S len hbody) fun us ws h1 h2 => ?_
  rw [e]
  exact hk kV doc pm an cdv ct us ws h1 h2
end
section
variable {X : Cx} {CX : CXT} {k n : Nat} {f C : Addr} {sp : Sp} {E : XK} {m : Str} {ks : List Str} {o : Expr} {kws : List Keyword} {ta : TE} {t tk : TA} {pos apos : Pos}
theorem run_fnK {pins : List (Addr × Obj)} {σ : L2.St} {H : Hp} {s : Shared} {Q : VK} {us ws : List Value} {vs : List V} (F : FnK X.prog X.w X.K X.mg X.base CX k f n ks sp) (hr : Room k X.A) (hx : Passes CX X E) (I : Inv X pins σ H s)
    (h1 : us.length = n) (h2 : ws.length = ks.length) (r : Vals vs (us ++ ws)) (h : sp vs H Q E) : wpAny (model X.prog X.w) X.A (call (.ref f) us (ks.zip ws)) (EP X pins σ Q) X.xe s := by
  refine wpAny_call (codeAny_mono (F X.A X.stack s H us ws vs Q E hr I.env0 h1 h2 r h) fun r s' hq => ?_)
  cases r with
  | error e => exact hx pins σ H s e s' I hq
  | ok fl =>
    cases fl with
    | ret u => exact I.after hq
    | next => exact False.elim hq
    | brk => exact False.elim hq
    | cont => exact False.elim hq
def tMthK (C : Addr) (m : Str) (ks : List Str) (sp : Sp) (E : XK) (ta : TE) (tk : TA) : TE := fun σ H Q => ta σ H fun x H1 => ∃ a dx fs, x = .ref a ∧ H1 a = some (.ins C dx fs) ∧ fs.lookup m = none ∧ tk σ H1 fun zs H2 => zs.length = ks.length ∧ sp (x :: zs) H2 Q E
theorem pe_mthK {pl : Sem Bool} (he : PE X o ta) (c : Cls X.K C) (hm : Meth X.K C m f) (F : FnK X.prog X.w X.K X.mg X.base CX k f 1 ks sp) (hr : Room k X.A) (hx : Passes CX X E) (hkw : PK X kws tk)
    (hall : (backToKw pos (keywordEach kws X.env)).all (·.1.isSome) = true := by rfl) (hks : (backToKw pos (keywordEach kws X.env)).filterMap (·.1) = ks := by rfl)
    (hpl : ((backTo pos (starEach [] X.env)).any (·.1) || (backToKw pos (keywordEach kws X.env)).any (·.1.isNone)) = false := by rfl)
    (ht : eval (.Call (.Attribute o m apos) [] kws pos) X.env = (do
      let ov ← eval o X.env
      standAt apos.atName
      let (f, first) ← holding [ov] (getMethod ov m pl)
      callWith pos f first (backTo pos (starEach [] X.env)) (backToKw pos (keywordEach kws X.env))) := by rfl) :
    PE X (.Call (.Attribute o m apos) [] kws pos) (tMthK C m ks sp E ta tk) := by
  refine ⟨fun pins s σ H Q I h => ?_⟩
  refine PySem.W.methodCall_KW (pl := pl) (thn (he.run pins s σ H _ I h) fun u s1 ⟨x, H1, I1, rx, a, dx, fs, ex, ea, l, q⟩ => ?_) ht
  subst ex
  obtain rfl : u = Value.ref a := rx
  refine getmeth_ok I1 ea c hm l ?_
  refine PySem.W.callWith_KW0 (first := [.ref a]) (h₀ := X.base) I.ok.mod.kin hm.kp hall (thn (hkw.run pos pins s1 σ H1 _ I1 q) fun ws s2 ⟨zs, H2, I2, rz, l2, q2⟩ => ⟨I2.kIn, ?_⟩) hpl
  rw [hks]
  exact run_fnK (us := [.ref a]) (vs := .ref a :: zs) F hr hx I2 rfl (by rw [← rz.length]; exact l2) (.cons rfl rz) q2
end
end NA

/-! Part C: rules for sequences that the hand layer lacks. -/
namespace NA
open PySem PySem.Spec PyProof.Rows L2

/-! ### x in list, by an own == -/
section
variable {prog : Program} {w : World} {A : Around} {R : Result → Shared → Prop}
open MeetsSeq MeetsSeq2 MeetsSeq3 SeqRoads2 in
open AutoSeq1 (wpAny_loadPart') in
theorem contains_loopG (l : Addr) (x : Value) (N : Nat) (e : Nat → Bool) (I : Shared → Prop)
    (hl : ∀ s, I s → ∃ (items : Array Value) (n : Nat), s.heap.get? l = some { cls := .type "list", data := .seq items n } ∧ items.size = N ∧
      ∀ i (h1 : i < items.size), wpAny (model prog w) A.in1 (eqBool items[i] x) (fun r s' => r = e i ∧ I s') (fun e s' => R (.error e) s') s)
    (fin : ∀ s, I s → R (.ok (.ret (.bool ((List.range N).any e)))) s) (k : Nat) :
    ∀ i : Nat, N - i = k → i ≤ N → (List.range N).any e = ((List.range N).drop i).any e → ∀ s, I s →
      wpAny (model prog w) A.in1 (Builtin.«list.__contains__.loop» ⟨[.ref l, x, rawInt i], []⟩) (GQ.FinOf prog w A R) (fun e s' => R (.error e) s') s := by
  induction k with
  | zero =>
    intro i hk hi he s h
    obtain ⟨items, n, hl1, hs1, _⟩ := hl s h
    have hR := fin s h
    have hi' : i = N := by omega
    have hd : (List.range N).drop i = [] := by simp; omega
    rw [he, hd] at hR
    obtain ⟨hp, g, d, tk, os⟩ := s
    wp_walk using wpAny_loadPart' hl1
    have hi1 : items[((i : Nat) : Int).toNat]? = none := by simp; omega
    rw [hi1]
    wp_walk
    exact hR
  | succ k ih =>
    intro i hk hi he s h
    obtain ⟨items, n, hl1, hs1, turn⟩ := hl s h
    have hlt : i < items.size := by omega
    have ht := turn i hlt
    have hd : (List.range N).drop i = i :: (List.range N).drop (i + 1) := by
      rw [List.drop_eq_getElem_cons (by simp; omega)]
      simp
    obtain ⟨hp, g, d, tk, os⟩ := s
    wp_walk using wpAny_loadPart' hl1
    have hi1 : items[((i : Nat) : Int).toNat]? = some items[i] := by simp [hlt]
    have hc : ((i : Int) + 1) = ((i + 1 : Nat) : Int) := by omega
    rw [hi1]
    refine wpAny_bind (wpAny_mono ht (fun r s2 h2 => ?_) fun _ _ x => x)
    obtain ⟨hr, h2⟩ := h2
    have hR := fin s2 h2
    rw [he, hd, List.any_cons] at hR
    rw [hd, List.any_cons] at he
    cases hb : e i with
    | true =>
      rw [hb] at hR hr
      subst hr
      obtain ⟨hp2, g2, d2, tk2, os2⟩ := s2
      wp_walk
      exact hR
    | false =>
      rw [hb] at he hr
      subst hr
      have hrec := ih (i + 1) (by omega) (by omega) (by simpa using he) s2 h2
      obtain ⟨hp2, g2, d2, tk2, os2⟩ := s2
      wp_walk
      rw [hc]
      exact ⟨plainId_quiet plain_contains_loop _, codeAny_builtin entry_contains_loop (by
        rw [Around.under_plainId plain_contains_loop _]
        exact hrec)⟩
end
section
variable {prog : Program} {w : World} {A : Around} {E : Value → Shared → Prop} {s : Shared}
open MeetsSeq MeetsSeq2 MeetsSeq3 SeqRoads2 in
open AutoSeq1 (wpAny_loadPart') in
theorem contains_listG {l : Addr} {x : Value} {N : Nat} {Q : Bool → Shared → Prop} (e : Nat → Bool) (I : Shared → Prop)
    (hl : ∀ s, I s → ∃ (items : Array Value) (n : Nat), s.heap.get? l = some { cls := .type "list", data := .seq items n } ∧ items.size = N ∧
      ∀ i (h1 : i < items.size), wpAny (model prog w) A.in1 (eqBool items[i] x) (fun r s' => r = e i ∧ I s') E s)
    (h : I s) (fin : ∀ s', I s' → Q ((List.range N).any e) s') : wpAny (model prog w) A (contains (.ref l) x) Q E s := by
  obtain ⟨items, n, hl1, hs1, _⟩ := hl s h
  refine wpAny_contains_slot ⟨_, hl1, rfl⟩ F.slot_list_contains (GQ.call_here F.slot_list_contains ⟨_, hl1, rfl⟩ F.entry_list_contains (F.args_list_contains_2 _ _) ?_)
  have hloop := contains_loopG (R := wants (fun r s' => wpAny (model prog w) A (truthy r) Q E s') E) (A := A) l x N e I hl (fun s' hs => wpAny_truthy_bool (fin s' hs)) _ 0 rfl (Nat.zero_le _) (by simp) s h
  obtain ⟨hp, g, d, tk, os⟩ := s
  wp_walk using wpAny_loadPart' hl1
  exact ⟨plainId_quiet plain_contains_loop _, codeAny_builtin entry_contains_loop (by
    rw [Around.under_plainId plain_contains_loop _]
    exact hloop)⟩
end
section
variable {X : Cx} {CX : CXT} {C f : Addr} {n : Nat} {sp : Sp} {E : XK}
/-- a in l: instances of the class at C, by their own ==; e i: what == says of the i-th, G: what stands meanwhile -/
def rInL (C : Addr) (sp : Sp) (E : XK) (neg : Bool) : R2 := fun x y H Q => ∃ (l : Addr) (bs : List Addr) (a : Addr) (e : Nat → Bool) (G : Hp → Prop), x = .ref a ∧ y = .ref l ∧ G H ∧
  (∀ H', G H' → H' l = some (.lst (bs.map V.ref)) ∧ (∃ dx fs, H' a = some (.ins C dx fs)) ∧ ∀ i b, bs[i]? = some b → (∃ dx fs, H' b = some (.ins C dx fs)) ∧ (b = a → e i = true) ∧ sp [.ref b, .ref a] H' (fun v H2 => v = .bl (e i) ∧ G H2) E) ∧
  ∀ H', G H' → Q (.bl (if neg then !(List.range bs.length).any e else (List.range bs.length).any e)) H'
theorem eq_in {A : Around} {pins : List (Addr × Obj)} {σ : L2.St} {H : Hp} {s : Shared} {a b : Addr} {r : Bool} {G : Hp → Prop} (S : Spc X.K C "__eq__" f) (F : FnR X.prog X.w X.K X.mg X.base CX n f sp) (hr : Room n A) (fr : A.frames = X.A.frames) (hx : Passes CX X E) (I : Inv X pins σ H s)
    (hb : ∃ dx fs, H b = some (.ins C dx fs)) (ha : ∃ dx fs, H a = some (.ins C dx fs)) (hab : b = a → r = true) (g : G H) (h : sp [.ref b, .ref a] H (fun v H2 => v = .bl r ∧ G H2) E) :
    wpAny (model X.prog X.w) A (eqBool (.ref b) (.ref a)) (fun r' s' => r' = r ∧ ∃ H', Inv X pins σ H' s' ∧ G H') X.xe s := by
  by_cases e : b = a
  · have er := hab e
    subst e er
    exact SeqAt.EqAt.same (A := A) (s := s) (.ref b) X.prog X.w X.xe _ ⟨rfl, H, I, g⟩
  · obtain ⟨dx, fs, hb⟩ := hb
    obtain ⟨dy, gs, ha⟩ := ha
    obtain ⟨od, J⟩ := inst_of I hb
    obtain ⟨od', J'⟩ := inst_of I ha
    obtain ⟨m, hF⟩ := I.fr
    refine GQ.eqBool_refG e (PySem.W.cmp_K (op := .Eq) (tb := .ref C) hr.units0 hF I.ok.mod.kin J J'.type notFirst_self S.at_ S.fn ?_)
    refine wpAny_mono (run_sub (vs := [.ref b, .ref a]) F hr fr hx I (.cons rfl (.cons rfl .nil)) h) (fun w s' z => ?_) fun _ _ x => x
    obtain ⟨z', H', I', rz, rfl, qz⟩ := z
    cases (show w = Value.bool r from rz)
    exact ⟨r, rfl, rfl, H', I', qz⟩
theorem in_run {pins : List (Addr × Obj)} {σ : L2.St} {H : Hp} {s : Shared} {l a : Addr} {bs : List Addr} {e : Nat → Bool} {G : Hp → Prop} {Q : Bool → Shared → Prop} (S : Spc X.K C "__eq__" f) (F : FnR X.prog X.w X.K X.mg X.base CX n f sp) (hr : Room (n + 1) X.A) (hx : Passes CX X E) (I : Inv X pins σ H s) (g : G H)
    (h : ∀ H', G H' → H' l = some (.lst (bs.map V.ref)) ∧ (∃ dx fs, H' a = some (.ins C dx fs)) ∧ ∀ i b, bs[i]? = some b → (∃ dx fs, H' b = some (.ins C dx fs)) ∧ (b = a → e i = true) ∧ sp [.ref b, .ref a] H' (fun v H2 => v = .bl (e i) ∧ G H2) E)
    (fin : ∀ H' s', Inv X pins σ H' s' → G H' → Q ((List.range bs.length).any e) s') : wpAny (model X.prog X.w) X.A (contains (.ref l) (.ref a)) Q X.xe s := by
  refine contains_listG (N := bs.length) e (fun s' => ∃ H', Inv X pins σ H' s' ∧ G H') (fun s' ⟨H', I', g'⟩ => ?_) ⟨H, I, g⟩ (fun s' ⟨H', I', g'⟩ => fin H' s' I' g')
  obtain ⟨h1, h2, h3⟩ := h H' g'
  obtain ⟨z, its, k, r, e1⟩ := I'.hok l _ h1
  have el : its.length = bs.length := by rw [← r.length, List.length_map]
  refine ⟨its.toArray, k, e1, by rw [List.size_toArray, el], fun i hi => ?_⟩
  have hi' : i < bs.length := by rw [← el]; simpa using hi
  have hb : bs[i]? = some bs[i] := List.getElem?_eq_getElem hi'
  obtain ⟨u, hu, ru⟩ := r.get (i := i) (x := V.ref bs[i]) (by rw [List.getElem?_map, hb] <;> rfl)
  have hg : its.toArray[i] = Value.ref bs[i] := by
    have h1 : its[i]? = some its.toArray[i] := by
      have : i < its.length := by simpa using hi
      rw [List.getElem?_eq_getElem this] <;> simp
    rw [h1] at hu
    rw [Option.some.inj hu]
    exact ru
  rw [hg]
  obtain ⟨q1, q2, q3⟩ := h3 i _ hb
  exact eq_in S F hr.in1 rfl hx I' q1 h2 q2 g' q3
theorem op_inL (S : Spc X.K C "__eq__" f) (F : FnR X.prog X.w X.K X.mg X.base CX n f sp) (hr : Room (n + 1) X.A) (hx : Passes CX X E) : OpR X (compareOp .In) (rInL C sp E false) := by
  intro pins s σ H x y v u Q I rx ry h
  obtain ⟨l, bs, a, e, G, rfl, rfl, g, h, q⟩ := h
  cases (show v = Value.ref a from rx)
  cases (show u = Value.ref l from ry)
  exact wpAny_bind (in_run S F hr hx I g h fun H' s' I' g' => wpAny_pure ⟨.bl _, H', I', rfl, q H' g'⟩)
theorem op_notInL (S : Spc X.K C "__eq__" f) (F : FnR X.prog X.w X.K X.mg X.base CX n f sp) (hr : Room (n + 1) X.A) (hx : Passes CX X E) : OpR X (compareOp .NotIn) (rInL C sp E true) := by
  intro pins s σ H x y v u Q I rx ry h
  obtain ⟨l, bs, a, e, G, rfl, rfl, g, h, q⟩ := h
  cases (show v = Value.ref a from rx)
  cases (show u = Value.ref l from ry)
  exact wpAny_bind (in_run S F hr hx I g h fun H' s' I' g' => wpAny_pure ⟨.bl _, H', I', rfl, q H' g'⟩)
end

/-! ### the order of tuples of texts -/
def nLt : List Str → List Str → Bool
  | [], [] => false
  | [], _ :: _ => true
  | _ :: _, [] => false
  | a :: as, b :: bs => if a = b then nLt as bs else decide (a.cps.toList < b.cps.toList)
theorem alike_strs : ∀ ns ms : List Str, PySem.W.alikeAll (ns.map PyData.str) (ms.map PyData.str) = true
  | [], _ => by simp [PySem.W.alikeAll]
  | _ :: _, [] => by simp [PySem.W.alikeAll]
  | a :: as, b :: bs => by simp [PySem.W.alikeAll, PySem.W.alike, alike_strs as bs]
theorem eqv_str (a b : Str) : PyData.eqv (.str a) (.str b) = decide (a = b) := by
  rw [PyData.eqv]
  by_cases h : a = b
  · subst h; simp
  · rw [decide_eq_false h]; simpa using h
theorem lt_nil : PyProof.Rows.lexLt PyProof.Rows.itemOrd (PySem.W.keyToksAll []) (PySem.W.keyToksAll []) = false := by decide +kernel
theorem nLt_data : ∀ ns ms : List Str, PyProof.Rows.lexLt PyProof.Rows.itemOrd (PySem.W.keyToksAll (ns.map PyData.str)) (PySem.W.keyToksAll (ms.map PyData.str)) = nLt ns ms
  | [], [] => lt_nil
  | [], b :: bs => by
    simp only [List.map_nil, List.map_cons]
    rw [PySem.W.toks_all_cons]
    simp [PySem.W.keyToksAll, PyProof.Rows.lexLt, PyProof.Rows.itemLt, nLt]
  | a :: as, [] => by
    simp only [List.map_nil, List.map_cons]
    rw [PySem.W.toks_all_cons]
    simp [PySem.W.keyToksAll, PyProof.Rows.lexLt, PyProof.Rows.itemLt, nLt]
  | a :: as, b :: bs => by
    simp only [List.map_cons]
    have al : PySem.W.alike (.str a) (.str b) = true := by simp [PySem.W.alike]
    by_cases h : a = b
    · rw [PySem.W.dataLt_all_yes al (by rw [eqv_str]; exact decide_eq_true h), nLt_data as bs]
      show _ = if a = b then nLt as bs else _
      rw [if_pos h]
    · rw [PySem.W.dataLt_all_no al (by rw [eqv_str]; exact decide_eq_false h), PySem.W.dataLt_str]
      show _ = if a = b then nLt as bs else _
      rw [if_neg h]
theorem depth_strs : ∀ ns : List Str, PyData.depthAll (ns.map PyData.str) ≤ 1
  | [] => by simp [PyData.depthAll]
  | a :: as => by
    have := depth_strs as
    simp only [List.map_cons, PyData.depthAll, PyData.depth]
    omega
theorem dp_strs {K : PySem.W.Frag} {H : Hp} : ∀ ns : List Str, DpAll K H (ns.map V.str) (ns.map PyData.str)
  | [] => .nil
  | a :: as => .cons (.str a) (dp_strs as)
theorem op_ltS {X : Cx} (hu : X.A.units + 64 < cLine) : OpR X (compareOp .Lt) (fun x y H Q => ∃ a b ns ms, x = .ref a ∧ y = .ref b ∧ SqT X.K H a (ns.map V.str) ∧ SqT X.K H b (ms.map V.str) ∧ Q (.bl (nLt ns ms)) H) := by
  intro pins s σ H x y v u Q I rx ry h
  obtain ⟨a, b, ns, ms, rfl, rfl, ha, hb, q⟩ := h
  obtain ⟨as, r1⟩ := Dp.reads I _ _ v (Dp.tup ha (dp_strs ns)) rx
  obtain ⟨bs, r2⟩ := Dp.reads I _ _ u (Dp.tup hb (dp_strs ms)) ry
  have hd : (PyData.tuple (ns.map PyData.str)).depth ≤ 2 := by
    have := depth_strs ns
    simp only [PyData.depth]
    omega
  have z := PySem.W.rcLt_alike _ _ X.A s v u as bs r1 r2 (by simp [PySem.W.alike, alike_strs]) (fun z => nomatch z) (by omega)
  rw [PySem.W.dataLt_tuple, nLt_data] at z
  exact z X.prog X.w X.xe _ ⟨.bl _, H, I, rfl, q⟩

/-! ### how often a truth value stands in a list of truth values -/
theorem vals_bls : ∀ {bs : List Bool} {its : List Value}, Vals (bs.map V.bl) its → its = bs.map Value.bool
  | [], _, .nil => rfl
  | b :: bs, _, .cons r t => by
    have := vals_bls (bs := bs) t
    rw [this, (show _ = Value.bool b from r)] <;> rfl
def eqB (k : Bool) : Value → Bool
  | .bool b => b == k
  | _ => false
theorem eqB_at {A : Around} {s : Shared} (k b : Bool) : SeqAt.EqAt A s (.bool b) (.bool k) (b == k) := by
  have q := eqAt_V (A := A) (s := s) (y := .bl b) (x := .bl k) (u := .bool b) (v := .bool k) rfl rfl rfl rfl
  have e : eqV (V.bl b) (V.bl k) = (b == k) := by cases b <;> cases k <;> rfl
  rw [e] at q
  exact q
theorem countB : ∀ (k : Bool) (bs : List Bool), (bs.map Value.bool).countP (eqB k) = bs.count k
  | k, [] => rfl
  | k, b :: bs => by
    rw [List.map_cons, List.countP_cons, countB k bs, List.count_cons]
    rfl
theorem mt_countB {X : Cx} : MtR X "list.count" (fun x xs H Q => ∃ (p : Addr) (bs : List Bool) (k : Bool), x = .ref p ∧ xs = [.bl k] ∧ SqL X.K H p (bs.map V.bl) ∧ Q (.int (bs.count k : Nat)) H) := by
  intro pins s σ H x xs v us Q I rx rxs h
  obtain ⟨p, bs, k, rfl, rfl, hs, q⟩ := h
  cases rx
  obtain ⟨u, rfl, ru⟩ := rxs.one
  cases (show u = Value.bool k from ru)
  obtain ⟨its, rv, ⟨⟨cls, dd, data, sl⟩, n, ho, hc, hdn, hd⟩, hlen⟩ := I.list hs
  simp only at hc hd
  subst hc hd
  have hi := vals_bls rv
  subst hi
  refine call_meets PySem.F.slot_list_count ⟨_, ho, rfl⟩ PySem.F.entry_list_count (PySem.F.args_list_count_2 _ _)
    (SeqAt.list_countAt p (bs.map Value.bool).toArray n dd sl (.bool k) (eqB k)) ⟨ho, fun y hy => ?_, ?_⟩
  · obtain ⟨b, _, rfl⟩ := List.mem_map.mp (by simpa using hy : y ∈ bs.map Value.bool)
    exact eqB_at k b
  · have ec : (bs.map Value.bool).toArray.toList.countP (eqB k) = bs.count k := countB k bs
    refine ⟨.int (bs.count k : Nat), H, I.tok _, ⟨s.toks, ?_⟩, q⟩
    show Value.int (((bs.map Value.bool).toArray.toList.countP (eqB k) : Nat) : Int) s.toks = Value.int ((bs.count k : Nat) : Int) s.toks
    rw [ec]
end NA

/-! Part D: heaps that grow, comprehensions by what each turn gives. -/
namespace NA
open PySem PySem.Spec PyProof.Rows L2

theorem Same.new {H : Hp} {p : Addr} {o : HO} (h : H p = none) : Same H (upd H p o) := fun a u e => by
  rw [upd_ne (ne_of_none e h)]
  exact e
theorem Same.mut {H H' : Hp} {p : Addr} {o : HO} (e : Same H H') (h : H p = none) : Same H (upd H' p o) := fun a u ha => by
  rw [upd_ne (ne_of_none ha h)]
  exact e a u ha
theorem Same.rd {H H' : Hp} {a : Addr} {u : HO} (e : Same H H') (h : Rd H a u) : Rd H' a u := by
  rcases h with h | ⟨o, h⟩
  · exact Or.inl (e a _ h)
  · exact Or.inr ⟨o, e a _ h⟩
theorem Same.tup {K : PySem.W.Frag} {H H' : Hp} {a : Addr} {xs : List V} (e : Same H H') (h : SqT K H a xs) : SqT K H' a xs := by
  rcases h with h | h
  · exact Or.inl (Same.rd e h)
  · exact Or.inr h
/-- all but the object at p is as it was -/
def Sam (p : Addr) (H H' : Hp) : Prop := ∀ a o, a ≠ p → H a = some o → H' a = some o
theorem Sam.refl {p : Addr} (H : Hp) : Sam p H H := fun _ _ _ h => h
theorem Sam.of {p : Addr} {H H' : Hp} (e : Same H H') : Sam p H H' := fun a o _ h => e a o h
theorem Sam.trans {p : Addr} {H H1 H2 : Hp} (a : Sam p H H1) (b : Sam p H1 H2) : Sam p H H2 := fun c o n h => b c o n (a c o n h)
theorem Sam.upd {p : Addr} {H H' : Hp} {o : HO} (e : Sam p H H') : Sam p H (L2.upd H' p o) := fun a u n h => by
  rw [upd_ne n]
  exact e a u n h
theorem Sam.new {p q : Addr} {H H' : Hp} {o : HO} (e : Sam p H H') (h : H' q = none) : Sam p H (L2.upd H' q o) := fun a u n ha => by
  rw [upd_ne (ne_of_none (e a u n ha) h)]
  exact e a u n ha
theorem Sam.mut {p q : Addr} {H H' : Hp} {o : HO} (e : Sam p H H') (h : H q = none) : Sam p H (L2.upd H' q o) := fun a u n ha => by
  rw [upd_ne (ne_of_none ha h)]
  exact e a u n ha

/-- a comprehension that only makes things: turn i is kept if b i, and gives what R i tells -/
theorem lc_flt {J : It} {n : Nat} {G : Hp → Prop} {Y : Nat → Hp → V → Hp → Prop} (w : Walk J n G Y) (R : Nat → V → Hp → Prop) (b : Nat → Bool) {g : TG} {tt : TT} {te : TE} {vs : List Nat} {σ : L2.St} {H1 : Hp} {D : Addr} {Qd : Hp → Prop} (hD : H1 D = none)
    (mono : ∀ i v H H' ys, H D = some (.lst ys) → Sam D H H' → R i v H → R i v H') (hG : ∀ H, Same H1 H → G H) (hn : n < sizeLine)
    (hs : ∀ i x H H', i < n → Same H1 H → Y i H x H' → Same H H' ∧ g x (wipe σ vs) H' fun σ2 H2 => wipe σ2 vs = wipe σ vs ∧ Same H' H2 ∧
      ∀ Q : Bool → Hp → Prop, (∀ H3, Same H2 H3 → (b i = true → ∀ Q' : VK, (∀ v H4, Same H3 H4 → R i v H4 → Q' v H4) → te σ2 H3 Q') → Q (b i) H3) → tt σ2 H2 Q)
    (hg : ∀ x σ' H' (Q Q' : L2.St → Hp → Prop), (∀ σ2 H2, Q σ2 H2 → Q' σ2 H2) → g x σ' H' Q → g x σ' H' Q')
    (hd : ∀ H ys, Same H1 H → H D = some (.lst ys) → ys.length = ((List.range n).filter b).length → (∀ (j i : Nat) v, ((List.range n).filter b)[j]? = some i → ys[j]? = some v → R i v H) → Qd H) :
    ∃ W : Nat → Nat → Hp → Prop, (∃ m, W 0 m (upd H1 D (.lst []))) ∧ ∀ i m H, W i m H →
      (J.stop i H ∧ Qd H) ∨ (J.go i H ∧ ∃ Nx : Hp → Prop, (∀ H', Nx H' → ∃ m', m' < m ∧ W (i + 1) m' H') ∧ ∀ x H', J.yld i H x H' → g x (wipe σ vs) H' fun σ2 H2 => wipe σ2 vs = wipe σ vs ∧ tt σ2 H2 fun b H3 =>
        if b = true then te σ2 H3 fun y H4 => ∃ acc, H4 D = some (.lst acc) ∧ acc.length < sizeLine ∧ Nx (upd H4 D (.lst (acc ++ [y]))) else Nx H3) := by
  refine lc_it w (fun i H => Same H1 H ∧ ∃ ys, H D = some (.lst ys) ∧ ys.length = ((List.range i).filter b).length ∧ ∀ (j k : Nat) v, ((List.range i).filter b)[j]? = some k → ys[j]? = some v → R k v H)
    ⟨Same.new hD, [], upd_same, rfl, fun j k v h1 h2 => by simp at h2⟩ (fun i H _ p => hG H p.1) (fun i x H H' hi p y => ?_) (fun H p => ?_)
  · obtain ⟨s1, ys, e1, e2, e3⟩ := p
    obtain ⟨s2, k⟩ := hs i x H H' hi s1 y
    refine hg x _ H' _ _ (fun σ2 H2 q => ?_) k
    obtain ⟨q1, q2, q3⟩ := q
    refine ⟨q1, q3 _ fun H3 s3 kk => ?_⟩
    have s13 : Same H1 H3 := (s1.trans s2).trans (q2.trans s3)
    have sH3 : Same H H3 := s2.trans (q2.trans s3)
    have hl : ((List.range i).filter b).length ≤ i := by
      have h := List.length_filter_le b (List.range i)
      rw [List.length_range] at h
      exact h
    cases hb : b i with
    | true =>
      rw [if_pos rfl]
      refine kk hb _ fun v H4 s4 r => ⟨ys, s4 _ _ (sH3 _ _ e1), by omega, Same.mut (s13.trans s4) hD, _, upd_same, ?_, ?_⟩
      · rw [List.range_succ, List.filter_append, List.length_append, List.length_append, e2]
        simp [hb]
      · intro j m v' h1 h2
        have hD4 : H4 D = some (.lst ys) := s4 _ _ (sH3 _ _ e1)
        have eF : (List.range (i + 1)).filter b = (List.range i).filter b ++ [i] := by
          rw [List.range_succ, List.filter_append]
          simp [hb]
        rw [eF] at h1
        by_cases hj : j < ys.length
        · rw [List.getElem?_append_left (by omega)] at h1
          rw [List.getElem?_append_left hj] at h2
          exact mono m v' H _ ys e1 (Sam.upd (Sam.of (sH3.trans s4))) (e3 j m v' h1 h2)
        · have hj2 : j = ys.length := by
            have := (List.getElem?_eq_some_iff.mp h2).1
            rw [List.length_append, List.length_singleton] at this
            omega
          rw [List.getElem?_append_right (by omega)] at h1 h2
          have z1 : j - ((List.range i).filter b).length = 0 := by omega
          have z2 : j - ys.length = 0 := by omega
          rw [z1] at h1
          rw [z2] at h2
          have hm : i = m := by simpa using h1
          have hv : v = v' := by simpa using h2
          subst hm hv
          exact mono _ _ _ _ ys hD4 (Sam.upd (Sam.refl H4)) r
    | false =>
      rw [if_neg (by decide)]
      have eF : (List.range (i + 1)).filter b = (List.range i).filter b := by
        rw [List.range_succ, List.filter_append]
        simp [hb]
      refine ⟨s13, ys, sH3 _ _ e1, by rw [eF]; exact e2, ?_⟩
      rw [eF]
      exact fun j m v' h1 h2 => mono m v' H H3 ys e1 (Sam.of sH3) (e3 j m v' h1 h2)
  · obtain ⟨s1, ys, e1, e2, e3⟩ := p
    exact hd H ys s1 e1 e2 e3
/-- .. each turn kept -/
theorem lc_all {J : It} {n : Nat} {G : Hp → Prop} {Y : Nat → Hp → V → Hp → Prop} (w : Walk J n G Y) (R : Nat → V → Hp → Prop) {g : TG} {te : TE} {vs : List Nat} {σ : L2.St} {H1 : Hp} {D : Addr} {Qd : Hp → Prop} (hD : H1 D = none)
    (mono : ∀ i v H H' ys, H D = some (.lst ys) → Sam D H H' → R i v H → R i v H') (hG : ∀ H, Same H1 H → G H) (hn : n < sizeLine)
    (hs : ∀ i x H H', i < n → Same H1 H → Y i H x H' → Same H H' ∧ g x (wipe σ vs) H' fun σ2 H2 => wipe σ2 vs = wipe σ vs ∧ Same H' H2 ∧ ∀ Q' : VK, (∀ v H4, Same H2 H4 → R i v H4 → Q' v H4) → te σ2 H2 Q')
    (hg : ∀ x σ' H' (Q Q' : L2.St → Hp → Prop), (∀ σ2 H2, Q σ2 H2 → Q' σ2 H2) → g x σ' H' Q → g x σ' H' Q')
    (hd : ∀ H ys, Same H1 H → H D = some (.lst ys) → ys.length = n → (∀ (i : Nat) v, ys[i]? = some v → R i v H) → Qd H) :
    ∃ W : Nat → Nat → Hp → Prop, (∃ m, W 0 m (upd H1 D (.lst []))) ∧ ∀ i m H, W i m H →
      (J.stop i H ∧ Qd H) ∨ (J.go i H ∧ ∃ Nx : Hp → Prop, (∀ H', Nx H' → ∃ m', m' < m ∧ W (i + 1) m' H') ∧ ∀ x H', J.yld i H x H' → g x (wipe σ vs) H' fun σ2 H2 => wipe σ2 vs = wipe σ vs ∧ tYes σ2 H2 fun b H3 =>
        if b = true then te σ2 H3 fun y H4 => ∃ acc, H4 D = some (.lst acc) ∧ acc.length < sizeLine ∧ Nx (upd H4 D (.lst (acc ++ [y]))) else Nx H3) := by
  have ef : (List.range n).filter (fun _ => true) = List.range n := by simp
  refine lc_flt w R (fun _ => true) hD mono hG hn (fun i x H H' hi s y => ?_) hg (fun H ys s e1 e2 e3 => ?_)
  · obtain ⟨s2, k⟩ := hs i x H H' hi s y
    refine ⟨s2, hg x _ H' _ _ (fun σ2 H2 q => ?_) k⟩
    obtain ⟨q1, q2, q3⟩ := q
    exact ⟨q1, q2, fun Q hQ => hQ H2 (Same.refl H2) fun _ => q3⟩
  · rw [ef] at e2 e3
    have hl : ys.length = n := by rw [e2, List.length_range]
    refine hd H ys s e1 hl fun i v h => e3 i i v ?_ h
    have := (List.getElem?_eq_some_iff.mp h).1
    rw [List.getElem?_range (by omega)]
theorem g_name_mono {i : Nat} : ∀ x σ' H' (Q Q' : L2.St → Hp → Prop), (∀ σ2 H2, Q σ2 H2 → Q' σ2 H2) → gName i x σ' H' Q → gName i x σ' H' Q' := fun _ _ _ _ _ h q => h _ _ q
/-- the new list is told by a function -/
theorem list_fn {n : Nat} {f : Nat → V} {ys : List V} (hl : ys.length = n) (h : ∀ (i : Nat) v, ys[i]? = some v → v = f i) : ys = (List.range n).map f := by
  apply List.ext_getElem?
  intro i
  by_cases hi : i < n
  · have : ys[i]? = some ys[i] := List.getElem?_eq_getElem (by omega)
    rw [this, List.getElem?_map, List.getElem?_range hi]
    exact congrArg some (h i _ this)
  · rw [List.getElem?_eq_none (by omega), List.getElem?_eq_none (by simp; omega)]
theorem range_getD {α : Type} (l : List α) (d : α) : (List.range l.length).map (fun i => l.getD i d) = l := by
  apply List.ext_getElem?
  intro i
  by_cases hi : i < l.length
  · rw [List.getElem?_map, List.getElem?_range hi, List.getElem?_eq_getElem hi]
    simp [List.getD_eq_getElem?_getD, List.getElem?_eq_getElem hi]
  · rw [List.getElem?_eq_none (by simp; omega), List.getElem?_eq_none (by omega)]
theorem range_map {α β : Type} (l : List α) (d : α) (f : α → β) : (List.range l.length).map (fun i => f (l.getD i d)) = l.map f := by
  have h := congrArg (List.map f) (range_getD l d)
  rw [List.map_map] at h
  exact h
/-- a if c else b, both written -/
theorem ite_c {a b : V} {c : Bool} {K : VK} {σ : L2.St} {H : Hp} (h : K (if c = true then a else b) H) : if c = true then tC a σ H K else tC b σ H K := by
  cases c
  · exact h
  · exact h
theorem iteT' {c : Bool} {A B : Prop} (e : c = true) (h : A) : if c = true then A else B := by rw [if_pos e]; exact h
theorem iteF' {c : Bool} {A B : Prop} (e : c = false) (h : B) : if c = true then A else B := by rw [e, if_neg (by decide)]; exact h
theorem sz {n : Nat} (h : n ≤ 1000000) : n ≤ sizeLine := Nat.le_trans h (by decide)
theorem szl {n : Nat} (h : n ≤ 1000000) : n < sizeLine := Nat.lt_of_le_of_lt h (by decide)
end NA

/-! Part E: tuples of texts, at the level of values. -/
namespace NA
open PySem PySem.Spec PyProof.Rows L2
abbrev Oks (ns : List Str) : Prop := ∀ n ∈ ns, PyData.strOk n = true
theorem canLay_strs : ∀ ns : List Str, Oks ns → PyData.canLayAll0 (ns.map PyData.str) = true
  | [], _ => by simp [PyData.canLayAll0]
  | a :: as, h => by
    simp only [List.map_cons, PyData.canLayAll0, PyData.canLay0, canLay_strs as fun n hn => h n (List.mem_cons_of_mem _ hn), h a (List.mem_cons_self ..), Bool.and_self]
theorem shaped_strs {ns : List Str} (h : Oks ns) : SeqAt.shaped (.tuple (ns.map PyData.str)) = true := by
  unfold SeqAt.shaped
  have := depth_strs ns
  rw [Bool.and_eq_true]
  exact ⟨by rw [PyData.canLay0]; exact canLay_strs ns h, decide_eq_true (by rw [PyData.depth]; omega)⟩
theorem eqvAll_strs : ∀ ns ms : List Str, PyData.eqvAll (ns.map PyData.str) (ms.map PyData.str) = decide (ns = ms)
  | [], [] => by simp [PyData.eqvAll]
  | [], _ :: _ => by simp [PyData.eqvAll]
  | _ :: _, [] => by simp [PyData.eqvAll]
  | a :: as, b :: bs => by
    simp only [List.map_cons, PyData.eqvAll, eqv_str, eqvAll_strs as bs]
    by_cases h1 : a = b <;> by_cases h2 : as = bs <;> simp [h1, h2]
theorem eqv_strs (ns ms : List Str) : PyData.eqv (.tuple (ns.map PyData.str)) (.tuple (ms.map PyData.str)) = decide (ns = ms) := by
  rw [PyData.eqv, eqvAll_strs]
section
variable {K : PySem.W.Frag} {H : Hp} {p q : Addr} {ns ms : List Str} {xs : List V} {Q : VK}
theorem c_eqT (o1 : Oks ns) (o2 : Oks ms) (hp : SqT K H p (ns.map V.str)) (hq : SqT K H q (ms.map V.str)) (k : Q (.bl (decide (ns = ms))) H) : rEqD K (.ref p) (.ref q) H Q :=
  ⟨_, _, .tup hp (dp_strs ns), .tup hq (dp_strs ms), shaped_strs o1, shaped_strs o2, by rw [eqv_strs]; exact k⟩
theorem c_neT (o1 : Oks ns) (o2 : Oks ms) (hp : SqT K H p (ns.map V.str)) (hq : SqT K H q (ms.map V.str)) (k : Q (.bl (!decide (ns = ms))) H) : rNeD K (.ref p) (.ref q) H Q :=
  ⟨_, _, .tup hp (dp_strs ns), .tup hq (dp_strs ms), shaped_strs o1, shaped_strs o2, by rw [eqv_strs]; exact k⟩
/-- t[:k], t[:-1] -/
theorem c_slT {k : Nat} (h : SqT K H p xs) (hk : k ≤ xs.length) (q : ∀ r H', Same H H' → SqT K H' r (xs.take k) → Q (.ref r) H') : rSlA K (.ref p) none (some (k : Int)) H Q := by
  have e : HT.sIx xs.length xs.length (some (k : Int)) = k := by rw [HT.sIx_nat, Nat.min_eq_left hk]
  refine ⟨p, xs, rfl, h, fun hw => ?_, fun _ r hr => ?_⟩
  · rw [e] at hw
    refine q p H (Same.refl H) ?_
    rw [hw.2, List.take_length]
    exact h
  · refine q r _ (Same.new hr) (SqT.of ?_)
    rw [upd_same]
    unfold cutV
    rw [e, HT.sIx_none, List.drop_zero, Nat.sub_zero]
theorem c_slT1 (h : SqT K H p xs) (hk : xs ≠ []) (q : ∀ r H', Same H H' → SqT K H' r xs.dropLast → Q (.ref r) H') : rSlA K (.ref p) none (some (-1)) H Q := by
  have hl : 0 < xs.length := List.length_pos_iff.mpr hk
  have e : HT.sIx xs.length xs.length (some (-1)) = xs.length - 1 := by
    show (if (-1 : Int) < 0 then ((-1 : Int) + (xs.length : Int)).toNat else min (-1 : Int).toNat xs.length) = _
    rw [if_pos (by decide)]; omega
  refine ⟨p, xs, rfl, h, fun hw => ?_, fun _ r hr => ?_⟩
  · rw [e] at hw; omega
  · refine q r _ (Same.new hr) (SqT.of ?_)
    rw [upd_same]
    unfold cutV
    rw [e, HT.sIx_none, List.drop_zero, Nat.sub_zero, List.dropLast_eq_take]
end
/-- a statement, then the rest, with a word between them -/
def tJn (t u : TS) : TS := fun D σ H => ∃ Mid : L2.St → Hp → Prop, t { D with nx := Mid } σ H ∧ ∀ σ' H', Mid σ' H' → u D σ' H'
theorem pss_jn {X : Cx} {st : Stmt} {rest : List Stmt} {t u : TS} (h1 : PS X st t) (h2 : PSs X rest u) : PSs X (st :: rest) (tJn t u) := by
  refine ⟨fun pins s σ H D I h => ?_⟩
  obtain ⟨Mid, hm, hu⟩ := h
  refine wpAny_execs_cons (thn (h1.run pins s σ H { D with nx := Mid } I hm) fun f s1 q => ?_)
  cases f with
  | next =>
    obtain ⟨σ', H', I', q⟩ := q
    exact h2.run pins s1 σ' H' D I' (hu σ' H' q)
  | ret v => exact q
  | brk => exact q
  | cont => exact q
section
variable {te : TE} {u : TS} {D : Ends} {σ : L2.St} {H : Hp} {i : Nat}
theorem q_set (h : te σ H fun v H1 => u D (σ.set i (some v)) H1) : tSeq (tAsg te (gName i)) u D σ H := h
theorem s_set (h : te σ H fun v H1 => D.nx (σ.set i (some v)) H1) : tAsg te (gName i) D σ H := h
theorem s_ret (h : te σ H D.rt) : tRet te D σ H := h
end
end NA

/-! Part F: own errors over ValueError whose __init__ says super().__init__(text), then self.f = p. -/
namespace NA
open PySem PySem.Spec PyProof.Rows L2
abbrev erFd (qual : Str) (params : Arguments) (body : List Stmt) (scope : Scope) (cc : Addr) (kV doc pm : Value) (an : Option Addr) (cdv ct : Value) : FuncData :=
  { PySem.W.fnOf "__init__" qual params body scope .none kV doc pm an cdv ct with closure := [("__class__", cc)] }
/-- the text of such an __init__ -/
def ErT (body : List Stmt) (txt f par : Str) : Prop := ∃ (p0 p1 p2 p3 p4 p5 p6 p7 p8 p9 : Pos) (j : Nat),
  body = [.Expr (.Call (.Attribute (.Call (.Name "super" p0) [] [] p1) "__init__" p2) [.Constant (.str txt) j p3] [] p4) p5, .Assign [.Attribute (.Name "self" p6) f p7] (.Name par p8) p9] ∧
  ∀ env : Env, ∃ pl : Sem Bool, eval (.Call (.Attribute (.Call (.Name "super" p0) [] [] p1) "__init__" p2) [.Constant (.str txt) j p3] [] p4) env = (do
    let ov ← attributeBase (.Call (.Name "super" p0) [] [] p1) "__init__" env (eval (.Call (.Name "super" p0) [] [] p1) env)
    standAt p2.atName
    let (f, first) ← holding [ov] (getMethod ov "__init__" pl)
    callWith p4 f first (backTo p4 (starEach [.Constant (.str txt) j p3] env)) [])
structure ErC (P : Program) (K : PySem.W.Frag) (mg : Str → Option Value) (C fI : Addr) (f par : Str) (st : Stmt) : Prop where
  ox : OexC K C
  init : PySem.W.findIn K (.ref C) "__init__" = some (some (.ref fI))
  ity : PySem.W.typeIn K (.ref fI) = some (.type "function")
  nof : PySem.W.findIn K (.ref C) f = some none
  opq : PySem.W.nsIn K cStatics "thirdparty.any" = some none
  sup : PySem.W.ks_superIn K C C "__init__" = some (some (.builtin "ValueError.__init__"))
  ve : PySem.W.subIn K (.ref C) (.type "ValueError") = some true
  slf : PySem.W.mroIn K C (.ref C) = some true
  ns : mg "super" = none
  top : (P.main.scope.names.lookup ("super" : Str)).isSome = false
  fn : ∃ (qual : Str) (cc cd : Addr) (kV doc pm ct oc : Value) (od an : Option Addr) (osl : Array (Option Value)), K.lookup fI = some ⟨oc, od, .func (erFd qual (defArgs st) (defBody st) (defScope st) cc kV doc pm an (.ref cd) ct), osl⟩ ∧ PySem.W.codeIn K (.ref cd) qual = true ∧
    (∃ (o : Value) (d : Option Addr) (sl : Array (Option Value)), K.lookup cc = some ⟨o, d, .cell (some (.ref C)), sl⟩) ∧
    ∃ (o : Value) (d : Option Addr) (vs : Array Value) (sl : Array (Option Value)) (file : Str) (tf : Tok), K.lookup cd = some ⟨o, d, .fields vs, sl⟩ ∧ vs[2]? = some (.str file tf) ∧ ((P.main.file : Str) == file) = true
  txt : ∃ t : Str, t.length ≤ 1000 ∧ ErT (defBody st) t f par
  hd : ((defArgs st).posonlyargs ++ (defArgs st).args).head?.map (·.arg) = some "self"
  kind : (defScope st).kind = .function
  co : (defScope st).isCoroutine = false
  gen : (defScope st).isGenerator = false
  l0 : (defScope st).names.lookup ("self" : Str) = some .local
  l1 : (defScope st).names.lookup par = some .local
  ls : (defScope st).names.lookup ("super" : Str) = some .globalImplicit
  lc : (defScope st).names.lookup ("__class__" : Str) = some .free
  fre : ∀ y ∈ (defScope st).names, y.2 = .free → y.1 = "__class__"
  noc : ∀ y ∈ (defScope st).names, y.2 ≠ .cell
  ne : par ≠ "self"
  pd : (par == ("__debug__" : Str)) = false
  pc : (par == ("__classdict__" : Str)) = false
  bnd : ∀ (qual : Str) (cc : Addr) (kV doc pm : Value) (an : Option Addr) (cdv ct x y : Value), bindArgs (erFd qual (defArgs st) (defBody st) (defScope st) cc kV doc pm an cdv ct) ⟨[x, y], []⟩ = pure ([("self", x), (par, y)] : List (Str × Value))
/-- the context of the __init__ -/
def erCx (P : Program) (w : World) (K : PySem.W.Frag) (mg : Str → Option Value) (base : Heap) (N : List Str) (fd : FuncData) (f : Addr) (A : Around) (outer : List Env) (s : Shared) (H : Hp) (xe : Value → Shared → Prop) : Cx where
  prog := P
  w := w
  K := K
  mg := mg
  base := base
  A := A.deeper (callEnv fd s.heap.objs.size f)
  N := N
  s_0 := s
  H_0 := H
  env := callEnv fd s.heap.objs.size f
  outer := outer
  stack := callEnv fd s.heap.objs.size f :: outer
  ex := []
  fn := fun _ => false
  calm := true
  pn := []
  xe := xe
section
variable {P : Program} {w : World} {K : PySem.W.Frag} {mg : Str → Option Value} {base : Heap} {C fI : Addr} {f par : Str} {st : Stmt}
theorem er_start {A : Around} {outer : List Env} {s : Shared} {H : Hp} {xe : Value → Shared → Prop} {qual : Str} {cc : Addr} {kV doc pm ct cdv u : Value} {an : Option Addr} {a : Addr} {v : V} {h1 : Heap} {tk : Nat}
    (R : ErC P K mg C fI f par st) (hcc : ∃ (o : Value) (d : Option Addr) (sl : Array (Option Value)), K.lookup cc = some ⟨o, d, .cell (some (.ref C)), sl⟩) (e0 : Env0 P w K mg base A outer s H) (hd : A.handled = none)
    (hns : h1.Ns s.heap.objs.size fun y => ([("self", Value.ref a), (par, u)] : List (Str × Value)).reverse.lookup y) (kp : ∀ b o, s.heap.get? b = some o → h1.get? b = some o) (rv : RelV v u) :
    Inv (erCx P w K mg base ["self", par] (erFd qual (defArgs st) (defBody st) (defScope st) cc kV doc pm an cdv ct) fI A outer s H xe) [] [some (.ref a), some v] H { s with heap := h1, toks := tk } := by
  obtain ⟨o, d, sl, hc⟩ := hcc
  have bc := e0.bs _ _ (e0.mod.kin _ _ hc)
  have one : ∀ {y : Str} {c : Addr}, ([("__class__", cc)] : List (Str × Addr)).lookup y = some c → y = "__class__" ∧ c = cc := fun {y c} e => by
    have := PySem.mem_of_lookup e
    simp only [List.mem_singleton, Prod.mk.injEq] at this
    exact this
  refine ⟨⟨e0.mod, R.kind, rfl, rfl, Nat.le_refl _, fun y z c e1 e2 => (one e1).1.trans (one e2).1.symm, fun y hy => ?_, fun y c z _ => ?_, fun _ => hd, Around.frames_deeper e0.frames, .inr ⟨rfl, rfl⟩, (fun b z => (List.not_mem_nil (show b ∈ ([] : List Addr) from z)).elim), e0.bs, e0.bsz, (fun b _ _ z => (List.not_mem_nil (show b ∈ ([] : List Addr) from z)).elim), (fun b z => (List.not_mem_nil (show b ∈ ([] : List Addr) from z)).elim), e0.funs, e0.frf⟩,
    rfl, e0.bare, Un.kept kp, ⟨_, hns, fun i y v' e1 e2 e3 => ?_⟩, fun y c e => ?_, e0.hok.fresh (Nat.le_refl _), fun y c e => ?_, (fun q hq => (List.not_mem_nil (show q ∈ ([] : List (Addr × Obj)) from hq)).elim), e0.hok.kept kp, rfl⟩
  · refine ⟨cc, ?_⟩
    have hy : (defScope st).names.lookup y = some .cell ∨ (defScope st).names.lookup y = some .free := hy
    rcases hy with k | k
    · exact (R.noc _ (PySem.mem_of_lookup k) rfl).elim
    · have e : y = "__class__" := R.fre _ (PySem.mem_of_lookup k) rfl
      rw [e]
      rfl
  · exact (Bool.false_ne_true (show false = true from z)).elim
  · have e1 : (["self", par] : List Str)[i]? = some y := e1
    match i, e1, e2 with
    | 0, e1, e2 =>
      have ey : "self" = y := by simpa using e1
      have ev : V.ref a = v' := by simpa using e2
      subst ey ev
      refine ⟨.ref a, rfl, .inl ⟨R.l0, ?_⟩⟩
      show ([(par, u), ("self", Value.ref a)] : List (Str × Value)).lookup ("self" : Str) = _
      rw [List.lookup_cons, show (("self" : Str) == par) = false from beq_eq_false_iff_ne.mpr (Ne.symm R.ne)]
      rfl
    | 1, e1, e2 =>
      have ey : par = y := by simpa using e1
      have ev : v = v' := by simpa using e2
      subst ey ev
      refine ⟨u, rv, .inl ⟨R.l1, ?_⟩⟩
      show ([(par, u), ("self", Value.ref a)] : List (Str × Value)).lookup par = _
      rw [List.lookup_cons, show (par == par) = true from beq_self_eq_true par]
    | n + 2, e1, e2 => simp at e2
  · obtain ⟨rfl, rfl⟩ := one e
    exact ⟨_, _, kp _ _ bc.1, rfl⟩
  · obtain ⟨rfl, rfl⟩ := one e
    exact bc.2
/-- the bound ValueError.__init__, called -/
theorem er_call {A : Around} {E : Value → Shared → Prop} {h : Heap} {g : Array GenState} {d : Drawn} {t : Nat} {os : OsState} {u e t0 : Addr} {rest : List Value} {Q : Value → Shared → Prop}
    {nm q : Str} {N : Addr} {bs bm sub : List Value} {hdct ab : Bool} {sn : List Str} {col : Option Bool} {dd : Option Addr} {k0 k1 k2 k3 k5 : Option Value}
    (hC : h.get? C = some (excClassObj nm q C N bs bm hdct sn sub ab col dd k0 k1 k2 k3 k5 "ValueError.__new__")) (he : h.get? e = some (PySem.HandSPX.excO C t0)) (hu : h.get? u = some (PySem.W.kxs_mw "ValueError.__init__" e)) (hz : rest.length ≤ sizeLine)
    (hq : ∀ h' t1, (∀ b o, b ≠ e → h.get? b = some o → h'.get? b = some o) → h'.get? e = some (PySem.HandSPX.excO C t1) → Q .none ⟨h', g, d, t, os⟩) :
    wpAny (model P w) A (call (.ref u) rest) Q E ⟨h, g, d, t, os⟩ := by
  have FB := PySem.F.excBase_ValueError
  refine wpAny_call (codeAny_of_tree (?_ : wpAny _ A.in1 (callAny (.ref u) ⟨rest, []⟩) _ _ _))
  simp only [callAny]
  refine wpAny_bind (wpAny_load hu ?_)
  have hw : (Value.type "method-wrapper" == Value.type "method" || Value.type "method-wrapper" == Value.type "builtin_function_or_method" || Value.type "method-wrapper" == Value.type "method-wrapper") = true := by decide
  simp only [PySem.W.kxs_mw, hw, if_true]
  refine PySem.W.KFB.if_so (by decide) (wpAny_bind (PySem.W.check_bound_init FB.toExcCallFacts hC he rfl ?_))
  refine wpAny_bind (wpAny_pure (wpAny_pure ⟨plainId_quiet FB.init.plain _, codeAny_builtin FB.initEntry ?_⟩))
  exact PySem.W.exc_init_tree (cls := .ref C) (t0 := t0) (dv := none) (c2 := .none) (c3 := .none) (b4 := .bool false) he hz fun h' k e' _ => hq h' _ k e'
def spErr (C : Addr) (f : Str) : Sp := fun vs H Q _ => ∃ a v, vs = [.ref a, v] ∧ H a = some (exo a C none) ∧ ∀ dx, H dx = none → dx ≠ a → Q .non (upd (upd H dx (exd dx [(f, v)])) a (exo a C (some dx)))
theorem ok_err (R : ErC P K mg C fI f par st) : ∃ fd, Binds K fd ["self", par] [] ∧ ∀ base, FnOk P w K mg base CX0 1 fI fd ["self", par] (spErr C f) := by
  obtain ⟨qual, cc, cd, kV, doc, pm, ct, oc, od, an, osl, lk, hcd, hcc, o, d, vs', sl, file, tf, hco, hvs, hfile⟩ := R.fn
  refine ⟨erFd qual (defArgs st) (defBody st) (defScope st) cc kV doc pm an (.ref cd) ct, Binds.all fun us hl => ?_, fun base => ⟨fun vs H Q E h => ?_, fun A outer s H args us vs Q E hr e0 hb hv hs => ?_⟩⟩
  · match us, hl with
    | [x, y], _ => exact R.bnd qual cc kV doc pm an (.ref cd) ct x y
  · obtain ⟨a, v, rfl, _⟩ := h; rfl
  · obtain ⟨a, v, rfl, ha, q⟩ := hs
    obtain ⟨u, rfl, rv⟩ : ∃ u, us = [.ref a, u] ∧ L2.RelV v u := by
      cases hv with
      | cons r1 r2 =>
        cases r2 with
        | cons r3 r4 =>
          cases r4
          cases r1
          exact ⟨_, rfl, r3⟩
    have KX : K.In s.heap := e0.mod.kin.keeps fun b o e => (e0.bs b o e).1
    have lim : s.heap.NoLimit := e0.mod.nolimit.keeps fun b o e => (e0.bs b o e).1
    refine PySem.ks_codeAny_call_defAt hr.depth (KX _ _ lk) rfl lim (PySem.W.codeRec_of KX hcd) rfl hb R.noc (fun x hx => ?_) (fun h1 hns kp => ?_) R.co R.gen R.kind
    · have hx : x ∈ ([("self", Value.ref a), (par, u)] : List (Str × Value)) := hx
      simp only [List.mem_cons, List.not_mem_nil, or_false] at hx
      rcases hx with rfl | rfl
      · exact R.l0
      · exact R.l1
    · obtain ⟨t, ht, p0, p1, p2, p3, p4, p5, p6, p7, p8, p9, j, hbody, hev⟩ := R.txt
      obtain ⟨env, henv⟩ : ∃ env, env = callEnv (erFd qual (defArgs st) (defBody st) (defScope st) cc kV doc pm an (.ref cd) ct) s.heap.objs.size fI := ⟨_, rfl⟩
      have I := er_start (xe := fun _ _ => False) (tk := s.toks + 2) (qual := qual) (kV := kV) (doc := doc) (pm := pm) (an := an) (cdv := .ref cd) (ct := ct) R hcc e0 hr.hd hns kp rv
      have key : ∀ body : List Stmt, body = [.Expr (.Call (.Attribute (.Call (.Name "super" p0) [] [] p1) "__init__" p2) [.Constant (.str t) j p3] [] p4) p5, .Assign [.Attribute (.Name "self" p6) f p7] (.Name par p8) p9] →
          PySem.wpAt (model P w) (A.deeper env) (.func body env) (execs body env) (fun fl s' => CR CX0 outer P w H s Q E (.ok (.ret (match fl with | .ret v => v | _ => .none))) s')
            (fun _ _ => False) { s with heap := h1, toks := s.toks + 2 } := by
        intro body hb
        subst hb
        obtain ⟨oc', dc', slc', hcl⟩ := id hcc
        have hself : ∃ ar : Arg, ((defArgs st).posonlyargs ++ (defArgs st).args).head? = some ar ∧ ar.arg = "self" := by
          have := R.hd
          cases q2 : ((defArgs st).posonlyargs ++ (defArgs st).args).head? with
          | none => rw [q2] at this; cases this
          | some ar => rw [q2] at this; exact ⟨ar, rfl, Option.some.inj this⟩
        obtain ⟨ar, har, earg⟩ := hself
        obtain ⟨nm, qn, N, bs, bm, sn, sub, ab, col, dd, k0, k1, k2, k3, k5, hC, hbm⟩ := R.ox.cls
        have KI : K.In h1 := KX.keeps kp
        have hclC : PySem.W.clsIn K C = some { name := nm, bases := bs, mro := .ref C :: bm, ns := N, qualname := qn, hasDict := true, slotNames := sn, subclasses := sub, abstract := ab, collection := col, hasDel := false } := by
          unfold PySem.W.clsIn
          rw [hC]
        obtain ⟨pl, hpl⟩ := hev env
        have hint : interactive env = false := by
          unfold interactive
          rw [show env.scope.kind = .function by rw [henv]; exact R.kind]
          rfl
        refine PySem.ks_wpAt_execs_cons (PySem.ks_wpAt_Expr_any (PySem.ks_wpAt_MethodCall (pl := pl) (PySem.ks_wpAt_super_base (f := fI) (cc := cd) (ar := ar) (fd := erFd qual (defArgs st) (defBody st) (defScope st) cc kV doc pm an (.ref cd) ct)
          (by rw [henv]; exact R.ls) (by rw [henv]; exact R.lc) (by decide) (by rw [henv]; rfl) (KI _ _ lk) rfl har (by rw [henv]; rfl) (KI _ _ hco) rfl hvs hfile R.top ?_) hpl) hint rfl)
        have hk : env.scope.kind = .function := by rw [henv]; exact R.kind
        obtain ⟨mb, hb1, hb2⟩ := e0.mod.blt
        have bk : ∀ b o, base.get? b = some o → h1.get? b = some o := fun b o e => kp b o (e0.bs b o e).1
        have hL : h1.get? a = _ := (exo_at (e0.hok.kept kp) ha).choose_spec
        obtain ⟨t0, ht0⟩ : ∃ t0, h1.get? a = some (PySem.HandSPX.excO C t0) := ⟨_, hL⟩
        rw [loadName_read hk (by rw [henv]; exact R.ls)]
        refine Calls.loadGlobal_builtin (mg := mg) (mb := mb) (v := .type "super") (by rw [henv]; exact e0.mod.glob.keeps bk) R.ns (by rw [henv]; exact hb1.keeps bk) ((hb2 "super" (by decide)).trans (by kernel_rfl)) ⟨rfl, ?_⟩
        refine wpAny_loadName_free (c := cc) (v := .ref C) hk (by rw [henv]; exact R.lc) (by rw [henv]; rfl) ⟨_, KI _ _ hcl, rfl⟩ ?_
        rw [earg]
        refine wpAny_loadName_local (v := .ref a) hk (by rw [henv]; exact R.l0) (by rw [henv]; exact hns) ?_ ?_
        · show ([(par, u), ("self", Value.ref a)] : List (Str × Value)).lookup ("self" : Str) = _
          rw [List.lookup_cons, show (("self" : Str) == par) = false from beq_eq_false_iff_ne.mpr (Ne.symm R.ne)]
          rfl
        refine PySem.ks_wpAny_isType_cls (KI _ _ hC) rfl ⟨rfl, ?_⟩
        refine PySem.ks_wpAny_call_super (KI _ _ hC) rfl ht0 rfl (fun c z => by cases z) (PySem.W.looks_mroIn KI R.slf) (fun h2 hso k2 => ?_)
        have K2 : K.In h2 := KI.keeps k2
        have J2 : PySem.W.InstAt h2 a (PySem.HandSPX.excO C t0) C none := ⟨k2 _ _ ht0, rfl, rfl, trivial⟩
        have hsup : PySem.W.alongIn K "__init__" (((Value.ref C :: bm).dropWhile (· != .ref C)).drop 1) = some (some (.builtin "ValueError.__init__")) := by
          have := R.sup
          unfold PySem.W.ks_superIn at this
          rw [hclC] at this
          exact this
        refine PySem.W.kxs_getMethod PySem.W.kxs_ValueError hso (PySem.W.looks_opaque K2 R.opq) (l₀ := .ref C :: bm) (fun A Q E s k q => wpAny_bind ((PySem.W.looks_clsIn K2 hclC) A _ E s k (wpAny_pure q))) rfl K2 hsup
          (J2.type.andThen (PySem.W.looks_subIn K2 R.ve)) (PySem.W.ks_ne K2 J2 hclC) (by decide) ?_
        show wpAny _ _ (callWith p4 (.ref h2.objs.size) [] ((false, eval (.Constant (.str t) j p3) env) :: backTo p4 (starEach [] env)) []) _ _ _
        refine PySem.W.kxs_callWith (i := "ValueError.__init__") (x := a) rfl (Calls.evalArgs_plain (Calls.spliced_cons (Calls.Constant_str (Calls.spliced_nil ⟨Heap.get?_push_size _ rfl, ?_⟩))))
        have k3 : ∀ b o, h1.get? b = some o → (h2.push (PySem.W.kxs_mw "ValueError.__init__" a)).get? b = some o := fun b o e => Heap.get?_push_of_some _ (k2 b o e)
        refine er_call (KI.keeps k3 _ _ hC) (k3 _ _ ht0) (Heap.get?_push_size _ rfl) (by show 1 ≤ sizeLine; decide) fun h4 t1 k4 e4 => ?_
        have I3 := (I.kept (h' := h2.push (PySem.W.kxs_mw "ValueError.__init__" a)) (t' := s.toks) k3).write (t' := s.toks + 2 + 1 + 1) (x := a) (e := a) (o := exo a C none) (by rw [ha]; exact True.intro) (.inl rfl) k4 ⟨_, e4⟩ (exo_ok e4)
        have eu : upd H a (exo a C none) = H := by
          funext b
          by_cases hb : b = a
          · rw [hb, upd_same, ha]
          · rw [upd_ne hb]
        rw [eu] at I3
        subst henv
        have hP := pss_one (ps_ost (pos := p9) (p' := p7) (f := f) (pe_var (pos := p6) (i := 0) (X := erCx P w K mg base ["self", par] (erFd qual (defArgs st) (defBody st) (defScope st) cc kV doc pm an (.ref cd) ct) fI A outer s H (fun _ _ => False)) (x := "self") rfl (.inl R.l0)) (pe_var (pos := p8) (i := 1) (x := par) rfl (.inl R.l1) R.pd R.pc))
        refine wpAt_of_wpAny (wpAny_mono (hP.run [] _ _ H { nx := fun _ H' => Q .non H', rt := fun _ _ => False } I3 ⟨v, rfl, .ref a, rfl, a, C, rfl, R.ox, R.nof, .inl ⟨ha, fun dx h1 h2 => q dx h1 h2⟩⟩) (fun fl s' hs => ?_) fun _ _ z => z)
        cases fl with
        | next =>
          obtain ⟨σ', H', J', q'⟩ := hs
          exact ⟨.non, H', J'.os, J'.bare, J'.base, J'.hok, rfl, q'⟩
        | ret u =>
          obtain ⟨_, _, _, _, _, q'⟩ := hs
          exact q'.elim
        | brk =>
          obtain ⟨_, _, _, q'⟩ := hs
          exact q'.elim
        | cont =>
          obtain ⟨_, _, _, q'⟩ := hs
          exact q'.elim
      refine PySem.ks_wpAt_mono (henv ▸ key _ hbody) (fun _ _ x => x) fun _ _ x => x.elim
end
end NA

/-! Part G: a caught error that is kept behind its suite. -/
namespace NA
open PySem PySem.Spec PyProof.Rows L2
def HeldO (cls : Value) (d : Option Addr) (a : Addr) : HO := .ext fun h => ∃ (oe : Obj) (vs : Array Value), h.get? a = some oe ∧ Zc cls d oe ∧ oe.data = .fields vs
theorem held_ok {P : Program} {w : World} {H : Hp} {h : Heap} {a : Addr} {cls : Value} {d : Option Addr} {oe : Obj} {vs : Array Value} (e : h.get? a = some oe) (z : Zc cls d oe) (hd : oe.data = .fields vs) : ObjOk P w H h a (HeldO cls d a) :=
  ⟨⟨oe, vs, e, z, hd⟩, ⟨oe, e⟩, fun h1 h2 ⟨o, v, e1, r⟩ k => ⟨o, v, k o e1, r⟩⟩
section
variable {X : Cx} {pins : List (Addr × Obj)} {σ : L2.St} {H : Hp} {s : Shared}
/-- an object that came since the entry and is not tracked may be tracked from now on -/
theorem inv_hold {a : Addr} {cls : Value} {d : Option Addr} {oe : Obj} {vs : Array Value} (I : Inv X pins σ H s) (h0 : X.s_0.heap.get? a = none) (hn : H a = none) (hp : ∀ p ∈ X.pn ++ pins, p.1 ≠ a) (hl : a ≠ X.env.locals)
    (ho : s.heap.get? a = some oe) (hz : Zc cls d oe) (hd : oe.data = .fields vs) : Inv X pins σ (upd H a (HeldO cls d a)) s := by
  have old : ∀ {b : Addr} {o : Obj}, X.s_0.heap.get? b = some o → b ≠ a := fun {b o} e z => by rw [z, h0] at e; cases e
  have nc : ∀ {y : Str} {c : Addr}, X.env.cells.lookup y = some c → c ≠ a := fun {y c} e z => by
    obtain ⟨v, o, e1, e2⟩ := I.cell y c e
    rw [z, ho] at e1
    cases e1
    rw [hd] at e2
    cases e2
  exact {
    ok := I.ok
    os := I.os
    bare := I.bare
    base := {
      keep := I.base.keep
      slot := I.base.slot
      free := fun b o e n x => by rw [upd_ne (old e)]; exact I.base.free b o e n x
      there := I.base.there
      tups := fun b xs e => by
        have q := I.base.tups b xs e
        rw [upd_ne (ne_of_none q hn)]; exact q
      frzs := fun b o xs e => by
        have q := I.base.frzs b o xs e
        rw [upd_ne (ne_of_none q hn)]; exact q
      tbls := fun b ps e => by
        obtain ⟨m, q⟩ := I.base.tbls b ps e
        exact ⟨m, by rw [upd_ne (ne_of_none q hn)]; exact q⟩ }
    loc := I.loc
    cell := I.cell
    free := by rw [upd_ne (Ne.symm hl)]; exact I.free
    freeC := fun y c e => by rw [upd_ne (nc e)]; exact I.freeC y c e
    pin := fun p hp' => by
      obtain ⟨e1, e2, r⟩ := I.pin p hp'
      exact ⟨e1, by rw [upd_ne (hp p hp')]; exact e2, r⟩
    hok := I.hok.laidN (fun _ _ e => e) hn (held_ok ho hz hd)
    len := I.len }
end
/-- what `except x as n: y = n` wishes: slot i is n's, slot j is y's -/
def wHold (K : PySem.W.Frag) (m : Nat) (c : Value) (i j : Nat) (Wout : WX) (D : Ends) : WX := fun cls d σ H =>
  ∃ b, PySem.W.exmOne K cls c = some b ∧ (b = true → ∀ a, H a = none → σ.length = m → D.nx (((σ.set i (some (.ref a))).set j (some (.ref a))).set i none) (upd H a (HeldO cls d a))) ∧ (b = false → Wout cls d σ H)
section
variable {X : Cx} {x n y : Str} {c : Value} {i j : Nat} {body : List Stmt} {np yp q1 q2 pos pos' : Pos} {tb : WX → TS} {Wout : WX}
/-- the catch -/
theorem hold_catch {pins : List (Addr × Obj)} {D : Ends} {u : Value} {s' : Shared} {xe' : Value → Shared → Prop} (ok : X.Ok) (hs : X.stack = X.env :: X.outer) (hf : X.env.frame = some X.env.locals) (hN : X.N.Nodup) (hi : X.N[i]? = some n) (hj : X.N[j]? = some y) (hln : X.env.kindOf n = some .local) (hly : X.env.kindOf y = some .local)
    (hex : X.ex = []) (hc : Names X x c) (tk : Takes X Wout) (hlen : i < X.N.length) (hdn : (n == ("__debug__" : Str)) = false) (hcn : (n == ("__classdict__" : Str)) = false) (xx : XE (X.tr (X.pn ++ pins) xe') (wHold X.K X.N.length c i j Wout D) u s') :
    wpAny (model X.prog X.w) X.A (noteFrame u X.env) (fun _ s2 => wpAny (model X.prog X.w) X.A (setFlight u none) (fun _ s3 =>
      wpAny (model X.prog X.w) X.A (handleBy u X.env [.ExceptHandler (some (.Name x np)) (some n) [.Assign [.Name y yp] (.Name n q1) q2] pos']) (SP X pins D) X.xe s3) X.xe s2) X.xe s' := by
  obtain ⟨a, B, sI, pins', σ', H', cls, d, rfl, J', nb, up, sky, na, os, ag, b, hb1, hyes, hno⟩ := xx
  have J : Inv X pins σ' H' sI := J'.ofTry ok
  have hfr : X.A.frames = some (X.env :: X.outer) := ok.frames.trans (congrArg some hs)
  refine Sky.land Zc.steady hfr hf (by rw [← hs]; exact sky) fun h3 fl3 up3 => ?_
  have lnd : ∀ h5, HandSPX.FlyingZ B (X.env :: X.outer) a (Zc cls d) h5 → s'.heap.UpToSlots h5 → Inv X pins σ' H' { s' with heap := h5 } := fun h5 fl5 up5 => J.landed nb fl5.1 (up.trans up5) os ag
  have J3 := lnd h3 fl3 up3
  obtain ⟨oe3, vs3, he3, hz3, hd3⟩ := fl3.there
  have nfr : a ∉ frs (X.env :: X.outer) := fun hm => by
    obtain ⟨_, o', e', hnf⟩ := fl3.2.2.1.mem hm
    rw [he3] at e'
    cases e'
    exact hnf _ hd3
  have nL : a ≠ X.env.locals := fun z => nfr (List.mem_filterMap.mpr ⟨X.env, List.mem_cons_self, by rw [hf, z]⟩)
  have nF : a ∉ X.fs := fun hm => nfr (by
    obtain ⟨e, he, q⟩ := List.mem_filterMap.mp hm
    exact List.mem_filterMap.mpr ⟨e, List.mem_cons_of_mem _ he, q⟩)
  -- it came since the entry
  have newI : sI.heap.get? a = none := by
    cases q : sI.heap.get? a with
    | none => rfl
    | some o =>
      have := nb a o q (by rw [hs]; exact nfr)
      rw [fl3.2.1] at this
      cases this
  have new0 : X.s_0.heap.get? a = none := by
    cases q : X.s_0.heap.get? a with
    | none => rfl
    | some o =>
      obtain ⟨o', e'⟩ := J.base.there a o q (by rw [hex]; exact List.not_mem_nil)
      rw [newI] at e'
      cases e'
  have newP : ∀ p ∈ X.pn ++ pins, p.1 ≠ a := fun p hp z => by
    have e := (J.pin p hp).1
    rw [z, newI] at e
    cases e
  have S3 := J3.suite he3 hd3 na nL nF
  refine wpAny_handleBy_cons (codeAny_handlers_test ?_) (by intro q; cases q)
  have LT : PySem.W.Looks (model X.prog X.w) h3 (typeOf (.ref a)) cls := fun _ _ _ _ k q => wpAny_typeOf_ref (k _ _ he3) (hz3.1.symm ▸ q)
  have test : ∀ {Q : Value → Shared → Prop} {E : Value → Shared → Prop}, Q c { s' with heap := h3 } →
      wpAny (model X.prog X.w) (X.A.mark (some (.ref a))) (eval (.Name x np) X.env) Q E { s' with heap := h3 } := fun {Q E} q => by
    obtain ⟨hg, hdbg, hm | ⟨hm, hv, hnn⟩⟩ := hc
    · exact ld_glob (X := X.suite a ((a, oe3) :: (X.pn ++ pins))) S3 hg hm q hdbg
    · exact ld_blt (X := X.suite a ((a, oe3) :: (X.pn ++ pins))) S3 hg hm hv q hnn hdbg
  refine test ((PySem.W.exm_one (M := model X.prog X.w) J3.kIn LT hb1).here ?_)
  cases b with
  | true =>
    refine codeAny_handlers_suite_as (HandSPX.lands_againZ fl3 fun h4 fl4 up4 => ?_)
    obtain ⟨oe4, vs4, he4, hz4, hd4⟩ := fl4.there
    have S4 := (lnd h4 fl4 (up3.trans up4)).suite he4 hd4 na nL nF
    refine store_ok (X := X.suite a ((a, oe4) :: (X.pn ++ pins))) (v := .ref a) S4 hN hi (.inl hln) rfl (fun s5 S5 => ?_) (.inr hln)
    have hP := pss_one (ps_set (pos := q2) (pos' := yp) (X := X.suite a ((a, oe4) :: (X.pn ++ pins))) (i := j) hN hj (.inl hly) (pe_var (i := i) (pos := q1) hi (.inl hln) hdn hcn) rfl (.inr hly))
    have hlt : i < σ'.length := by rw [J.len]; exact hlen
    refine wpAny_mono (hP.run [] s5 _ H' { nx := fun σ6 H6 => σ6 = (σ'.set i (some (.ref a))).set j (some (.ref a)) ∧ H6 = H', rt := fun _ _ => False } S5 ⟨.ref a, by rw [List.getElem?_set_self hlt], rfl, rfl⟩) (fun f s6 hsp => ?_) (fun _ _ z => z.elim)
    cases f with
    | next =>
      obtain ⟨σ6, H6, S6, rfl, rfl⟩ := hsp
      have J6 : Inv X ((a, oe4) :: pins) ((σ'.set i (some (.ref a))).set j (some (.ref a))) H6 s6 :=
        ⟨ok, S6.os, S6.bare, S6.base, S6.loc, S6.cell, S6.free, S6.freeC, fun p hp => S6.pin p (by
          rcases List.mem_append.mp hp with z | z
          · exact List.mem_append_left _ (List.mem_cons_of_mem _ (List.mem_append_left _ z))
          · rcases List.mem_cons.mp z with z | z
            · rw [z]; exact List.mem_append_left _ List.mem_cons_self
            · exact List.mem_append_left _ (List.mem_cons_of_mem _ (List.mem_append_right _ z))), S6.hok, S6.len⟩
      refine gone_ok J6 hN hi hln fun s7 J7 => ?_
      obtain ⟨hget, _⟩ := J7.pin (a, oe4) (List.mem_append_right _ List.mem_cons_self)
      have J8 : Inv X pins (((σ'.set i (some (.ref a))).set j (some (.ref a))).set i none) H6 s7 :=
        ⟨ok, J7.os, J7.bare, J7.base, J7.loc, J7.cell, J7.free, J7.freeC, fun p hp => J7.pin p (by
          rcases List.mem_append.mp hp with z | z
          · exact List.mem_append_left _ z
          · exact List.mem_append_right _ (List.mem_cons_of_mem _ z)), J7.hok, J7.len⟩
      exact ⟨_, _, inv_hold J8 new0 na newP nL hget hz4 hd4, hyes rfl a na J.len⟩
    | brk => obtain ⟨_, _, _, z⟩ := hsp; exact z.elim
    | cont => obtain ⟨_, _, _, z⟩ := hsp; exact z.elim
    | ret u => obtain ⟨_, _, _, _, _, z⟩ := hsp; exact z.elim
  | false =>
    refine wpAny_handleBy_nil ?_
    obtain ⟨k1, k2, k3, oe, vs, T, oT, ts', he, hz, hd, h1, hr⟩ := id fl3
    unfold PySem.passOn
    refine wpAny_bind (wpAny_field he hd h1 ?_)
    rw [if_neg (by simp)]
    have fin : wpAny (model X.prog X.w) X.A (setFlight (.ref a) X.env.frame) (fun _ s4 => wpAny (model X.prog X.w) X.A (throw (.ref a) : Sem Flow) (SP X pins D) X.xe s4) X.xe { s' with heap := h3 } := by
      rw [hf]
      exact HandSPX.setFlight_upZ fl3 fun h4 hh4 up4 => wpAny_throw (tk _ _ ⟨a, B, sI, pins, σ', H', cls, d, rfl, J, nb, (up.trans up3).trans up4, .inr (.inr (by rw [hs]; exact hh4)), na, os, ag, hno rfl⟩)
    first
      | exact wpAny_bind (wpAny_pure (wpAny_bind fin))
      | exact wpAny_bind fin
/-- try: body / except x as n: y = n -/
theorem ps_try_hold (hs : X.stack = X.env :: X.outer) (hf : X.env.frame = some X.env.locals) (hex : X.ex = []) (hN : X.N.Nodup) (hi : X.N[i]? = some n) (hj : X.N[j]? = some y) (hln : X.env.kindOf n = some .local) (hly : X.env.kindOf y = some .local) (hc : Names X x c) (tk : Takes X Wout)
    (hb : ∀ (W : WX) (pn : List (Addr × Obj)) (xe : Value → Shared → Prop), Takes (X.tr pn xe) W → PassesOwn (model X.prog X.w) X.A X.env xe → PSs (X.tr pn xe) body (tb W)) (hdn : (n == ("__debug__" : Str)) = false := by decide) (hcn : (n == ("__classdict__" : Str)) = false := by decide) :
    PS X (.Try body [.ExceptHandler (some (.Name x np)) (some n) [.Assign [.Name y yp] (.Name n q1) q2] pos'] [] [] pos) (fun D σ H => tb (wHold X.K X.N.length c i j Wout D) D σ H) := by
  refine ⟨fun pins s σ H D I h => wpAny_Try_except ?_⟩
  have ok := I.ok
  have hlen : i < X.N.length := (List.getElem?_eq_some_iff.mp hi).1
  have T := hb (wHold X.K X.N.length c i j Wout D) (X.pn ++ pins) (fun e s1 => wpAny (model X.prog X.w) X.A (noteFrame e X.env) (fun _ s2 => wpAny (model X.prog X.w) X.A (setFlight e none) (fun _ s3 =>
      wpAny (model X.prog X.w) X.A (handleBy e X.env [.ExceptHandler (some (.Name x np)) (some n) [.Assign [.Name y yp] (.Name n q1) q2] pos']) (SP X pins D) X.xe s3) X.xe s2) X.xe s1)
    (fun u s' xx => hold_catch ok hs hf hN hi hj hln hly hex hc tk hlen hdn hcn xx) PassesOwn.looking
  refine wpAny_mono (T.run [] s σ H D (I.toTry _) h) (fun f s1 hsp => ?_) (fun _ _ z => z)
  cases f with
  | next =>
    obtain ⟨σ', H', J', q⟩ := hsp
    exact wpAny_execs_nil ⟨σ', H', J'.ofTry ok, q⟩
  | brk =>
    obtain ⟨σ', H', J', q⟩ := hsp
    exact ⟨σ', H', J'.ofTry ok, q⟩
  | cont =>
    obtain ⟨σ', H', J', q⟩ := hsp
    exact ⟨σ', H', J'.ofTry ok, q⟩
  | ret u =>
    obtain ⟨v, σ', H', J', r, q⟩ := hsp
    exact ⟨v, σ', H', J'.ofTry ok, r, q⟩
end
end NA

/-! Part H: errors raised, kept errors looked at, lambdas. -/
namespace NA
open PySem PySem.Spec PyProof.Rows L2
/-! ### raise C(e) -/
abbrev tErr (C : Addr) (f : Str) (te : TE) : L2.St → Hp → XK → Prop := tMkO C (spErr C f) [] (tCons te tNil)
section
variable {X : Cx} {C fI : Addr} {f par x : Str} {st : Stmt} {e : Expr} {te : TE} {p pos : Pos}
theorem pmk_err (R : ErC X.prog X.K X.mg C fI f par st) (hr : Room 2 X.A) (hg : Gl X x) (hm : X.mg x = some (.ref C)) (he : PE X e te)
    (hdb : (x == ("__debug__" : Str)) = false := by decide) (hst : starEach [e] X.env = (false, eval e X.env) :: starEach [] X.env := by rfl) :
    PMk X (.Call (.Name x p) [e] [] pos) (tErr C f te) := by
  obtain ⟨fd, hb, F⟩ := ok_err (w := X.w) R
  exact pmk_oex (X := X) (p := p) (pos := pos) (ds := []) (dvs := []) R.ox R.init R.ity (F X.base) hr hb .nil (fun _ _ _ _ _ _ _ z => z.elim) hg hm (pa_cons he pa_nil hst) hdb hst rfl
theorem v_err {H1 : Hp} {v : V} {Q : XK} (k : ∀ d, H1 d = none → Q (.ref C) (some d) (upd H1 d (.xd [(f, v)]))) :
    ([v] : List V).length ≤ 1000 ∧ ∀ a, H1 a = none → spErr C f (.ref a :: ([v] ++ [])) (upd H1 a (exo a C none))
      (fun v H2 => v = .non ∧ ∃ (d : Addr) (fs : List (Str × V)), H2 a = some (exo a C (some d)) ∧ H2 d = some (exd d fs) ∧ H1 d = none ∧ Q (.ref C) (some d) (upd (del H2 a) d (.xd fs))) (fun _ _ _ => False) := by
  refine ⟨by show 1 ≤ 1000; omega, fun a ha => ⟨a, v, rfl, upd_same, fun dx h1 h2 => ⟨rfl, dx, [(f, v)], upd_same, ?_, ?_, ?_⟩⟩⟩
  · rw [upd_ne h2, upd_same]
  · rw [upd_ne h2] at h1; exact h1
  · rw [upd_ne h2] at h1
    have e : upd (del (upd (upd (upd H1 a (exo a C none)) dx (exd dx [(f, v)])) a (exo a C (some dx))) a) dx (.xd [(f, v)]) = upd H1 dx (.xd [(f, v)]) := by
      funext b
      by_cases hb : b = dx
      · rw [hb, upd_same, upd_same]
      · rw [upd_ne hb, upd_ne hb]
        by_cases hb2 : b = a
        · rw [hb2, del_same, ha]
        · rw [del_ne hb2, upd_ne hb2, upd_ne hb, upd_ne hb2]
    rw [e]
    exact k dx h1
end
/-! ### a kept error: its field, isinstance -/
section
variable {X : Cx} {C : Addr} {e : Expr} {te : TE} {pos : Pos} {n : Str}
def tHeld (C : Addr) (n : Str) (te : TE) : TE := fun σ H Q => te σ H fun x H1 => ∃ (a dd : Addr) (fs : List (Str × V)) (v : V), x = .ref a ∧ H1 a = some (HeldO (.ref C) (some dd) a) ∧ H1 dd = some (.xd fs) ∧ fs.lookup n = some v ∧ Q v H1
theorem held_at {pins : List (Addr × Obj)} {σ : L2.St} {H : Hp} {s : Shared} {a dd : Addr} {fs : List (Str × V)} (I : Inv X pins σ H s) (ha : H a = some (HeldO (.ref C) (some dd) a)) (hd : H dd = some (.xd fs)) :
    ∃ (oe od : Obj) (mA : Str → Option Value), PySem.W.InstAt s.heap a oe C (some od) ∧ (∀ name, PySem.W.lookIn name od = some (mA name)) ∧ ∀ f, RelO (fs.lookup f) (mA f) := by
  obtain ⟨⟨oe, vs, e1, hz, hdat⟩, _, _⟩ := (show ObjOk X.prog X.w H s.heap a (HeldO (.ref C) (some dd) a) from I.hok a _ ha)
  obtain ⟨mA, hns, hr⟩ := (show ObjOk X.prog X.w H s.heap dd (.xd fs) from I.hok dd _ hd)
  obtain ⟨od, ho, hl⟩ := lookIn_ns hns
  exact ⟨oe, od, mA, ⟨e1, hz.1, by unfold PySem.W.notCls; rw [hdat] <;> rfl, by rw [hz.2]; exact ho⟩, hl, hr⟩
theorem pe_held (T : XfC X.K C) (hno : PySem.W.findIn X.K (.ref C) n = some none) (he : PE X e te) (hb : attributeBase e n X.env (eval e X.env) = eval e X.env := by rfl) : PE X (.Attribute e n pos) (tHeld C n te) := by
  refine ⟨fun pins s σ H Q I h => attr_of hb (thn (he.run pins s σ H _ I h) fun u s1 hh => ?_)⟩
  obtain ⟨x, H1, I1, rx, a, dd, fs, v, rfl, ha, hd, l, q⟩ := hh
  obtain rfl : u = Value.ref a := rx
  obtain ⟨oe, od, mA, J, hl, hr⟩ := held_at I1 ha hd
  obtain ⟨u, hu, ru⟩ := RelO.some_of (v := v) (o := mA n) (by rw [← l]; exact hr n)
  exact HandSPX.exc_get I1.kIn J T.ga T.gg T.exC (PySem.W.findObj_own T.hdC hno rfl (by rw [hl, hu])) (handed_of ru) ⟨v, H1, I1.tok _, ru, q⟩
def rIsH (K : PySem.W.Frag) : List V → Hp → VK → Prop := fun xs H Q => ∃ (a D dd : Addr) (fs : List (Str × V)) (c : V) (cv : Value) (b : Bool), xs = [.ref a, c] ∧ ExcC K D ∧ H a = some (HeldO (.ref D) (some dd) a) ∧ H dd = some (.xd fs) ∧ (∀ u, L2.RelV c u → u = cv) ∧ PySem.W.kitOne K (.ref D) cv = some b ∧ Q (.bl b) H
theorem kitx_held {K : PySem.W.Frag} {x D : Addr} (T : ExcC K D) : PySem.W.KitX K (.ref x) (.ref D) (fun h => ∃ ox od, PySem.W.InstAt h x ox D od) where
  ty := fun _ _ _ ⟨_, _, I⟩ => I.type
  it := fun _ _ X _ => by
    obtain ⟨cd, hc, _⟩ := PySem.W.any_some T.hd
    unfold PySem.W.clsIn at hc
    split at hc
    · rename_i ho
      intro A' Q' E' s' k q
      unfold isType loadHead
      exact wpAny_bind (wpAny_loadPart (k _ _ (X _ _ ho)) (wpAny_pure q))
    · cases hc
  ne := fun h tp dd its n sl X htp => by
    obtain ⟨cd, hc, _⟩ := PySem.W.any_some T.hd
    refine Bool.eq_false_iff.mpr fun q => ?_
    have e : D = tp := Value.ref.inj (beq_iff_eq.mp q)
    subst e
    unfold PySem.W.clsIn at hc
    split at hc
    · rename_i ho
      have z := (X _ _ ho).symm.trans htp
      cases z
    · cases hc
  ca := fun {_ _ _ _ _ _} X ⟨ox, od, I⟩ k => by
    obtain ⟨cd, hc, _⟩ := PySem.W.any_some T.hd
    exact PySem.W.kx_classE X I T.hg T.hk T.hs (PySem.W.findObj_dataE (by rw [hc]; rfl) T.ha T.hn T.ht) T.hm k
theorem call_isH : CallR X (.builtin "isinstance") (rIsH X.K) := by
  intro pins s σ H xs us Q I r h
  obtain ⟨a, D, dd, fs, c, cv, b, rfl, T, ha, hd, hcv, e, q⟩ := h
  obtain ⟨u1, u2, rfl, r1, r2⟩ := vals2 r
  cases (show u1 = Value.ref a from r1)
  have ec := hcv _ r2
  subst ec
  obtain ⟨oe, od, mA, J, _, _⟩ := held_at I ha hd
  exact PySem.W.kia_one (kitx_held T) I.kIn ⟨_, _, J⟩ e (fun z => nomatch z) fun tk => ⟨.bl b, H, I.tok tk, rfl, q⟩
end
end NA

/-! Part I: class and static methods by keyword, defs that raise, defs that make lambdas. -/
namespace NA
open PySem PySem.Spec PyProof.Rows L2
section
variable {X : Cx} {CX : CXT} {k n : Nat} {C p g : Addr} {mc : Value} {sp : Sp} {E : XK} {m : Str} {ks : List Str} {o e : Expr} {es : List Expr} {kws : List Keyword} {ta : TE} {t tk : TA} {pos apos : Pos}
/-- C.m(k = v, ..), m a classmethod -/
def tCMthK (C : Addr) (ks : List Str) (sp : Sp) (E : XK) (ta : TE) (tk : TA) : TE := fun σ H Q => ta σ H fun x H1 => x = .ref C ∧ tk σ H1 fun zs H2 => zs.length = ks.length ∧ sp (.ref C :: zs) H2 Q E
theorem pe_cmethK {pl : Sem Bool} (he : PE X o ta) (r : ClX.CRead X.K C mc) (c : ClX.CMet X.K C mc m p g) (F : FnK X.prog X.w X.K X.mg X.base CX k g 1 ks sp) (hr : Room k X.A) (hx : Passes CX X E) (hkw : PK X kws tk)
    (hall : (backToKw pos (keywordEach kws X.env)).all (·.1.isSome) = true := by rfl) (hks : (backToKw pos (keywordEach kws X.env)).filterMap (·.1) = ks := by rfl)
    (hpl : ((backTo pos (starEach [] X.env)).any (·.1) || (backToKw pos (keywordEach kws X.env)).any (·.1.isNone)) = false := by rfl)
    (ht : eval (.Call (.Attribute o m apos) [] kws pos) X.env = (do
      let ov ← eval o X.env
      standAt apos.atName
      let (f, first) ← holding [ov] (getMethod ov m pl)
      callWith pos f first (backTo pos (starEach [] X.env)) (backToKw pos (keywordEach kws X.env))) := by rfl) :
    PE X (.Call (.Attribute o m apos) [] kws pos) (tCMthK C ks sp E ta tk) := by
  refine ⟨fun pins s σ H Q I h => PySem.W.methodCall_KW (pl := pl) (thn (he.run pins s σ H _ I h) fun u s1 ⟨x, H1, I1, rx, ex, q⟩ => ?_) ht⟩
  subst ex
  obtain rfl : u = Value.ref C := rx
  refine ClX.getmethcm_ok I1 r c fun s2 I2 => ?_
  refine PySem.W.callWith_of (P := PySem.W.MethP X.K s1.heap.objs.size g (.ref C)) hpl (PySem.W.keeps_M c.fi) (evalArgs_kw2_nil hall (thn (hkw.run pos _ s2 σ H1 _ I2 q) fun ws s3 ⟨zs, H2, I3, rz, l2, q2⟩ => ⟨⟨ClX.pin_at I3, I3.kIn⟩, ?_⟩))
  rw [hks]
  have z : wpAny (model X.prog X.w) X.A (call (.ref s1.heap.objs.size) [] (ks.zip ws)) (EP X ((s1.heap.objs.size, PySem.W.methodObj (.ref g) (.ref C)) :: pins) σ Q) X.xe s3 := by
    refine wpAny_call (PySem.W.method_call (ClX.pin_at I3) (codeAny_mono (F X.A X.stack s3 H2 [.ref C] ws (.ref C :: zs) Q E hr I3.env0 rfl (by rw [← rz.length]; exact l2) (.cons rfl rz) q2) fun r s' hq => ?_))
    cases r with
    | error e => exact hx _ σ H2 s3 e s' I3 hq
    | ok fl =>
      cases fl with
      | ret u => exact I3.after hq
      | next => exact False.elim hq
      | brk => exact False.elim hq
      | cont => exact False.elim hq
  exact thn z fun _ _ y => ClX.unpinE y
/-- C.m(..), m a staticmethod -/
structure SMet (K : PySem.W.Frag) (C : Addr) (mc : Value) (m : Str) (p g : Addr) : Prop where
  at_ : PySem.W.findCls K (.ref C) mc m = some (.get (.builtin "staticmethod.__get__") (.ref p) .none (.ref C))
  rc : ∃ rest, PySem.W.recIn K p "staticmethod" = some (.ref g :: rest)
  kp : PySem.W.keepIn K (.ref g) = true
theorem getmethsm_ok {pins : List (Addr × Obj)} {σ : L2.St} {H : Hp} {s : Shared} {A : Around} {E : Value → Shared → Prop} {pl : Sem Bool} {Q : Value × List Value → Shared → Prop} (I : Inv X pins σ H s) (r : ClX.CRead X.K C mc) (c : SMet X.K C mc m p g)
    (h : ∀ s', Inv X pins σ H s' → Q (.ref g, []) s') : wpAny (model X.prog X.w) A (getMethod (.ref C) m pl) Q E s := by
  obtain ⟨rest, hp⟩ := c.rc
  refine PySem.W.method_cls I.kIn r.ga (PySem.W.cls_bind I.kIn r.rd c.at_ (wpAny_call (PySem.W.sm_get (s := { s with toks := s.toks + 1 }) I.kIn hp (PySem.W.handed_on rfl ?_))))
  exact h _ (I.tok _)
def tSMth (C : Addr) (sp : Sp) (E : XK) (ta : TE) (t : TA) : TE := fun σ H Q => ta σ H fun x H1 => x = .ref C ∧ t σ H1 fun vs H2 => sp vs H2 Q E
theorem pe_smeth {pl : Sem Bool} (he : PE X o ta) (r : ClX.CRead X.K C mc) (c : SMet X.K C mc m p g) (F : FnR X.prog X.w X.K X.mg X.base CX k g sp) (hr : Room k X.A) (hx : Passes CX X E) (ha : PA X (e :: es) t)
    (hst : starEach (e :: es) X.env = (false, eval e X.env) :: starEach es X.env := by rfl) (hpl : (backTo pos (starEach es X.env)).any (·.1) = false := by rfl)
    (ht : eval (.Call (.Attribute o m apos) (e :: es) [] pos) X.env = (do
      let ov ← eval o X.env
      standAt apos.atName
      let (f, first) ← holding [ov] (getMethod ov m pl)
      callWith pos f first (backTo pos (starEach (e :: es) X.env)) (backToKw pos (keywordEach [] X.env))) := by rfl) :
    PE X (.Call (.Attribute o m apos) (e :: es) [] pos) (tSMth C sp E ta t) := by
  refine ⟨fun pins s σ H Q I h => PySem.W.methodCall_KW (pl := pl) (thn (he.run pins s σ H _ I h) fun u s1 ⟨x, H1, I1, rx, ex, q⟩ => ?_) ht⟩
  subst ex
  obtain rfl : u = Value.ref C := rx
  refine getmethsm_ok I1 r c fun s2 I2 => ?_
  exact PySem.W.callWith_K (h₀ := X.base) (first := []) I.ok.mod.kin c.kp (thn (ha.run pos pins s2 σ H1 _ I2 q) fun us s3 ⟨vs, H2, I3, rv, q2⟩ => ⟨I3.kIn, wpAny_call (run_fnR F hr hx I3 rv q2)⟩) hst hpl
def tSMthK (C : Addr) (ks : List Str) (sp : Sp) (E : XK) (ta : TE) (tk : TA) : TE := fun σ H Q => ta σ H fun x H1 => x = .ref C ∧ tk σ H1 fun zs H2 => zs.length = ks.length ∧ sp zs H2 Q E
theorem pe_smethK {pl : Sem Bool} (he : PE X o ta) (r : ClX.CRead X.K C mc) (c : SMet X.K C mc m p g) (F : FnK X.prog X.w X.K X.mg X.base CX k g 0 ks sp) (hr : Room k X.A) (hx : Passes CX X E) (hkw : PK X kws tk)
    (hall : (backToKw pos (keywordEach kws X.env)).all (·.1.isSome) = true := by rfl) (hks : (backToKw pos (keywordEach kws X.env)).filterMap (·.1) = ks := by rfl)
    (hpl : ((backTo pos (starEach [] X.env)).any (·.1) || (backToKw pos (keywordEach kws X.env)).any (·.1.isNone)) = false := by rfl)
    (ht : eval (.Call (.Attribute o m apos) [] kws pos) X.env = (do
      let ov ← eval o X.env
      standAt apos.atName
      let (f, first) ← holding [ov] (getMethod ov m pl)
      callWith pos f first (backTo pos (starEach [] X.env)) (backToKw pos (keywordEach kws X.env))) := by rfl) :
    PE X (.Call (.Attribute o m apos) [] kws pos) (tSMthK C ks sp E ta tk) := by
  refine ⟨fun pins s σ H Q I h => PySem.W.methodCall_KW (pl := pl) (thn (he.run pins s σ H _ I h) fun u s1 ⟨x, H1, I1, rx, ex, q⟩ => ?_) ht⟩
  subst ex
  obtain rfl : u = Value.ref C := rx
  refine getmethsm_ok I1 r c fun s2 I2 => ?_
  refine PySem.W.callWith_KW0 (first := []) (h₀ := X.base) I.ok.mod.kin c.kp hall (thn (hkw.run pos pins s2 σ H1 _ I2 q) fun ws s3 ⟨zs, H2, I3, rz, l2, q2⟩ => ⟨I3.kIn, ?_⟩) hpl
  rw [hks]
  exact run_fnK (us := []) (vs := zs) F hr hx I3 rfl (by rw [← rz.length]; exact l2) rz q2
end
section
variable {P : Program} {w : World} {K : PySem.W.Frag} {mg : Str → Option Value} {base : Heap} {k : Nat} {f : Addr} {sp : Sp}
/-- a def that may raise: its promise, and its promise by keywords -/
theorem fnx {x qual : Str} {st : Stmt} {N ps : List Str} (F : FunE K x qual st f) (S : FnScope N ps (defScope st))
    (hb : ∀ (kV doc pm : Value) (an : Option Addr) (cdv ct : Value) (us : List Value), us.length = ps.length → bindArgs (PySem.W.fnOf x qual (defArgs st) (defBody st) (defScope st) .none kV doc pm an cdv ct) ⟨us, []⟩ = pure (ps.zip us))
    (len : ∀ vs H Q E, sp vs H Q E → vs.length = ps.length)
    (hbody : ∀ (cdv : Value) (A : Around) (outer : List Env) (s : Shared) (H : Hp) (vs : List V) (Q : VK) (E : XK), Room k (A.deeper (envOfC qual (defScope st) s.heap.objs.size f cdv)) → sp vs H Q E →
      ∃ t, PSs (cxOf (L2.CX P w) P w K mg base N qual (defScope st) f cdv A outer s H E) (defBody st) t ∧ t { nx := fun _ H' => Q .non H', rt := Q } (start N vs) H) : FnR P w K mg base (L2.CX P w) (k + 1) f sp := by
  obtain ⟨fd, F⟩ := F
  exact fnr_of (F.okX S len hbody) (F.binds hb)
theorem fnxk {x qual : Str} {st : Stmt} {N ps ks : List Str} {n : Nat} (F : FunE K x qual st f) (S : FnScope N ps (defScope st))
    (hk : ∀ (kV doc pm : Value) (an : Option Addr) (cdv ct : Value) (us ws : List Value), us.length = n → ws.length = ks.length → bindArgs (PySem.W.fnOf x qual (defArgs st) (defBody st) (defScope st) .none kV doc pm an cdv ct) ⟨us, ks.zip ws⟩ = pure (ps.zip (us ++ ws)))
    (len : ∀ vs H Q E, sp vs H Q E → vs.length = ps.length)
    (hbody : ∀ (cdv : Value) (A : Around) (outer : List Env) (s : Shared) (H : Hp) (vs : List V) (Q : VK) (E : XK), Room k (A.deeper (envOfC qual (defScope st) s.heap.objs.size f cdv)) → sp vs H Q E →
      ∃ t, PSs (cxOf (L2.CX P w) P w K mg base N qual (defScope st) f cdv A outer s H E) (defBody st) t ∧ t { nx := fun _ H' => Q .non H', rt := Q } (start N vs) H) : FnK P w K mg base (L2.CX P w) (k + 1) f n ks sp := by
  obtain ⟨fd, F⟩ := F
  obtain ⟨oc, od, kV, doc, pm, an, cdv, ct, osl, e, lk, hcd⟩ := id F.ex
  refine fnk_of (F.okX S len hbody) fun us ws h1 h2 => ?_
  rw [e]
  exact hk kV doc pm an cdv ct us ws h1 h2
/-- in such a def, what is wished of an error -/
theorem takesX {N : List Str} {qual : Str} {sc : Scope} {cdv : Value} {A : Around} {outer : List Env} {s : Shared} {H : Hp} {E : XK} : Takes (cxOf (L2.CX P w) P w K mg base N qual sc f cdv A outer s H E) (fun cls d _ H' => E cls d H') :=
  takes_of rfl rfl rfl rfl
/-- a def whose code object is known -/
def FunK (K : PySem.W.Frag) (x qual : Str) (st : Stmt) (f c : Addr) : Prop := ∃ (kV doc pm ct oc : Value) (an od : Option Addr) (osl : Array (Option Value)), K.lookup f = some ⟨oc, od, .func (PySem.W.fnOf x qual (defArgs st) (defBody st) (defScope st) .none kV doc pm an (.ref c) ct), osl⟩ ∧ PySem.W.codeIn K (.ref c) qual = true
theorem fnrc {x qual : Str} {st : Stmt} {N ps : List Str} {c : Addr} (F : FunK K x qual st f c) (S : FnScope N ps (defScope st))
    (hb : ∀ (kV doc pm : Value) (an : Option Addr) (cdv ct : Value) (us : List Value), us.length = ps.length → bindArgs (PySem.W.fnOf x qual (defArgs st) (defBody st) (defScope st) .none kV doc pm an cdv ct) ⟨us, []⟩ = pure (ps.zip us))
    (len : ∀ vs H Q E, sp vs H Q E → vs.length = ps.length)
    (hbody : ∀ (A : Around) (outer : List Env) (s : Shared) (H : Hp) (vs : List V) (Q : VK) (E : XK), Room k (A.deeper (envOfC qual (defScope st) s.heap.objs.size f (.ref c))) → sp vs H Q E →
      ∃ t, PSs (cxOf CX0 P w K mg base N qual (defScope st) f (.ref c) A outer s H E).nox (defBody st) t ∧ t { nx := fun _ H' => Q .non H', rt := Q } (start N vs) H) :
    ∃ fd, FnOk P w K mg base CX0 (k + 1) f fd ps sp ∧ Binds K fd ps [] := by
  obtain ⟨kV, doc, pm, ct, oc, an, od, osl, lk, hcd⟩ := F
  refine ⟨_, fn_of lk hcd S len fun A outer s H vs Q E hr hsp => ?_, .all (hb kV doc pm an (.ref c) ct)⟩
  obtain ⟨t, h, q⟩ := hbody A outer s H vs Q E hr hsp
  exact ⟨t, h.nox, q⟩
end
end NA

/-! The end of a law whose promise is asked only where no repr is under way (guards empty). -/
namespace NA
open PySem PySem.Spec PyProof.Rows L2
/-- a promise where the guards are empty -/
def FnG (P : Program) (w : World) (K : PySem.W.Frag) (mg : Str → Option Value) (base : Heap) (CX : CXT) (k : Nat) (f : Addr) (sp : Sp) : Prop :=
  ∀ (A : Around) (outer : List Env) (s : Shared) (H : Hp) (us : List Value) (vs : List V) (Q : VK) (E : XK), Room k A → A.guards = some [] → Env0 P w K mg base A outer s H → Vals vs us → sp vs H Q E →
    codeAny (model P w) A (.call (.ref f) ⟨us, []⟩) (CR CX outer P w H s Q E) s
/-- the things that stand when the law is called -/
structure Stand (K : PySem.W.Frag) (mg mb : Str → Option Value) (cs : List (Addr × Addr)) (a : Addr) (vs : List Value) (s : Shared) : Prop where
  kin : K.In s.heap
  glob : s.heap.Ns mainGlobals mg
  blt : s.heap.Ns builtinsNs mb
  bb : ∀ x : Str, x ≠ "__name__" → mb x = bootBuiltins x
  lim : s.heap.NoLimit
  tab : ∀ p ∈ cs, s.heap.get? p.2 = some { cls := .none, data := .fields #[] }
  out : ∀ p ∈ cs, K.lookup p.2 = none
  hd : ∀ p ∈ cs, PySem.W.CodeHd s.heap p.1 p.2
  bm : ∃ (b : Addr) (ob : Obj), mg "__builtins__" = some (.ref b) ∧ b ≠ builtinsNs ∧ s.heap.get? b = some ob ∧ ob.cls = .type "module" ∧ ob.dict = some builtinsNs ∧ ob.data = .plain
  arg : s.heap.get? a = some { cls := .type "list", data := .seq vs.toArray }
section
variable {P : Program} {w : World} {K : PySem.W.Frag} {mg mb : Str → Option Value} {cs : List (Addr × Addr)} {a : Addr} {vs : List Value} {s : Shared} {H : Hp}
/-- only the script and the tables are tracked -/
def Few (cs : List (Addr × Addr)) (a : Addr) (H : Hp) : Prop := ∀ b, H b ≠ none → b = a ∨ ∃ p ∈ cs, p.2 = b
theorem Stand.clear (S : Stand K mg mb cs a vs s) (F : Few cs a H) {b : Addr} {o : Obj} (e : s.heap.get? b = some o) (n1 : ∀ us n, o.data ≠ .seq us n) (n2 : o.data ≠ .fields #[]) : H b = none := by
  cases q : H b with
  | none => rfl
  | some u =>
    rcases F b (by rw [q]; intro z; cases z) with rfl | ⟨p, hp, rfl⟩
    · rw [S.arg] at e; cases e; exact (n1 _ _ rfl).elim
    · rw [S.tab p hp] at e; cases e; exact (n2 rfl).elim
theorem Stand.ns (S : Stand K mg mb cs a vs s) (F : Few cs a H) {b : Addr} {m : Str → Option Value} (h : s.heap.Ns b m) : (hidT s.heap H).Ns b m := by
  obtain ⟨o, es, ep, e, d, r⟩ := h
  exact ⟨o, es, ep, hidT_get e (S.clear F e (by rw [d]; intro _ _ z; cases z) (by rw [d]; intro z; cases z)), d, r⟩
theorem Stand.k (S : Stand K mg mb cs a vs s) (F : Few cs a H) (hK : H a ≠ none → K.lookup a = none) : K.In (hidT s.heap H) := by
  intro b o e
  refine hidT_get (S.kin b o e) ?_
  cases q : H b with
  | none => rfl
  | some u =>
    have nn : H b ≠ none := by rw [q]; intro z; cases z
    rcases F b nn with rfl | ⟨p, hp, rfl⟩
    · rw [hK nn] at e; cases e
    · rw [S.out p hp] at e; cases e
theorem Stand.env (S : Stand K mg mb cs a vs s) (F : Few cs a H) (hK : H a ≠ none → K.lookup a = none) (hok : HOk P w H s.heap) (hg : s.gens = #[]) : Env0 P w K mg (hidT s.heap H) callerA [] s H := by
  obtain ⟨mc, l1, l2⟩ := S.lim
  exact { frames := rfl, mod := ⟨S.k F hK, S.ns F S.glob, ⟨mb, S.ns F S.blt, S.bb⟩, ⟨mc, S.ns F l1, l2⟩⟩, bs := fun _ _ e => of_hidT e, bsz := Nat.le_of_eq (hidT_size _ _), funs := trivial, frf := fun b hb => (List.not_mem_nil (show b ∈ ([] : List Addr) from hb)).elim, hok := hok, bare := .of_eq hg }
theorem Stand.tabs (S : Stand K mg mb cs a vs s) (F : Few cs a H) : ∀ p ∈ cs, LamX.TabB (hidT s.heap H) mg p.1 p.2 := by
  intro p hp
  have tp := S.tab p hp
  obtain ⟨og, es, ep, eg, dg, _⟩ := S.glob
  refine { code := ?_, bm := ?_, gP := fun z => ?_ }
  · obtain ⟨o, us, r1, r2, r3, r4, r5, r6, r7, e1, c1, c2, c3, rest⟩ := S.hd p hp
    refine ⟨o, us, r1, r2, r3, r4, r5, r6, r7, hidT_get e1 (S.clear F e1 (by rw [c2]; intro _ _ z; cases z) ?_), c1, c2, c3, rest⟩
    rw [c2]
    intro z
    cases z
    simp at c3
  · obtain ⟨b, ob, b1, b2, b3, b4, b5, b6⟩ := S.bm
    refine ⟨b, ob, b1, b2, fun z => ?_, fun z => ?_, hidT_get b3 (S.clear F b3 (by rw [b6]; intro _ _ z; cases z) (by rw [b6]; intro z; cases z)), b4, b5, b6⟩
    · rw [z, eg] at b3; cases b3; rw [dg] at b6; cases b6
    · rw [z, tp] at b3; cases b3; cases b6
  · rw [z, tp] at eg; cases eg; cases dg
/-- behind the call all is as it was, but the tables, which may have grown -/
theorem Stand.old {s' : Shared} {H' : Hp} (S : Stand K mg mb cs a vs s) (F : Few cs a H) (hT : ∀ p ∈ cs, H p.2 = some (.tbl #[])) (hZ : H a = none ∨ ∃ o xs, H a = some (.frz o (.lst xs))) (hok : HOk P w H s.heap) (hok' : HOk P w H' s'.heap) (un : Un [] [] H H' s.heap s'.heap) : OldK s.heap s'.heap := by
  have kept : ∀ b o, (∀ p ∈ cs, p.2 ≠ b) → s.heap.get? b = some o → s'.heap.get? b = some o := fun b o nb e => by
    have go : H b = none → s'.heap.get? b = some o := fun q => un.keep b o e q List.not_mem_nil List.not_mem_nil
    by_cases q : H b = none
    · exact go q
    · rcases F b q with rfl | ⟨p, hp, z⟩
      · rcases hZ with z | ⟨ob, xs, z⟩
        · exact (q z).elim
        · have e1 := (hok _ _ z).1
          have e2 := (hok' _ _ (un.frzs _ _ _ z)).1
          rw [e] at e1
          cases e1
          exact e2
      · exact (nb p hp z).elim
  have more : ∀ p ∈ cs, ∃ m : Array Value, s'.heap.get? p.2 = some { cls := .none, data := .fields m } := fun p hp => by
    obtain ⟨m, z⟩ := un.tbls p.2 #[] (hT p hp)
    exact ⟨_, hok' _ _ z⟩
  refine ⟨fun b o e => ?_, fun b o e => ?_⟩
  · by_cases hb : ∃ p ∈ cs, p.2 = b
    · obtain ⟨p, hp, rfl⟩ := hb
      obtain ⟨m, hm⟩ := more p hp
      rw [S.tab p hp] at e
      cases e
      refine .inr (.inl ⟨((S.hd p hp).tab (S.tab p hp)).isCodeTable, rfl, #[], m, rfl, ?_⟩)
      rw [Array.empty_append]
      exact hm
    · exact .inl (kept b o (fun p hp z => hb ⟨p, hp, z⟩) e)
  · by_cases hb : ∃ p ∈ cs, p.2 = b
    · obtain ⟨p, hp, rfl⟩ := hb
      obtain ⟨m, hm⟩ := more p hp
      exact ⟨_, hm⟩
    · exact ⟨o, kept b o (fun p hp z => hb ⟨p, hp, z⟩) e⟩
theorem Stand.run {CX : CXT} {k : Nat} {fa : Addr} {sp : Sp} {ns : List Int} (S : Stand K mg mb cs a vs s) (F : Few cs a H) (hT : ∀ p ∈ cs, H p.2 = some (.tbl #[])) (hZ : H a = none ∨ ∃ o xs, H a = some (.frz o (.lst xs))) (hok : HOk P w H s.heap) (hK : H a ≠ none → K.lookup a = none) (hg : s.gens = #[]) (hr : Room k callerA)
    (G : ∀ base : Heap, K.In base → base.Ns mainGlobals mg → (∀ p ∈ cs, LamX.TabB base mg p.1 p.2) → FnG P w K mg base CX k fa sp) (hsp : sp [.ref a] H (fun v _ => v = .bl true) fun _ _ _ => False) (hCX : ∀ e s', CX [] H s (fun _ _ _ => False) e s' → False) :
    codeAny (model P w) callerA (.call (.ref fa) ⟨[.ref a], []⟩) (fun r s' => r = .ok (.ret (.bool true)) ∧ OldK s.heap s'.heap ∧ s'.os = s.os ∧ AllBare s'.gens) s := by
  have R := G (hidT s.heap H) (S.k F hK) (S.ns F S.glob) (S.tabs F) callerA [] s H [.ref a] [.ref a] _ _ hr rfl (S.env F hK hok hg) (.cons rfl .nil) hsp
  refine codeAny_mono R fun r s' h => ?_
  match r, h with
  | .error e, h => exact (hCX e s' h).elim
  | .ok (.ret u), h =>
    obtain ⟨v, H', os, bare, un, hok', rv, q⟩ := h
    have q : v = .bl true := q
    subst q
    cases rv
    exact ⟨rfl, S.old F hT hZ hok hok' un, os, bare⟩
theorem Stand.call {CX : CXT} {k : Nat} {fa : Addr} {sp : Sp} {ns : List Int} (S : Stand K mg mb cs a vs s) (hg : s.gens = #[]) (hi : IntsAre vs ns) (hl : ns.length ≤ sizeLine) (hr : Room k callerA)
    (G : ∀ base : Heap, K.In base → base.Ns mainGlobals mg → (∀ p ∈ cs, LamX.TabB base mg p.1 p.2) → FnG P w K mg base CX k fa sp)
    (hsp : ∀ H : Hp, (∀ p ∈ cs, H p.2 = some (.tbl #[])) → SqL K H a (ns.map V.int) → sp [.ref a] H (fun v _ => v = .bl true) fun _ _ _ => False) (hCX : ∀ H e s', CX [] H s (fun _ _ _ => False) e s' → False) :
    codeAny (model P w) callerA (.call (.ref fa) ⟨[.ref a], []⟩) (fun r s' => r = .ok (.ret (.bool true)) ∧ OldK s.heap s'.heap ∧ s'.os = s.os ∧ AllBare s'.gens) s := by
  have na : ∀ p ∈ cs, p.2 ≠ a := fun p hp z => by
    have e := S.tab p hp
    rw [z, S.arg] at e
    have e' := congrArg (Option.map Obj.data) e
    simp at e'
  have rv := vals_ints hi
  let T : Hp := fun b => if b ∈ cs.map (·.2) then some (.tbl #[]) else none
  have Tin : ∀ p ∈ cs, T p.2 = some (.tbl #[]) := fun p hp => if_pos (List.mem_map.mpr ⟨p, hp, rfl⟩)
  have Tof : ∀ b, T b ≠ none → ∃ p ∈ cs, p.2 = b := fun b h => by
    by_cases hb : b ∈ cs.map (·.2)
    · exact List.mem_map.mp hb
    · exact (h (if_neg hb)).elim
  have Tok : ∀ b u, T b = some u → ObjOk P w T s.heap b u ∧ u = .tbl #[] ∧ ∃ p ∈ cs, p.2 = b := fun b u h => by
    obtain ⟨p, hp, rfl⟩ := Tof b (by rw [h]; intro z; cases z)
    rw [Tin p hp] at h
    cases h
    exact ⟨S.tab p hp, rfl, p, hp, rfl⟩
  have Ta : T a = none := if_neg fun h => by
    obtain ⟨p, hp, z⟩ := List.mem_map.mp h
    exact na p hp z
  cases hk : K.lookup a with
  | some o =>
    have e := S.kin a o hk
    rw [S.arg] at e
    cases e
    refine S.run (H := T) (ns := ns) (fun b h => .inr (Tof b h)) Tin (.inl Ta) (fun b u h => (Tok b u h).1) (fun h => (h Ta).elim) hg hr G (hsp T Tin (.inr ⟨_, vs.toArray, _, hk, rfl, rfl, rfl, ?_, by simpa using rv⟩)) (hCX T)
    rw [List.size_toArray, hi.length]
    exact hl
  | none =>
    let H : Hp := fun b => if b = a then some (.frz { cls := .type "list", data := .seq vs.toArray } (.lst (ns.map V.int))) else T b
    have Ha : H a = some (.frz { cls := .type "list", data := .seq vs.toArray } (.lst (ns.map V.int))) := if_pos rfl
    have Hb : ∀ b, b ≠ a → H b = T b := fun b h => if_neg h
    refine S.run (H := H) (ns := ns) (fun b h => ?_) (fun p hp => by rw [Hb _ (na p hp)]; exact Tin p hp) (.inr ⟨_, _, Ha⟩) (fun b u h => ?_) (fun _ => hk) hg hr G (hsp H (fun p hp => by rw [Hb _ (na p hp)]; exact Tin p hp) (.inl (.inr ⟨_, Ha⟩))) (hCX H)
    · by_cases hb : b = a
      · exact .inl hb
      · rw [Hb b hb] at h; exact .inr (Tof b h)
    · by_cases hb : b = a
      · subst hb
        rw [Ha] at h
        cases h
        exact ⟨S.arg, by rw [List.length_map]; exact hl, vs, _, rv, S.arg⟩
      · rw [Hb b hb] at h
        obtain ⟨_, rfl, p, hp, rfl⟩ := Tok b u h
        exact S.tab p hp
end
/-- the end of a law row -/
theorem walk_G {l : PySem.W.OpenLaw} {n k : Nat} {q : Program} {loose : List Str} {XP : (Str → Option Value) → Heap → Prop} {YP : World → Heap → Prop} {d : DefRec} {K : Params → PySem.W.Frag} (hn : l.most = some n) (hn2 : n ≤ sizeLine) (hdf : d.params.defaults = []) (hr : Room k callerA) (hY : ∀ (w : World) (h : Heap), YP w h → (K w.params).In h)
    (F : ∀ (w : World) (mg : Str → Option Value) (fa : Addr) (h : Heap), YP w h → (K w.params).In h → h.Ns mainGlobals mg → mg d.name = some (.ref fa) →
      ∃ (cs : List (Addr × Addr)) (sp : Sp), (∀ p ∈ cs, h.get? p.2 = some { cls := .none, data := .fields #[] }) ∧ (∀ p ∈ cs, (K w.params).lookup p.2 = none) ∧ (∀ p ∈ cs, PySem.W.codeHdIn (K w.params) p.1 p.2 = true) ∧
        (∀ (H : Hp) (a : Addr) (ns : List Int), ns.length ≤ n → (∀ z ∈ ns, Builtin.Int.intBits z ≤ 1048576) → (∀ p ∈ cs, H p.2 = some (.tbl #[])) → SqL (K w.params) H a (ns.map V.int) → sp [.ref a] H (fun v _ => v = .bl true) fun _ _ _ => False) ∧
        ∀ base : Heap, (K w.params).In base → base.Ns mainGlobals mg → (∀ p ∈ cs, LamX.TabB base mg p.1 p.2) → FnG l.prog w (K w.params) mg base CX0 k fa sp) :
    PySem.W.WalkO q loose XP YP l.row.toRowW d [] (fun f vs => PySem.call f vs) := by
  refine Att.attach_callB hn hdf fun w s₀ s₁ mg mb fa o pm cd doc a vs ns G Y ho hd hcd hmg hobj hints hlen hbits hg => ?_
  have KX := hY w _ Y
  obtain ⟨cs, sp, h1, h2, h3, h4, h5⟩ := F w mg fa _ Y KX G.T.g hmg
  have S : Stand (K w.params) mg mb cs a vs s₁ := ⟨KX, G.T.g, G.T.b, G.T.builtins, G.T.nolimit, h1, h2, fun p hp => PySem.W.codeHd_of_K KX (h3 p hp), G.T.bmain, hobj⟩
  exact S.call hg hints (Nat.le_trans hlen hn2) hr h5 (fun H hT hS => h4 H a ns hlen hbits hT hS) fun _ _ _ z => z
end NA

/-! Part J: defs called where no repr is under way; repr of data. -/
namespace NA
open PySem PySem.Spec PyProof.Rows L2
section
variable {P : Program} {w : World} {K : PySem.W.Frag} {mg : Str → Option Value} {base : Heap} {k : Nat} {f : Addr} {sp : Sp}
theorem fng {x qual : Str} {st : Stmt} {N ps : List Str} {c : Addr} (F : FunK K x qual st f c) (S : FnScope N ps (defScope st))
    (hb : ∀ (kV doc pm : Value) (an : Option Addr) (cdv ct : Value) (us : List Value), us.length = ps.length → bindArgs (PySem.W.fnOf x qual (defArgs st) (defBody st) (defScope st) .none kV doc pm an cdv ct) ⟨us, []⟩ = pure (ps.zip us))
    (len : ∀ vs H Q E, sp vs H Q E → vs.length = ps.length)
    (hbody : ∀ (A : Around) (outer : List Env) (s : Shared) (H : Hp) (vs : List V) (Q : VK) (E : XK), Room k (A.deeper (envOfC qual (defScope st) s.heap.objs.size f (.ref c))) → A.guards = some [] → sp vs H Q E →
      ∃ t, PSs (cxOf CX0 P w K mg base N qual (defScope st) f (.ref c) A outer s H E).nox (defBody st) t ∧ t { nx := fun _ H' => Q .non H', rt := Q } (start N vs) H) :
    FnG P w K mg base CX0 (k + 1) f sp := by
  obtain ⟨kV, doc, pm, ct, oc, an, od, osl, lk, hcd⟩ := F
  intro A outer s H us vs Q E hr hg e0 r hs
  have hl := len vs H Q E hs
  refine LamX.run_ofS lk hcd S hr e0 (.of_eq (hb kV doc pm an (.ref c) ct us (by rw [← r.length]; exact hl))) r hl fun hr' => ?_
  obtain ⟨t, h, q⟩ := hbody A outer s H vs Q E hr' hg hs
  exact ⟨t, h.nox, q⟩
end
section
variable {X : Cx} {CX : CXT} {k : Nat} {f : Addr} {sp : Sp} {E : XK} {x : Str} {e : Expr} {es : List Expr} {t : TA} {p pos : Pos}
theorem pe_clG (F : FnG X.prog X.w X.K X.mg X.base CX k f sp) (hr : Room k X.A) (hgd : X.A.guards = some []) (hg : Gl X x) (hm : X.mg x = some (.ref f)) (hk : PySem.W.keepIn X.K (.ref f) = true) (hx : Passes CX X E)
    (ha : PA X (e :: es) t) (hdb : (x == ("__debug__" : Str)) = false := by decide) (he : starEach (e :: es) X.env = (false, eval e X.env) :: starEach es X.env := by rfl) (hpl : (backTo pos (starEach es X.env)).any (·.1) = false := by rfl) :
    PE X (.Call (.Name x p) (e :: es) [] pos) (tCl sp E t) := by
  refine ⟨fun pins s σ H Q I h => ?_⟩
  refine wpAny_Call_Name_kw (ld_glob I hg hm ?_ hdb)
  refine PySem.W.callWith_K (h₀ := X.base) I.ok.mod.kin hk (thn (ha.run pos pins s σ H _ I h) fun us s1 ⟨vs, H1, I1, r, q⟩ => ⟨I1.kIn, ?_⟩) he hpl
  refine wpAny_call (codeAny_mono (F X.A X.stack s1 H1 us vs Q E hr hgd I1.env0 r q) fun r s' hq => ?_)
  match r, hq with
  | .error e, hq => exact hx pins σ H1 s1 e s' I1 hq
  | .ok (.ret u), hq => exact I1.after hq
end
/-! ### data that repr tells, dicts among them -/
mutual
inductive Dq (K : PySem.W.Frag) (H : Hp) : V → PyData → Prop
  | non : Dq K H .non .none
  | bl (b : Bool) : Dq K H (.bl b) (.bool b)
  | int (i : Int) : Dq K H (.int i) (.int i)
  | str (x : Str) : Dq K H (.str x) (.str x)
  | lst {a : Addr} {xs : List V} {ds : List PyData} : H a = some (.lst xs) → a ≠ sysModules → DqAll K H xs ds → Dq K H (.ref a) (.list ds)
  | tup {a : Addr} {xs : List V} {ds : List PyData} : H a = some (.tup xs) → DqAll K H xs ds → Dq K H (.ref a) (.tuple ds)
  | dic0 {a : Addr} : H a = some (.dK []) → Dq K H (.ref a) (.dict [])
  | dic1 {a : Addr} {z y : Str} : H a = some (.dK [(.inr z, .str y)]) → Dq K H (.ref a) (.dict [(.str z, .str y)])
inductive DqAll (K : PySem.W.Frag) (H : Hp) : List V → List PyData → Prop
  | nil : DqAll K H [] []
  | cons {v : V} {vs : List V} {d : PyData} {ds : List PyData} : Dq K H v d → DqAll K H vs ds → DqAll K H (v :: vs) (d :: ds)
end
section
variable {X : Cx} {pins : List (Addr × Obj)} {σ : L2.St} {H : Hp} {s : Shared}
mutual
theorem Dq.reads (I : Inv X pins σ H s) : ∀ (d : PyData) (v : V) (u : Value), Dq X.K H v d → L2.RelV v u → ∃ as, Reads s.heap u d as ∧ sysModules ∉ as
  | .none, _, _, h, r => by cases h; cases r; exact ⟨_, .none, List.not_mem_nil⟩
  | .bool b, _, _, h, r => by cases h; cases r; exact ⟨_, .bool b, List.not_mem_nil⟩
  | .int i, _, _, h, r => by cases h; obtain ⟨t, rfl⟩ := r; exact ⟨_, .int i t, List.not_mem_nil⟩
  | .str x, _, _, h, r => by cases h; obtain ⟨t, rfl⟩ := r; exact ⟨_, .str x t, List.not_mem_nil⟩
  | .list ds, _, u, h, r => by
    cases h with
    | lst e na hs =>
      rename_i a xs
      cases (show u = Value.ref a from r)
      obtain ⟨_, its, n, rv, ho⟩ := (show ObjOk X.prog X.w H s.heap a (.lst xs) from I.hok a _ e)
      obtain ⟨as, ra, nas⟩ := DqAll.reads I ds xs its hs rv
      refine ⟨a :: as, .list ho rfl rfl ra, fun z => ?_⟩
      rcases List.mem_cons.mp z with z | z
      · exact na z.symm
      · exact nas z
  | .tuple ds, _, u, h, r => by
    cases h with
    | tup e hs =>
      rename_i a xs
      cases (show u = Value.ref a from r)
      obtain ⟨_, its, rv, o, ho, hc, n, hn⟩ := (show ObjOk X.prog X.w H s.heap a (.tup xs) from I.hok a _ e)
      obtain ⟨as, ra, nas⟩ := DqAll.reads I ds xs its hs rv
      exact ⟨as, .tuple ho hc hn ra, nas⟩
  | .dict kvs, _, u, h, r => by
    cases h with
    | dic0 e =>
      rename_i a
      cases (show u = Value.ref a from r)
      obtain ⟨_, ns, vs, rv, o, es, ep, ho, hx, hd, hko, hp, hnd⟩ := (show ObjOk X.prog X.w H s.heap a (.dK []) from I.hok a _ e)
      cases rv
      have he : es.toList = [] := by generalize es.toList = l at hp; cases hp; rfl
      refine ⟨_, .dict ho hx.1 hd (as := []) (bs := []) (by rw [he]; exact .nil) (by rw [he]; exact .nil), fun z => ?_⟩
      have z : sysModules ∈ [a] := z
      rw [List.mem_singleton.mp z] at ns
      simp at ns
    | dic1 e =>
      rename_i a z y
      cases (show u = Value.ref a from r)
      obtain ⟨_, ns, vs, rv, o, es, ep, ho, hx, hd, hko, hp, hnd⟩ := (show ObjOk X.prog X.w H s.heap a (.dK [(.inr z, .str y)]) from I.hok a _ e)
      cases rv with
      | cons r1 r2 =>
        cases r2
        rename_i q
        obtain ⟨e1, t2, e2⟩ := r1
        obtain ⟨en, he, hk, hv⟩ : ∃ en, es.toList = [en] ∧ keyIs q.1 en.key = true ∧ en.val = q.2 := by
          generalize es.toList = l at hp
          cases hp with
          | cons h1 h2 h3 => cases h3; exact ⟨_, rfl, h1, h2⟩
        rw [← e1] at hk
        obtain ⟨t1, ek⟩ : ∃ t, en.key = .str z t := by
          rcases keyIs_shape hk with ⟨i, t, z1, _⟩ | ⟨x, t, z1, z2⟩
          · cases z1
          · cases z1; exact ⟨t, z2⟩
        refine ⟨_, .dict ho hx.1 hd (as := []) (bs := []) (by rw [he]; show ReadsAll _ [en.key] _ _; rw [ek]; exact .cons (.str z t1) .nil) (by rw [he]; show ReadsAll _ [en.val] _ _; rw [hv, e2]; exact .cons (.str y t2) .nil), fun w => ?_⟩
        have w : sysModules ∈ [a] := w
        rw [List.mem_singleton.mp w] at ns
        simp at ns
theorem DqAll.reads (I : Inv X pins σ H s) : ∀ (ds : List PyData) (vs : List V) (us : List Value), DqAll X.K H vs ds → Vals vs us → ∃ as, ReadsAll s.heap us ds as ∧ sysModules ∉ as
  | [], _, _, h, r => by cases h; cases r; exact ⟨_, .nil, List.not_mem_nil⟩
  | d :: ds, _, _, h, r => by
    cases h with
    | cons h1 h2 =>
      cases r with
      | cons r1 r2 =>
        obtain ⟨as, a1, a2⟩ := Dq.reads I d _ _ h1 r1
        obtain ⟨bs, b1, b2⟩ := DqAll.reads I ds _ _ h2 r2
        exact ⟨as ++ bs, .cons a1 b1, fun z => (List.mem_append.mp z).elim a2 b2⟩
end
end
section
variable {X : Cx} {es : List Expr} {t : TA} {pos : Pos}
def rReprD (K : PySem.W.Frag) : List V → Hp → VK → Prop := fun xs H Q => ∃ (a : Addr) (d : PyData), xs = [.ref a] ∧ Dq K H (.ref a) d ∧ d.showable = true ∧ d.depth ≤ 40 ∧ d.shown.length ≤ sizeLine ∧ Q (.str d.shown) H
theorem call_reprD (hg : X.A.guards = some []) (hu : X.A.units + 64 < cLine) : CallR X (.builtin "repr") (rReprD X.K) := by
  intro pins s σ H xs us Q I r h
  obtain ⟨a, d, rfl, hd, hs, hdp, hz, q⟩ := h
  obtain ⟨u, rfl, ru⟩ := vals1 r
  cases (show u = Value.ref a from ru)
  obtain ⟨as, hr, hn⟩ := hd.reads I d _ _ rfl
  exact repr_of_reads' hr hs (fun _ => hn) hg (by omega) (fun _ _ e => e) (fun h' u tk hk => ⟨.str d.shown, H, I.kept hk, ⟨_, rfl⟩, q⟩) hz
/-- [..], the new list told not to be sys.modules -/
def tLstN (t : TA) : TE := fun σ H Q => t σ H fun xs H1 => xs.length ≤ sizeLine ∧ ∀ p, H1 p = none → p ≠ sysModules → Q (.ref p) (upd H1 p (.lst xs))
theorem pe_lstN (h : PA X es t) : PE X (.List es pos) (tLstN t) := by
  refine ⟨fun pins s σ H Q I hq => wpAny_List_spliced (thn (h.run pos pins s σ H _ I hq) fun us s1 hh => ?_)⟩
  obtain ⟨xs, H1, I1, r, z, q⟩ := hh
  refine ⟨by rw [← r.length]; exact z, .ref s1.heap.objs.size, _, I1.laid (t' := s1.toks) (o := .lst xs) (fun b u e => Heap.get?_push_of_some _ e) (Nat.le_refl _) ⟨z, us, 0, r, Heap.get?_push_size _ rfl⟩, rfl, q _ (I1.hok.fresh (Nat.le_refl _)) fun e => ?_⟩
  obtain ⟨o, _, _, ho, _⟩ := I1.mod.glob.keeps I1.bk
  have := Heap.lt_size ho
  rw [e] at this
  exact absurd this (by decide)
end
end NA

/-! Part L: repr of a tuple of a text and an own object. -/
namespace NA
open PySem PySem.Spec PyProof.Rows L2
section
variable {prog : Program} {w : World} {A : Around} {E : Value → Shared → Prop} {s : Shared} {K : PySem.W.Frag} {x C f : Addr} {ox : Obj} {od : Option Obj}
theorem reprUnder_own {b : Nat} {Q : Str → Shared → Prop} (X : K.In s.heap) (I : PySem.W.InstAt s.heap x ox C od) (hr : PySem.W.findIn K (.ref C) "__repr__" = some (some (.ref f))) (hf : PySem.W.isFn K (.ref f) = true) (hu : A.units < cLine) (hb : b ≤ sizeLine)
    (h : wpAny (model prog w) A (call (.ref f) [.ref x]) (fun v s' => ∃ m u, v = .str m u ∧ Q m s') E s) : wpAny (model prog w) A (pyReprUnder b (.ref x)) Q E s := by
  refine wpAny_pyReprUnder_ref hb ?_
  unfold pyReprObjUnder pyReprObjBy
  refine wpAny_bind (wpAny_cRoomFor hu (wpAny_bind (wpAny_bind (I.type.here ((PySem.W.looks_findIn X hr).here ?_)))))
  show wpAny _ _ (if (some (Value.ref f)).isNone = true then _ else _) _ _ _
  rw [if_neg (by simp)]
  refine wpAny_bind (m := callSpecialIfBoundBy? _ (.ref x) (Str.ofString "__repr__")) ?_
  simp only [callSpecialIfBoundBy?, bindSpecialIfBound?]
  refine wpAny_holding (wpAny_bind (wpAny_bind (wpAny_bind (I.type.here ((PySem.W.looks_findIn X hr).here ?_)))))
  refine wpAny_bind (wpAny_askSetting (wpAny_ite ?_))
  have fin : wpAny (model prog w) A (call (.ref f) ([.ref x] ++ []) >>= fun v => pure (some v)) (fun r s' => ∃ m u, r = some (.str m u) ∧ Q m s') E s :=
    wpAny_bind (wpAny_mono h (fun v s' h' => wpAny_pure (by obtain ⟨m, u, rfl, q⟩ := h'; exact ⟨m, u, rfl, q⟩)) fun _ _ h' => h')
  have fin2 := wpAny_mono fin (Q' := fun r s' => wpAny (model prog w) A (match r with
    | some r => (do if ← isInstance r (.type "str") then pure r else raiseError "TypeError" s!"__repr__ returned non-string (type {← typeNameOf r})")
    | none => unsupported "repr:special-get-raises") (fun v s' => ∃ x u, v = .str x u ∧ Q x s') E s') (fun r s' hr => by
      obtain ⟨m, u, rfl, q⟩ := hr
      exact wpAny_bind (wpAny_isInstance (T := "str") (b := true) (typeIs_str _ _ _) isSubtype_str_str (wpAny_pure ⟨m, u, rfl, q⟩))) fun _ _ h' => h'
  split
  · exact wpAny_bind ((PySem.W.bind_fn X _ (beq_iff_eq.mp hf)).here (wpAny_pure (by exact fin2)))
  · exact wpAny_tryCatch (wpAny_bind ((PySem.W.bind_fn X _ (beq_iff_eq.mp hf)).here (wpAny_pure (by exact fin2))))
/-- repr((text, own object)) -/
theorem repr_pairO {t : Addr} {o : Obj} {z : Str} {tk : Tok} {n : Nat} {Q : Value → Shared → Prop} (ht : s.heap.get? t = some o) (hc : o.cls = .type "tuple") (hd : o.data = .seq #[.str z tk, .ref x] n) (hg : A.guards = some []) (hu : A.units + 8 < cLine) (hz : (reprText z).length ≤ 1000000)
    (X : K.In s.heap) (I : PySem.W.InstAt s.heap x ox C od) (hr : PySem.W.findIn K (.ref C) "__repr__" = some (some (.ref f))) (hf : PySem.W.isFn K (.ref f) = true)
    (h : ∀ (A' : Around) (k : Nat), A'.frames = A.frames → A'.handled = A.handled → A'.depth ≤ A.depth + 1 → A'.units ≤ A.units + 4 →
      wpAny (model prog w) A' (call (.ref f) [.ref x]) (fun v s' => ∃ m u, v = .str m u ∧ m.length ≤ 1000000 ∧ ∀ u' k', Q (.str (tupleText [reprText z, m]) u') { s' with toks := k' }) E { s with toks := k }) :
    wpAny (model prog w) A (call (.builtin "repr") [.ref t]) Q E s := by
  refine call_repr_slot (by omega) ⟨o, ht, hc⟩ F.slot_tuple_repr ?_
  refine wpAny_call (codeAny_call_builtin_own (Code.quiet_builtin _ (by decide +kernel)) F.entry_tuple_repr (F.slot_tuple_repr.check _ _ _ _ _ _ _ _ ⟨o, ht, hc⟩ (F.args_tuple_repr_1 _) ?_))
  show wpOwn _ _ _ (Builtin.tupleReprAt 0 ⟨[.ref t], []⟩) _ _ s
  rw [tuple_repr_tree, tupleReprUnderWay_eq]
  refine wpOwn_bind (wpOwn_stackTailAny (g := []) hg (tupGuardF_off _) (tupGuardF_pos _) (wpOwn_of_wpAny ?_))
  show wpAny _ _ (tupleReprRest 0 (.ref t)) _ _ s
  unfold tupleReprRest Builtin.Tuple.tupleItemsOf
  refine wpAny_bind (wpAny_bind (wpAny_seqItems ht hd (wpAny_pure ?_)))
  rw [← Array.forIn_toList]
  have hzl : (reprText z).length ≤ sizeLine := sz hz
  have big : 3000000 ≤ sizeLine := by decide
  have hw : (A.in1.under (.builtin "tuple.__repr__" ⟨[.ref t], []⟩)).depth ≤ A.depth + 1 := by
    show A.depth + Code.weight (.builtin "tuple.__repr__" ⟨[.ref t], []⟩) ≤ A.depth + 1
    have : Code.weight (.builtin "tuple.__repr__" ⟨[.ref t], []⟩) = 1 := by first | kernel_rfl | rfl
    omega
  have un := units_under_tuple_repr A.in1 ⟨[.ref t], []⟩
  refine wpAny_bind ?_
  show wpAny _ _ (forIn [Value.str z tk, Value.ref x] (⟨#[], 0⟩ : (Array Str × Nat)) tupBody) _ _ s
  rw [List.forIn_cons]
  refine wpAny_bind (wpAny_bind (ReprIs.str z tk hzl (0 + 1) (by omega) _ _ _ _ fun k1 => wpAny_pure ?_))
  show wpAny _ _ (forIn [Value.ref x] _ tupBody) _ _ _
  rw [List.forIn_cons]
  refine wpAny_bind (wpAny_bind (reprUnder_own (s := { s with toks := k1 }) X I hr hf (by rw [un]; show A.units + 1 + 1 < cLine; omega) (by omega) ?_))
  refine wpAny_mono (h _ k1 rfl rfl hw (by rw [un]; show A.units + 1 + 1 ≤ _; omega)) (fun v s2 hv => ?_) fun _ _ z => z
  obtain ⟨m, u, rfl, hm, q⟩ := hv
  refine ⟨m, u, rfl, wpAny_pure ?_⟩
  show wpAny _ _ (forIn ([] : List Value) _ tupBody) _ _ s2
  simp only [List.forIn_nil]
  refine wpAny_pure ?_
  have hl : (tupleText [reprText z, m]).length ≤ sizeLine := by
    have e : tupleText [reprText z, m] = ("(" : Str) ++ (reprText z ++ ", " ++ m) ++ ")" := rfl
    rw [e, strLen_append, strLen_append, strLen_append, strLen_append]
    have e1 : (("(" : String) : Str).length = 1 := rfl
    have e2 : ((")" : String) : Str).length = 1 := rfl
    have e3 : ((", " : String) : Str).length = 2 := rfl
    rw [e1, e2, e3]
    omega
  refine wpAny_bind (wpAny_mkStr (wpAny_pure ?_) hl)
  exact ⟨_, _, rfl, q _ _⟩
end
section
variable {X : Cx} {CX : CXT} {n : Nat} {C f : Addr} {sp : Sp} {E : XK}
def rReprPO (C : Addr) (sp : Sp) (E : XK) : List V → Hp → VK → Prop := fun xs H Q => ∃ (t : Addr) (z : Str) (a dx : Addr) (fs : List (Str × V)), xs = [.ref t] ∧ H t = some (.tup [.str z, .ref a]) ∧ (reprText z).length ≤ 1000000 ∧ H a = some (.ins C dx fs) ∧
  sp [.ref a] H (fun v H' => ∃ m : Str, v = .str m ∧ m.length ≤ 1000000 ∧ Q (.str (tupleText [reprText z, m])) H') E
theorem call_reprPO (S : Spc X.K C "__repr__" f) (F : FnR X.prog X.w X.K X.mg X.base CX n f sp) (hr : Room (n + 1) X.A) (hg : X.A.guards = some []) (hx : Passes CX X E) : CallR X (.builtin "repr") (rReprPO C sp E) := by
  intro pins s σ H xs us Q I r h
  obtain ⟨t, z, a, dx, fs, rfl, ht, hz, ha, q⟩ := h
  obtain ⟨u, rfl, ru⟩ := vals1 r
  cases (show u = Value.ref t from ru)
  obtain ⟨_, its, rv, o, ho, hc, k, hk⟩ := (show ObjOk X.prog X.w H s.heap t (.tup [.str z, .ref a]) from I.hok t _ ht)
  obtain ⟨tk, rfl⟩ : ∃ tk, its = [.str z tk, .ref a] := by
    cases rv with
    | cons r1 r2 =>
      cases r2 with
      | cons r3 r4 =>
        cases r4
        obtain ⟨tk, rfl⟩ := r1
        cases r3
        exact ⟨tk, rfl⟩
  obtain ⟨od, J⟩ := inst_of I ha
  refine repr_pairO (K := X.K) ho hc hk hg (by have := hr.un; omega) hz I.kIn J S.at_ S.fn fun A' k' e1 e2 e3 e4 => ?_
  have hr' : Room n A' := ⟨e2.trans hr.hd, by have := hr.dp; omega, by have := hr.un; omega⟩
  refine wpAny_mono (run_sub (vs := [.ref a]) F hr' e1 hx (I.tok k') (.cons rfl .nil) q) (fun w s' y => ?_) fun _ _ y => y
  obtain ⟨v, H', I', rw', m, rfl, hm, q'⟩ := y
  obtain ⟨u, rfl⟩ := rw'
  exact ⟨m, u, rfl, hm, fun u' k2 => ⟨.str _, H', I'.tok k2, ⟨_, rfl⟩, q'⟩⟩
/-- str(a), a's class with an own __str__ -/
def rStrC (C : Addr) (sp : Sp) (E : XK) : List V → Hp → VK → Prop := fun xs H Q => ∃ (a dx : Addr) (fs : List (Str × V)), xs = [.ref a] ∧ H a = some (.ins C dx fs) ∧ sp [.ref a] H (fun v H' => ∃ m : Str, v = .str m ∧ Q (.str m) H') E
theorem call_strC (S : Spc X.K C "__str__" f) (F : FnR X.prog X.w X.K X.mg X.base CX n f sp) (hr : Room (n + 1) X.A) (hx : Passes CX X E) : CallR X (.type "str") (rStrC C sp E) := by
  intro pins s σ H xs us Q I r h
  obtain ⟨a, dx, fs, rfl, ha, q⟩ := h
  obtain ⟨u, rfl, ru⟩ := vals1 r
  cases (show u = Value.ref a from ru)
  obtain ⟨od, J⟩ := inst_of I ha
  have hr' : Room n X.A.in1.in1 := ⟨hr.hd, by have := hr.dp; show X.A.depth + 3 * n + 5 < _; omega, by have := hr.un; show X.A.units + 1 + 1 + 16 * n + 200 < _; omega⟩
  refine PySem.W.kso_call (by have := hr.un; show X.A.units + 1 + 1 < _; omega) I.kIn J S.at_ S.fn ?_
  refine wpAny_mono (run_sub (vs := [.ref a]) F hr' rfl hx I (.cons rfl .nil) q) (fun w s' y => ?_) fun _ _ y => y
  obtain ⟨v, H', I', rw', m, rfl, q'⟩ := y
  obtain ⟨u, rfl⟩ := rw'
  exact ⟨.str m, H', I', ⟨_, rfl⟩, q'⟩
end
end NA

/-! Texts of places, in plain Lean. -/
namespace NK
open PySem PySem.Spec PyProof.Rows L2 NA TL
def sgn : Str := "abcdefghijklmnopqrstuvwxyz0123456789"
def isNm (z : Str) : Bool := decide (1 ≤ z.length) && decide (z.length ≤ 8) && z.cps.toList.all fun c => decide (c ∈ sgn.cps.toList)
def Sx (l : List Nat) : Str := ⟨l.toArray⟩
theorem tl_Sx (l : List Nat) : tl (Sx l) = l := rfl
theorem Sx_tl (z : Str) : Sx (tl z) = z := ext_tl rfl
theorem Sx_len (l : List Nat) : (Sx l).length = l.length := by rw [len_tl]; rfl
theorem Sx_app (a b : List Nat) : Sx (a ++ b) = Sx a ++ Sx b := ext_tl (by rw [tl_append]; rfl)
/-- a row of signs cut at each slash -/
def spt : List Nat → List (List Nat)
  | [] => [[]]
  | c :: r => if c = 47 then [] :: spt r else match spt r with
    | [] => [[c]]
    | x :: xs => (c :: x) :: xs
theorem spt_ne : ∀ r, spt r ≠ []
  | [] => by simp [spt]
  | c :: r => by
    unfold spt
    split
    · simp
    · split <;> simp
theorem spt_none : ∀ {r : List Nat}, 47 ∉ r → spt r = [r]
  | [], _ => rfl
  | c :: r, h => by
    have h1 : c ≠ 47 := fun e => h (by simp [e])
    have h2 : 47 ∉ r := fun e => h (by simp [e])
    unfold spt
    rw [if_neg h1, spt_none h2]
theorem spt_some : ∀ {a b : List Nat}, 47 ∉ a → spt (a ++ 47 :: b) = a :: spt b
  | [], b, _ => by simp [spt]
  | c :: r, b, h => by
    have h1 : c ≠ 47 := fun e => h (by simp [e])
    have h2 : 47 ∉ r := fun e => h (by simp [e])
    show (if c = 47 then [] :: spt (r ++ 47 :: b) else match spt (r ++ 47 :: b) with
      | [] => [[c]]
      | x :: xs => (c :: x) :: xs) = _
    rw [if_neg h1, spt_some h2]
theorem slash_tl : tl ("/" : Str) = [47] := by decide +kernel
theorem slash_Sx : ("/" : Str) = Sx [47] := ext_tl slash_tl
theorem part_none {r : List Nat} (h : 47 ∉ r) : Txt.partition (Sx r) "/" = (Sx r, Str.empty, Str.empty) := partition_none slash_tl (a := Sx r) h
theorem part_some {a b : List Nat} (h : 47 ∉ a) : Txt.partition (Sx (a ++ 47 :: b)) "/" = (Sx a, ("/" : Str), Sx b) := by
  have e : Sx (a ++ 47 :: b) = Sx a ++ "/" ++ Sx b := ext_tl (by rw [tl_append, tl_append, slash_tl]; simp [tl_Sx])
  rw [e]
  exact partition_app slash_tl (a := Sx a) h
theorem first_slash {r : List Nat} (h : 47 ∈ r) : ∃ a b, r = a ++ 47 :: b ∧ 47 ∉ a := by
  obtain ⟨a, b, e, h⟩ := List.eq_append_cons_of_mem h
  exact ⟨a, b, e, h⟩
/-- what names_in gives -/
def namesIn (z : Str) : List Str := if z = "/" then [] else (spt ((tl z).drop 1)).map Sx
/-- the text of names -/
def txt (ns : List Str) : Str := "/" ++ Txt.join "/" ns
def isTx (z : Str) : Bool := decide ((tl z).take 1 = [47]) && decide ((namesIn z).length ≤ 8) && (namesIn z).all isNm
/-- good names: what a place holds -/
def Good (ns : List Str) : Prop := ns.length ≤ 8 ∧ ∀ n ∈ ns, isNm n = true
theorem sgn_tl : tl sgn = [97, 98, 99, 100, 101, 102, 103, 104, 105, 106, 107, 108, 109, 110, 111, 112, 113, 114, 115, 116, 117, 118, 119, 120, 121, 122, 48, 49, 50, 51, 52, 53, 54, 55, 56, 57] := by decide +kernel
theorem isNm_iff {z : Str} : isNm z = true ↔ 1 ≤ z.length ∧ z.length ≤ 8 ∧ ∀ c ∈ tl z, c ∈ tl sgn := by
  unfold isNm
  simp only [Bool.and_eq_true, decide_eq_true_eq, List.all_eq_true]
  constructor
  · rintro ⟨⟨a, b⟩, c⟩; exact ⟨a, b, c⟩
  · rintro ⟨a, b, c⟩; exact ⟨⟨a, b⟩, c⟩
theorem isNm_slash {z : Str} (h : isNm z = true) : 47 ∉ tl z := fun e => by
  have := (isNm_iff.mp h).2.2 _ e
  rw [sgn_tl] at this
  revert this
  decide
theorem join_tl (ns : List Str) : tl (Txt.join "/" ns) = joinL [47] (ns.map tl) := by rw [join_eq, tl_join, slash_tl]
theorem txt_tl (ns : List Str) : tl (txt ns) = 47 :: joinL [47] (ns.map tl) := by
  unfold txt
  rw [tl_append, slash_tl, join_tl]
  rfl
theorem spt_join : ∀ {ps : List (List Nat)}, ps ≠ [] → (∀ p ∈ ps, 47 ∉ p) → spt (joinL [47] ps) = ps
  | [], h, _ => absurd rfl h
  | [p], _, hp => by
    rw [show joinL [47] [p] = p from by simp [joinL]]
    exact spt_none (hp p (by simp))
  | p :: q :: r, _, hp => by
    rw [show joinL [47] (p :: q :: r) = p ++ 47 :: joinL [47] (q :: r) from by simp [joinL]]
    rw [spt_some (hp p (by simp)), spt_join (by simp) fun z hz => hp z (List.mem_cons_of_mem _ hz)]
theorem joinL_nil : joinL [47] [] = [] := by simp [joinL]
theorem joinL_len : ∀ ps : List (List Nat), (∀ p ∈ ps, p.length ≤ 8) → (joinL [47] ps).length ≤ 9 * ps.length
  | [], _ => by simp [joinL]
  | [p], h => by
    have := h p (by simp)
    simp [joinL]; omega
  | p :: q :: r, h => by
    have h1 := h p (by simp)
    have h2 := joinL_len (q :: r) fun z hz => h z (List.mem_cons_of_mem _ hz)
    rw [show joinL [47] (p :: q :: r) = p ++ 47 :: joinL [47] (q :: r) from by simp [joinL]]
    simp only [List.length_append, List.length_cons] at *
    omega
theorem joinL_ne : ∀ {ps : List (List Nat)}, ps ≠ [] → (∀ p ∈ ps, p ≠ []) → joinL [47] ps ≠ []
  | [], h, _ => absurd rfl h
  | [p], _, hp => by
    rw [show joinL [47] [p] = p from by simp [joinL]]
    exact hp p (by simp)
  | p :: q :: r, _, hp => by
    rw [show joinL [47] (p :: q :: r) = p ++ 47 :: joinL [47] (q :: r) from by simp [joinL]]
    simp
theorem names_txt {ns : List Str} (h : ∀ n ∈ ns, isNm n = true) : namesIn (txt ns) = ns := by
  unfold namesIn
  by_cases hn : ns = []
  · subst hn
    rw [if_pos (ext_tl (by rw [txt_tl, slash_tl]; simp [joinL_nil]))]
  · have hp : ∀ p ∈ ns.map tl, p ≠ [] ∧ 47 ∉ p := fun p hp => by
      obtain ⟨n, hn, rfl⟩ := List.mem_map.mp hp
      have := (isNm_iff.mp (h n hn)).1
      rw [len_tl] at this
      exact ⟨fun e => by rw [e] at this; simp at this, isNm_slash (h n hn)⟩
    have hne : ns.map tl ≠ [] := fun e => hn (List.map_eq_nil_iff.mp e)
    rw [if_neg, txt_tl]
    · show (spt (joinL [47] (ns.map tl))).map Sx = ns
      rw [spt_join hne fun p h => (hp p h).2, List.map_map]
      have : ∀ l : List Str, l.map (Sx ∘ tl) = l := fun l => by
        induction l with
        | nil => rfl
        | cons a l ih => rw [List.map_cons, ih]; rfl
      exact this ns
    · intro e
      have e2 := congrArg tl e
      rw [txt_tl, slash_tl] at e2
      exact joinL_ne hne (fun p h => (hp p h).1) (by simpa using e2)
theorem txt_len {ns : List Str} (h : Good ns) : (txt ns).length ≤ 73 := by
  rw [len_tl, txt_tl]
  have := joinL_len (ns.map tl) fun p hp => by
    obtain ⟨n, hn, rfl⟩ := List.mem_map.mp hp
    rw [← len_tl]
    exact (isNm_iff.mp (h.2 n hn)).2.1
  rw [List.length_map] at this
  have := h.1
  simp only [List.length_cons]
  omega
theorem isTx_txt {ns : List Str} (h : Good ns) : isTx (txt ns) = true := by
  unfold isTx
  rw [names_txt h.2, txt_tl]
  simp only [Bool.and_eq_true, decide_eq_true_eq, List.all_eq_true]
  exact ⟨⟨rfl, h.1⟩, h.2⟩
theorem good_nil : Good [] := ⟨by simp, fun _ h => nomatch h⟩
theorem Good.take {ns : List Str} (h : Good ns) (k : Nat) : Good (ns.take k) := ⟨by have := h.1; rw [List.length_take]; omega, fun n hn => h.2 n (List.mem_of_mem_take hn)⟩
theorem Good.snoc {ns : List Str} (h : Good ns) (hl : ns.length < 8) {n : Str} (hn : isNm n = true) : Good (ns ++ [n]) := ⟨by rw [List.length_append, List.length_singleton]; omega, fun m hm => by
  rcases List.mem_append.mp hm with e | e
  · exact h.2 m e
  · rw [List.mem_singleton.mp e]; exact hn⟩
theorem cut_from (z : Str) (k : Nat) : cutS z (some (k : Int)) none = Sx ((tl z).drop k) := by
  apply ext_tl
  show (((tl z).drop (HT.sIx z.length 0 (some (k : Int)))).take (HT.sIx z.length z.length none - HT.sIx z.length 0 (some (k : Int)))) = (tl z).drop k
  rw [HT.sIx_nat, HT.sIx_none, len_tl]
  by_cases h : k ≤ (tl z).length
  · rw [Nat.min_eq_left h, List.take_of_length_le (by rw [List.length_drop]; exact Nat.le_refl _)]
  · rw [Nat.min_eq_right (by omega), List.drop_of_length_le (Nat.le_refl _), List.drop_of_length_le (by omega)]
    simp
theorem cut_to (z : Str) (k : Nat) : cutS z none (some (k : Int)) = Sx ((tl z).take k) := by
  apply ext_tl
  show (((tl z).drop (HT.sIx z.length 0 none)).take (HT.sIx z.length z.length (some (k : Int)) - HT.sIx z.length 0 none)) = (tl z).take k
  rw [HT.sIx_nat, HT.sIx_none, len_tl, List.drop_zero, Nat.sub_zero]
  by_cases h : k ≤ (tl z).length
  · rw [Nat.min_eq_left h]
  · rw [Nat.min_eq_right (by omega), List.take_of_length_le (Nat.le_refl _), List.take_of_length_le (by omega)]
end NK
namespace NK
open PySem PySem.Spec PyProof.Rows L2 NA TL
theorem isNm_ok {z : Str} (h : isNm z = true) : PyData.strOk z = true := by
  unfold PyData.strOk
  rw [← Array.all_toList, List.all_eq_true]
  intro c hc
  have h1 := (isNm_iff.mp h).2.2 c hc
  rw [sgn_tl] at h1
  have : ∀ c ∈ [97, 98, 99, 100, 101, 102, 103, 104, 105, 106, 107, 108, 109, 110, 111, 112, 113, 114, 115, 116, 117, 118, 119, 120, 121, 122, 48, 49, 50, 51, 52, 53, 54, 55, 56, 57], decide (c < 0x110000) = true := by decide
  exact this c h1
theorem Good.oks {ns : List Str} (h : Good ns) : Oks ns := fun n hn => isNm_ok (h.2 n hn)
/-- the names that both begin with -/
def com : List Str → List Str → List Str
  | a :: as, b :: bs => if a = b then a :: com as bs else []
  | _, _ => []
end NK

namespace NK
open PySem PySem.Spec PyProof.Rows L2 NA
/-! ### the text by places -/
def top (i : Nat) : Stmt := PySem.Challenge.pw_nearestsays_k02_texts_of_places_read.main.body.getD i (.Pass ⟨0, 0, 0, 0⟩)
abbrev s_is_name : Stmt := top 4
abbrev s_BadPlace_init : Stmt := inClass (top 8) 0
abbrev s_is_text : Stmt := top 12
abbrev s_names_in : Stmt := top 13
abbrev s_text_of : Stmt := top 14
abbrev s_Place_init : Stmt := inClass (top 15) 1
abbrev s_Place_read : Stmt := inClass (top 15) 2
abbrev s_Place_of : Stmt := inClass (top 15) 3
abbrev s_Place_names : Stmt := inClass (top 15) 4
abbrev s_Place_text : Stmt := inClass (top 15) 5
abbrev s_Place_contains : Stmt := inClass (top 15) 10
abbrev s_Place_len : Stmt := inClass (top 15) 12
abbrev s_Place_bool : Stmt := inClass (top 15) 13
abbrev s_Place_str : Stmt := inClass (top 15) 14
abbrev s_Place_repr : Stmt := inClass (top 15) 15
abbrev s_Place_eq : Stmt := inClass (top 15) 16
abbrev s_law_pen : Stmt := top 17
abbrev s_law_draw : Stmt := top 18
abbrev s_law_pick : Stmt := top 19
abbrev s_law_text : Stmt := top 20
abbrev s_law_spoiled : Stmt := top 21
abbrev s_law_is_text : Stmt := top 22
abbrev s_law_heard : Stmt := top 23
abbrev s_law_is : Stmt := top 24
abbrev s_law_right : Stmt := top 25
abbrev s_law : Stmt := top 26
theorem sc_is_name : FnScope ["value", "sign"] ["value"] (defScope s_is_name) := ⟨rfl, rfl, rfl, by decide +kernel, rfl, by decide +kernel, by decide +kernel⟩
theorem sc_is_text : FnScope ["value", "names", "name"] ["value"] (defScope s_is_text) := ⟨rfl, rfl, rfl, by decide +kernel, rfl, by decide +kernel, by decide +kernel⟩
theorem sc_names_in : FnScope ["text", "names", "left", "slash", "name"] ["text"] (defScope s_names_in) := ⟨rfl, rfl, rfl, by decide +kernel, rfl, by decide +kernel, by decide +kernel⟩
theorem sc_text_of : FnScope ["names"] ["names"] (defScope s_text_of) := ⟨rfl, rfl, rfl, by decide +kernel, rfl, by decide +kernel, by decide +kernel⟩
theorem sc_Place_init : FnScope ["self", "names", "name"] ["self", "names"] (defScope s_Place_init) := ⟨rfl, rfl, rfl, by decide +kernel, rfl, by decide +kernel, by decide +kernel⟩
theorem sc_Place_read : FnScope ["cls", "text", "names"] ["cls", "text"] (defScope s_Place_read) := ⟨rfl, rfl, rfl, by decide +kernel, rfl, by decide +kernel, by decide +kernel⟩
theorem sc_Place_of : FnScope ["value", "names"] ["value"] (defScope s_Place_of) := ⟨rfl, rfl, rfl, by decide +kernel, rfl, by decide +kernel, by decide +kernel⟩
theorem sc_Place_names : FnScope ["self"] ["self"] (defScope s_Place_names) := ⟨rfl, rfl, rfl, by decide +kernel, rfl, by decide +kernel, by decide +kernel⟩
theorem sc_Place_text : FnScope ["self"] ["self"] (defScope s_Place_text) := ⟨rfl, rfl, rfl, by decide +kernel, rfl, by decide +kernel, by decide +kernel⟩
theorem sc_Place_contains : FnScope ["self", "x", "names"] ["self", "x"] (defScope s_Place_contains) := ⟨rfl, rfl, rfl, by decide +kernel, rfl, by decide +kernel, by decide +kernel⟩
theorem sc_Place_len : FnScope ["self"] ["self"] (defScope s_Place_len) := ⟨rfl, rfl, rfl, by decide +kernel, rfl, by decide +kernel, by decide +kernel⟩
theorem sc_Place_bool : FnScope ["self"] ["self"] (defScope s_Place_bool) := ⟨rfl, rfl, rfl, by decide +kernel, rfl, by decide +kernel, by decide +kernel⟩
theorem sc_Place_str : FnScope ["self"] ["self"] (defScope s_Place_str) := ⟨rfl, rfl, rfl, by decide +kernel, rfl, by decide +kernel, by decide +kernel⟩
theorem sc_Place_repr : FnScope ["self"] ["self"] (defScope s_Place_repr) := ⟨rfl, rfl, rfl, by decide +kernel, rfl, by decide +kernel, by decide +kernel⟩
theorem sc_Place_eq : FnScope ["self", "other"] ["self", "other"] (defScope s_Place_eq) := ⟨rfl, rfl, rfl, by decide +kernel, rfl, by decide +kernel, by decide +kernel⟩
theorem sc_law_pen : FnScope ["_law_script"] ["_law_script"] (defScope s_law_pen) := ⟨rfl, rfl, rfl, by decide +kernel, rfl, by decide +kernel, by decide +kernel⟩
theorem sc_law_draw : FnScope ["_law_pen_here", "_law_many", "_law_digit", "_law_at", "_law_cell", "_law_great", "_law_stirred"] ["_law_pen_here", "_law_many"] (defScope s_law_draw) := ⟨rfl, rfl, rfl, by decide +kernel, rfl, by decide +kernel, by decide +kernel⟩
theorem sc_law_pick : FnScope ["_law_pen_here", "_law_some"] ["_law_pen_here", "_law_some"] (defScope s_law_pick) := ⟨rfl, rfl, rfl, by decide +kernel, rfl, by decide +kernel, by decide +kernel⟩
theorem sc_law_text : FnScope ["_law_pen_here", "_law_signs", "_law_parts", "_law_k", "_law_j"] ["_law_pen_here"] (defScope s_law_text) := ⟨rfl, rfl, rfl, by decide +kernel, rfl, by decide +kernel, by decide +kernel⟩
theorem sc_law_spoiled : FnScope ["_law_pen_here", "_law_told", "_law_spot", "_law_way", "_law_sign"] ["_law_pen_here", "_law_told"] (defScope s_law_spoiled) := ⟨rfl, rfl, rfl, by decide +kernel, rfl, by decide +kernel, by decide +kernel⟩
theorem sc_law_is_text : FnScope ["_law_thing", "_law_parts", "_law_signs", "_law_part", "_law_sign"] ["_law_thing"] (defScope s_law_is_text) := ⟨rfl, rfl, rfl, by decide +kernel, rfl, by decide +kernel, by decide +kernel⟩
theorem sc_law_heard : FnScope ["_law_ask", "_law_caught", "_law_found", "error"] ["_law_ask"] (defScope s_law_heard) := ⟨rfl, rfl, rfl, by decide +kernel, rfl, by decide +kernel, by decide +kernel⟩
theorem sc_law_is : FnScope ["_law_heard_here", "_law_told", "_law_some"] ["_law_heard_here", "_law_told"] (defScope s_law_is) := ⟨rfl, rfl, rfl, by decide +kernel, rfl, by decide +kernel, by decide +kernel⟩
theorem sc_law_right : FnScope ["_law_thing", "_law_heard_here"] ["_law_thing"] (defScope s_law_right) := ⟨rfl, rfl, rfl, by decide +kernel, rfl, by decide +kernel, by decide +kernel⟩
theorem sc_law : FnScope ["_law_script", "_law_pen_here", "_law_turn", "_law_told", "_law_again", "_law_odd", "_law_whole"] ["_law_script"] (defScope s_law) := ⟨rfl, rfl, rfl, by decide +kernel, rfl, by decide +kernel, by decide +kernel⟩
/-! ### the addresses, the facts -/
structure Ad where
  c_Place : Addr
  c_TableError : Addr
  c_BadPlace : Addr
  f_BadPlace_init : Addr
  f_is_name : Addr
  f_is_text : Addr
  f_names_in : Addr
  f_text_of : Addr
  f_Place_init : Addr
  f_Place_read : Addr
  p_Place_read : Addr
  f_Place_of : Addr
  p_Place_of : Addr
  f_Place_names : Addr
  p_Place_names : Addr
  f_Place_text : Addr
  p_Place_text : Addr
  f_Place_contains : Addr
  f_Place_len : Addr
  f_Place_bool : Addr
  f_Place_str : Addr
  f_Place_repr : Addr
  f_Place_eq : Addr
  f_law_pen : Addr
  f_law_draw : Addr
  f_law_pick : Addr
  f_law_text : Addr
  f_law_spoiled : Addr
  f_law_is_text : Addr
  f_law_heard : Addr
  f_law_is : Addr
  f_law_right : Addr
  f_law : Addr
  k_law_right : Addr
  t_law_right : Addr
  k_law : Addr
  t_law : Addr
structure Tx (P : Program) (K : PySem.W.Frag) (mg : Str → Option Value) (A : Ad) : Prop where
  mg_Place : mg "Place" = some (.ref A.c_Place)
  pg_Place : PySem.W.plainGet K A.c_Place Str.empty = true
  hd_Place : PySem.W.hasDictIn K A.c_Place = true
  po_Place : PySem.W.plainOver K A.c_Place = true
  sa_Place : PySem.W.findIn K (.ref A.c_Place) "__setattr__" = some (some (.builtin "object.__setattr__"))
  mk_Place : PySem.W.makesIn K A.c_Place = true
  kc_Place : PySem.W.keepIn K (.ref A.c_Place) = true
  sf_Place : PySem.W.selfFirst K A.c_Place = true
  ca_Place : PySem.W.findIn K (.ref A.c_Place) "__class__" = some (some (.builtin "object.__class__"))
  cn_Place : PySem.W.specialIn K (.builtin "object.__class__") "__get__" = some (some (.builtin "getset_descriptor.__get__"))
  ct_Place : PySem.W.takesIn K (.builtin "object.__class__") = some true
  cm_Place : PySem.W.mroIn K A.c_Place (.type "object") = some true
  ob_Place : PySem.W.subIn K (.ref A.c_Place) (.type "object") = some true
  ne_Place : PySem.W.findIn K (.ref A.c_Place) "__ne__" = some (some (.builtin "object.__ne__"))
  rd_Place : PySem.W.readsIn K A.c_Place (.type "type") = true
  ga_Place : PySem.W.specialIn K (.ref A.c_Place) "__getattribute__" = some (some (.builtin "type.__getattribute__"))
  np_Place : PySem.W.findIn K (.ref A.c_Place) "parts" = some none
  ic_Place : PySem.W.isClsIn K A.c_Place = true
  ty_Place : PySem.W.typeIn K (.ref A.c_Place) = some (.type "type")
  most_Place : ∃ t, PySem.W.findCls K (.ref A.c_Place) (.type "type") "MOST" = some (.val (.int 8 t))
  ra_Place : PySem.W.findIn K (.ref A.c_Place) "__radd__" = some none
  su_Place : PySem.W.subIn K (.type "str") (.ref A.c_Place) = some false
  suNoneType_Place : PySem.W.subIn K (.type "NoneType") (.ref A.c_Place) = some false
  subool_Place : PySem.W.subIn K (.type "bool") (.ref A.c_Place) = some false
  suint_Place : PySem.W.subIn K (.type "int") (.ref A.c_Place) = some false
  sulist_Place : PySem.W.subIn K (.type "list") (.ref A.c_Place) = some false
  sutuple_Place : PySem.W.subIn K (.type "tuple") (.ref A.c_Place) = some false
  sudict_Place : PySem.W.subIn K (.type "dict") (.ref A.c_Place) = some false
  sustr_Place : PySem.W.subIn K (.ref A.c_Place) (.type "str") = some false
  mg_TableError : mg "TableError" = some (.ref A.c_TableError)
  ga_TableError : PySem.W.findIn K (.ref A.c_TableError) "__getattribute__" = some (some (.builtin "BaseException.__getattribute__"))
  gg_TableError : PySem.W.findIn K (.ref A.c_TableError) "__getattr__" = some none
  be_TableError : PySem.W.subIn K (.ref A.c_TableError) (.type "BaseException") = some true
  hd_TableError : PySem.W.hasDictIn K A.c_TableError = true
  ca_TableError : PySem.W.findIn K (.ref A.c_TableError) "__class__" = some (some (.builtin "object.__class__"))
  ob_TableError : PySem.W.mroIn K A.c_TableError (.type "object") = some true
  ic_TableError : PySem.W.isClsIn K A.c_TableError = true
  ty_TableError : PySem.W.typeIn K (.ref A.c_TableError) = some (.type "type")
  mg_BadPlace : mg "BadPlace" = some (.ref A.c_BadPlace)
  ga_BadPlace : PySem.W.findIn K (.ref A.c_BadPlace) "__getattribute__" = some (some (.builtin "BaseException.__getattribute__"))
  gg_BadPlace : PySem.W.findIn K (.ref A.c_BadPlace) "__getattr__" = some none
  be_BadPlace : PySem.W.subIn K (.ref A.c_BadPlace) (.type "BaseException") = some true
  hd_BadPlace : PySem.W.hasDictIn K A.c_BadPlace = true
  ca_BadPlace : PySem.W.findIn K (.ref A.c_BadPlace) "__class__" = some (some (.builtin "object.__class__"))
  ob_BadPlace : PySem.W.mroIn K A.c_BadPlace (.type "object") = some true
  ic_BadPlace : PySem.W.isClsIn K A.c_BadPlace = true
  ty_BadPlace : PySem.W.typeIn K (.ref A.c_BadPlace) = some (.type "type")
  er_BadPlace : ErC P K mg A.c_BadPlace A.f_BadPlace_init "value" "value" s_BadPlace_init
  mg_is_name : mg "is_name" = some (.ref A.f_is_name)
  fn_is_name : PySem.W.isFn K (.ref A.f_is_name) = true
  F_is_name : FunE K "is_name" "is_name" s_is_name A.f_is_name
  kp_is_name : PySem.W.keepIn K (.ref A.f_is_name) = true
  mg_is_text : mg "is_text" = some (.ref A.f_is_text)
  fn_is_text : PySem.W.isFn K (.ref A.f_is_text) = true
  F_is_text : FunE K "is_text" "is_text" s_is_text A.f_is_text
  kp_is_text : PySem.W.keepIn K (.ref A.f_is_text) = true
  mg_names_in : mg "names_in" = some (.ref A.f_names_in)
  fn_names_in : PySem.W.isFn K (.ref A.f_names_in) = true
  F_names_in : FunE K "names_in" "names_in" s_names_in A.f_names_in
  kp_names_in : PySem.W.keepIn K (.ref A.f_names_in) = true
  mg_text_of : mg "text_of" = some (.ref A.f_text_of)
  fn_text_of : PySem.W.isFn K (.ref A.f_text_of) = true
  F_text_of : FunE K "text_of" "text_of" s_text_of A.f_text_of
  kp_text_of : PySem.W.keepIn K (.ref A.f_text_of) = true
  at_Place_init : PySem.W.findIn K (.ref A.c_Place) "__init__" = some (some (.ref A.f_Place_init))
  fn_Place_init : PySem.W.isFn K (.ref A.f_Place_init) = true
  F_Place_init : FunE K "__init__" "Place.__init__" s_Place_init A.f_Place_init
  kp_Place_init : PySem.W.keepIn K (.ref A.f_Place_init) = true
  at_Place_read : PySem.W.findCls K (.ref A.c_Place) (.type "type") "read" = some (.get (.builtin "classmethod.__get__") (.ref A.p_Place_read) .none (.ref A.c_Place))
  rc_Place_read : ∃ rest, PySem.W.recIn K A.p_Place_read "classmethod" = some (.ref A.f_Place_read :: rest)
  fi_Place_read : PySem.W.fnIn K A.f_Place_read = true
  fn_Place_read : PySem.W.isFn K (.ref A.f_Place_read) = true
  F_Place_read : FunE K "read" "Place.read" s_Place_read A.f_Place_read
  kp_Place_read : PySem.W.keepIn K (.ref A.f_Place_read) = true
  at_Place_of : PySem.W.findCls K (.ref A.c_Place) (.type "type") "of" = some (.get (.builtin "staticmethod.__get__") (.ref A.p_Place_of) .none (.ref A.c_Place))
  rc_Place_of : ∃ rest, PySem.W.recIn K A.p_Place_of "staticmethod" = some (.ref A.f_Place_of :: rest)
  fi_Place_of : PySem.W.fnIn K A.f_Place_of = true
  fn_Place_of : PySem.W.isFn K (.ref A.f_Place_of) = true
  F_Place_of : FunE K "of" "Place.of" s_Place_of A.f_Place_of
  kp_Place_of : PySem.W.keepIn K (.ref A.f_Place_of) = true
  at_Place_names : PySem.W.findIn K (.ref A.c_Place) "names" = some (some (.ref A.p_Place_names))
  ge_Place_names : PySem.W.specialIn K (.ref A.p_Place_names) "__get__" = some (some (.builtin "property.__get__"))
  tk_Place_names : PySem.W.takesIn K (.ref A.p_Place_names) = some true
  rc_Place_names : ∃ rest, PySem.W.recIn K A.p_Place_names "property" = some (.ref A.f_Place_names :: rest)
  fn_Place_names : PySem.W.isFn K (.ref A.f_Place_names) = true
  F_Place_names : FunE K "names" "Place.names" s_Place_names A.f_Place_names
  kp_Place_names : PySem.W.keepIn K (.ref A.f_Place_names) = true
  at_Place_text : PySem.W.findIn K (.ref A.c_Place) "text" = some (some (.ref A.p_Place_text))
  ge_Place_text : PySem.W.specialIn K (.ref A.p_Place_text) "__get__" = some (some (.builtin "property.__get__"))
  tk_Place_text : PySem.W.takesIn K (.ref A.p_Place_text) = some true
  rc_Place_text : ∃ rest, PySem.W.recIn K A.p_Place_text "property" = some (.ref A.f_Place_text :: rest)
  fn_Place_text : PySem.W.isFn K (.ref A.f_Place_text) = true
  F_Place_text : FunE K "text" "Place.text" s_Place_text A.f_Place_text
  kp_Place_text : PySem.W.keepIn K (.ref A.f_Place_text) = true
  at_Place_contains : PySem.W.findIn K (.ref A.c_Place) "__contains__" = some (some (.ref A.f_Place_contains))
  fn_Place_contains : PySem.W.isFn K (.ref A.f_Place_contains) = true
  F_Place_contains : FunE K "__contains__" "Place.__contains__" s_Place_contains A.f_Place_contains
  kp_Place_contains : PySem.W.keepIn K (.ref A.f_Place_contains) = true
  at_Place_len : PySem.W.findIn K (.ref A.c_Place) "__len__" = some (some (.ref A.f_Place_len))
  fn_Place_len : PySem.W.isFn K (.ref A.f_Place_len) = true
  F_Place_len : FunE K "__len__" "Place.__len__" s_Place_len A.f_Place_len
  kp_Place_len : PySem.W.keepIn K (.ref A.f_Place_len) = true
  at_Place_bool : PySem.W.findIn K (.ref A.c_Place) "__bool__" = some (some (.ref A.f_Place_bool))
  fn_Place_bool : PySem.W.isFn K (.ref A.f_Place_bool) = true
  F_Place_bool : FunE K "__bool__" "Place.__bool__" s_Place_bool A.f_Place_bool
  kp_Place_bool : PySem.W.keepIn K (.ref A.f_Place_bool) = true
  at_Place_str : PySem.W.findIn K (.ref A.c_Place) "__str__" = some (some (.ref A.f_Place_str))
  fn_Place_str : PySem.W.isFn K (.ref A.f_Place_str) = true
  F_Place_str : FunE K "__str__" "Place.__str__" s_Place_str A.f_Place_str
  kp_Place_str : PySem.W.keepIn K (.ref A.f_Place_str) = true
  at_Place_repr : PySem.W.findIn K (.ref A.c_Place) "__repr__" = some (some (.ref A.f_Place_repr))
  fn_Place_repr : PySem.W.isFn K (.ref A.f_Place_repr) = true
  F_Place_repr : FunE K "__repr__" "Place.__repr__" s_Place_repr A.f_Place_repr
  kp_Place_repr : PySem.W.keepIn K (.ref A.f_Place_repr) = true
  at_Place_eq : PySem.W.findIn K (.ref A.c_Place) "__eq__" = some (some (.ref A.f_Place_eq))
  fn_Place_eq : PySem.W.isFn K (.ref A.f_Place_eq) = true
  F_Place_eq : FunE K "__eq__" "Place.__eq__" s_Place_eq A.f_Place_eq
  kp_Place_eq : PySem.W.keepIn K (.ref A.f_Place_eq) = true
  mg_law_pen : mg "_law_pen" = some (.ref A.f_law_pen)
  fn_law_pen : PySem.W.isFn K (.ref A.f_law_pen) = true
  F_law_pen : FunE K "_law_pen" "_law_pen" s_law_pen A.f_law_pen
  kp_law_pen : PySem.W.keepIn K (.ref A.f_law_pen) = true
  mg_law_draw : mg "_law_draw" = some (.ref A.f_law_draw)
  fn_law_draw : PySem.W.isFn K (.ref A.f_law_draw) = true
  F_law_draw : FunE K "_law_draw" "_law_draw" s_law_draw A.f_law_draw
  kp_law_draw : PySem.W.keepIn K (.ref A.f_law_draw) = true
  mg_law_pick : mg "_law_pick" = some (.ref A.f_law_pick)
  fn_law_pick : PySem.W.isFn K (.ref A.f_law_pick) = true
  F_law_pick : FunE K "_law_pick" "_law_pick" s_law_pick A.f_law_pick
  kp_law_pick : PySem.W.keepIn K (.ref A.f_law_pick) = true
  mg_law_text : mg "_law_text" = some (.ref A.f_law_text)
  fn_law_text : PySem.W.isFn K (.ref A.f_law_text) = true
  F_law_text : FunE K "_law_text" "_law_text" s_law_text A.f_law_text
  kp_law_text : PySem.W.keepIn K (.ref A.f_law_text) = true
  mg_law_spoiled : mg "_law_spoiled" = some (.ref A.f_law_spoiled)
  fn_law_spoiled : PySem.W.isFn K (.ref A.f_law_spoiled) = true
  F_law_spoiled : FunE K "_law_spoiled" "_law_spoiled" s_law_spoiled A.f_law_spoiled
  kp_law_spoiled : PySem.W.keepIn K (.ref A.f_law_spoiled) = true
  mg_law_is_text : mg "_law_is_text" = some (.ref A.f_law_is_text)
  fn_law_is_text : PySem.W.isFn K (.ref A.f_law_is_text) = true
  F_law_is_text : FunE K "_law_is_text" "_law_is_text" s_law_is_text A.f_law_is_text
  kp_law_is_text : PySem.W.keepIn K (.ref A.f_law_is_text) = true
  mg_law_heard : mg "_law_heard" = some (.ref A.f_law_heard)
  fn_law_heard : PySem.W.isFn K (.ref A.f_law_heard) = true
  F_law_heard : FunE K "_law_heard" "_law_heard" s_law_heard A.f_law_heard
  kp_law_heard : PySem.W.keepIn K (.ref A.f_law_heard) = true
  mg_law_is : mg "_law_is" = some (.ref A.f_law_is)
  fn_law_is : PySem.W.isFn K (.ref A.f_law_is) = true
  F_law_is : FunE K "_law_is" "_law_is" s_law_is A.f_law_is
  kp_law_is : PySem.W.keepIn K (.ref A.f_law_is) = true
  mg_law_right : mg "_law_right" = some (.ref A.f_law_right)
  fn_law_right : PySem.W.isFn K (.ref A.f_law_right) = true
  F_law_right : FunE K "_law_right" "_law_right" s_law_right A.f_law_right
  kp_law_right : PySem.W.keepIn K (.ref A.f_law_right) = true
  mg_law : mg "law" = some (.ref A.f_law)
  fn_law : PySem.W.isFn K (.ref A.f_law) = true
  F_law : FunE K "law" "law" s_law A.f_law
  kp_law : PySem.W.keepIn K (.ref A.f_law) = true
  FK_law_right : FunK K "_law_right" "_law_right" s_law_right A.f_law_right A.k_law_right
  ch_law_right : PySem.W.codeHdIn K A.k_law_right A.t_law_right = true
  nt_law_right : K.lookup A.t_law_right = none
  FK_law : FunK K "law" "law" s_law A.f_law A.k_law
  ch_law : PySem.W.codeHdIn K A.k_law A.t_law = true
  nt_law : K.lookup A.t_law = none
  nn_law_right_law : A.t_law_right ≠ A.t_law
  k_SIGNS : ∃ t, mg "SIGNS" = some (.str "abcdefghijklmnopqrstuvwxyz0123456789" t)
  k_LONGEST_NAME : ∃ t, mg "LONGEST_NAME" = some (.int 8 t)
  k_MOST_NAMES : ∃ t, mg "MOST_NAMES" = some (.int 8 t)
  z_abs : mg "abs" = none
  z_all : mg "all" = none
  z_bool : mg "bool" = none
  z_int : mg "int" = none
  z_isinstance : mg "isinstance" = none
  z_len : mg "len" = none
  z_list : mg "list" = none
  z_range : mg "range" = none
  z_repr : mg "repr" = none
  z_str : mg "str" = none
  z_super : mg "super" = none
  z_tuple : mg "tuple" = none
  tb_BadPlace : PySem.W.subIn K (.ref A.c_BadPlace) (.ref A.c_TableError) = some true
  nv_BadPlace : PySem.W.findIn K (.ref A.c_BadPlace) "value" = some none
theorem tx_mk {P : Program} {K : PySem.W.Frag} {h : Heap} {mg : Str → Option Value} (X : K.In h) (G : h.Ns mainGlobals mg) {c_Place c_TableError c_BadPlace f_BadPlace_init f_is_name f_is_text f_names_in f_text_of f_Place_init f_Place_read p_Place_read f_Place_of p_Place_of f_Place_names p_Place_names f_Place_text p_Place_text f_Place_contains f_Place_len f_Place_bool f_Place_str f_Place_repr f_Place_eq f_law_pen f_law_draw f_law_pick f_law_text f_law_spoiled f_law_is_text f_law_heard f_law_is f_law_right f_law k_law_right t_law_right k_law t_law : Addr} {tt1 : Tok} {nm_BadPlace_init qn_BadPlace_init ql_BadPlace_init fl_BadPlace_init : Str} {N_BadPlace_init cc_BadPlace_init cda_BadPlace_init : Addr} {bs_BadPlace_init bm_BadPlace_init sb_BadPlace_init : List Value} {sn_BadPlace_init : List Str} {ab_BadPlace_init : Bool} {co_BadPlace_init : Option Bool} {dd_BadPlace_init odd_BadPlace_init ann_BadPlace_init od2_BadPlace_init od3_BadPlace_init : Option Addr} {ka_BadPlace_init kb_BadPlace_init kc_BadPlace_init kd_BadPlace_init ke_BadPlace_init : Option Value} {kv_BadPlace_init dc_BadPlace_init pm_BadPlace_init ct_BadPlace_init occ_BadPlace_init oc2_BadPlace_init oc3_BadPlace_init : Value} {os_BadPlace_init os2_BadPlace_init os3_BadPlace_init : Array (Option Value)} {vs_BadPlace_init : Array Value} {tf_BadPlace_init : Tok} {oc_is_name kV_is_name dc_is_name pm_is_name cd_is_name ct_is_name : Value} {od_is_name an_is_name : Option Addr} {sl_is_name : Array (Option Value)} {oc_is_text kV_is_text dc_is_text pm_is_text cd_is_text ct_is_text : Value} {od_is_text an_is_text : Option Addr} {sl_is_text : Array (Option Value)} {oc_names_in kV_names_in dc_names_in pm_names_in cd_names_in ct_names_in : Value} {od_names_in an_names_in : Option Addr} {sl_names_in : Array (Option Value)} {oc_text_of kV_text_of dc_text_of pm_text_of cd_text_of ct_text_of : Value} {od_text_of an_text_of : Option Addr} {sl_text_of : Array (Option Value)} {oc_Place_init kV_Place_init dc_Place_init pm_Place_init cd_Place_init ct_Place_init : Value} {od_Place_init an_Place_init : Option Addr} {sl_Place_init : Array (Option Value)} {rr2 : List Value} {oc_Place_read kV_Place_read dc_Place_read pm_Place_read cd_Place_read ct_Place_read : Value} {od_Place_read an_Place_read : Option Addr} {sl_Place_read : Array (Option Value)} {rr3 : List Value} {oc_Place_of kV_Place_of dc_Place_of pm_Place_of cd_Place_of ct_Place_of : Value} {od_Place_of an_Place_of : Option Addr} {sl_Place_of : Array (Option Value)} {rr4 : List Value} {oc_Place_names kV_Place_names dc_Place_names pm_Place_names cd_Place_names ct_Place_names : Value} {od_Place_names an_Place_names : Option Addr} {sl_Place_names : Array (Option Value)} {rr5 : List Value} {oc_Place_text kV_Place_text dc_Place_text pm_Place_text cd_Place_text ct_Place_text : Value} {od_Place_text an_Place_text : Option Addr} {sl_Place_text : Array (Option Value)} {oc_Place_contains kV_Place_contains dc_Place_contains pm_Place_contains cd_Place_contains ct_Place_contains : Value} {od_Place_contains an_Place_contains : Option Addr} {sl_Place_contains : Array (Option Value)} {oc_Place_len kV_Place_len dc_Place_len pm_Place_len cd_Place_len ct_Place_len : Value} {od_Place_len an_Place_len : Option Addr} {sl_Place_len : Array (Option Value)} {oc_Place_bool kV_Place_bool dc_Place_bool pm_Place_bool cd_Place_bool ct_Place_bool : Value} {od_Place_bool an_Place_bool : Option Addr} {sl_Place_bool : Array (Option Value)} {oc_Place_str kV_Place_str dc_Place_str pm_Place_str cd_Place_str ct_Place_str : Value} {od_Place_str an_Place_str : Option Addr} {sl_Place_str : Array (Option Value)} {oc_Place_repr kV_Place_repr dc_Place_repr pm_Place_repr cd_Place_repr ct_Place_repr : Value} {od_Place_repr an_Place_repr : Option Addr} {sl_Place_repr : Array (Option Value)} {oc_Place_eq kV_Place_eq dc_Place_eq pm_Place_eq cd_Place_eq ct_Place_eq : Value} {od_Place_eq an_Place_eq : Option Addr} {sl_Place_eq : Array (Option Value)} {oc_law_pen kV_law_pen dc_law_pen pm_law_pen cd_law_pen ct_law_pen : Value} {od_law_pen an_law_pen : Option Addr} {sl_law_pen : Array (Option Value)} {oc_law_draw kV_law_draw dc_law_draw pm_law_draw cd_law_draw ct_law_draw : Value} {od_law_draw an_law_draw : Option Addr} {sl_law_draw : Array (Option Value)} {oc_law_pick kV_law_pick dc_law_pick pm_law_pick cd_law_pick ct_law_pick : Value} {od_law_pick an_law_pick : Option Addr} {sl_law_pick : Array (Option Value)} {oc_law_text kV_law_text dc_law_text pm_law_text cd_law_text ct_law_text : Value} {od_law_text an_law_text : Option Addr} {sl_law_text : Array (Option Value)} {oc_law_spoiled kV_law_spoiled dc_law_spoiled pm_law_spoiled cd_law_spoiled ct_law_spoiled : Value} {od_law_spoiled an_law_spoiled : Option Addr} {sl_law_spoiled : Array (Option Value)} {oc_law_is_text kV_law_is_text dc_law_is_text pm_law_is_text cd_law_is_text ct_law_is_text : Value} {od_law_is_text an_law_is_text : Option Addr} {sl_law_is_text : Array (Option Value)} {oc_law_heard kV_law_heard dc_law_heard pm_law_heard cd_law_heard ct_law_heard : Value} {od_law_heard an_law_heard : Option Addr} {sl_law_heard : Array (Option Value)} {oc_law_is kV_law_is dc_law_is pm_law_is cd_law_is ct_law_is : Value} {od_law_is an_law_is : Option Addr} {sl_law_is : Array (Option Value)} {oc_law_right kV_law_right dc_law_right pm_law_right cd_law_right ct_law_right : Value} {od_law_right an_law_right : Option Addr} {sl_law_right : Array (Option Value)} {oc_law kV_law dc_law pm_law cd_law ct_law : Value} {od_law an_law : Option Addr} {sl_law : Array (Option Value)} {ocK_law_right kVK_law_right dcK_law_right pmK_law_right ctK_law_right : Value} {odK_law_right anK_law_right : Option Addr} {slK_law_right : Array (Option Value)} {ocC_law_right : Value} {odC_law_right : Option Addr} {vsC_law_right : Array Value} {slC_law_right : Array (Option Value)} {ocK_law kVK_law dcK_law pmK_law ctK_law : Value} {odK_law anK_law : Option Addr} {slK_law : Array (Option Value)} {ocC_law : Value} {odC_law : Option Addr} {vsC_law : Array Value} {slC_law : Array (Option Value)} {tt6 : Tok} {tt7 : Tok} {tt8 : Tok}
    (mg_Place : PySem.W.nsIn K mainGlobals "Place" = some (some (.ref c_Place)))
    (pg_Place : PySem.W.plainGet K c_Place Str.empty = true)
    (hd_Place : PySem.W.hasDictIn K c_Place = true)
    (po_Place : PySem.W.plainOver K c_Place = true)
    (sa_Place : PySem.W.findIn K (.ref c_Place) "__setattr__" = some (some (.builtin "object.__setattr__")))
    (mk_Place : PySem.W.makesIn K c_Place = true)
    (kc_Place : PySem.W.keepIn K (.ref c_Place) = true)
    (sf_Place : PySem.W.selfFirst K c_Place = true)
    (ca_Place : PySem.W.findIn K (.ref c_Place) "__class__" = some (some (.builtin "object.__class__")))
    (cn_Place : PySem.W.specialIn K (.builtin "object.__class__") "__get__" = some (some (.builtin "getset_descriptor.__get__")))
    (ct_Place : PySem.W.takesIn K (.builtin "object.__class__") = some true)
    (cm_Place : PySem.W.mroIn K c_Place (.type "object") = some true)
    (ob_Place : PySem.W.subIn K (.ref c_Place) (.type "object") = some true)
    (ne_Place : PySem.W.findIn K (.ref c_Place) "__ne__" = some (some (.builtin "object.__ne__")))
    (rd_Place : PySem.W.readsIn K c_Place (.type "type") = true)
    (ga_Place : PySem.W.specialIn K (.ref c_Place) "__getattribute__" = some (some (.builtin "type.__getattribute__")))
    (np_Place : PySem.W.findIn K (.ref c_Place) "parts" = some none)
    (ic_Place : PySem.W.isClsIn K c_Place = true)
    (ty_Place : PySem.W.typeIn K (.ref c_Place) = some (.type "type"))
    (most_Place : PySem.W.findCls K (.ref c_Place) (.type "type") "MOST" = some (.val (.int 8 tt1)))
    (ra_Place : PySem.W.findIn K (.ref c_Place) "__radd__" = some none)
    (su_Place : PySem.W.subIn K (.type "str") (.ref c_Place) = some false)
    (suNoneType_Place : PySem.W.subIn K (.type "NoneType") (.ref c_Place) = some false)
    (subool_Place : PySem.W.subIn K (.type "bool") (.ref c_Place) = some false)
    (suint_Place : PySem.W.subIn K (.type "int") (.ref c_Place) = some false)
    (sulist_Place : PySem.W.subIn K (.type "list") (.ref c_Place) = some false)
    (sutuple_Place : PySem.W.subIn K (.type "tuple") (.ref c_Place) = some false)
    (sudict_Place : PySem.W.subIn K (.type "dict") (.ref c_Place) = some false)
    (sustr_Place : PySem.W.subIn K (.ref c_Place) (.type "str") = some false)
    (mg_TableError : PySem.W.nsIn K mainGlobals "TableError" = some (some (.ref c_TableError)))
    (ga_TableError : PySem.W.findIn K (.ref c_TableError) "__getattribute__" = some (some (.builtin "BaseException.__getattribute__")))
    (gg_TableError : PySem.W.findIn K (.ref c_TableError) "__getattr__" = some none)
    (be_TableError : PySem.W.subIn K (.ref c_TableError) (.type "BaseException") = some true)
    (hd_TableError : PySem.W.hasDictIn K c_TableError = true)
    (ca_TableError : PySem.W.findIn K (.ref c_TableError) "__class__" = some (some (.builtin "object.__class__")))
    (ob_TableError : PySem.W.mroIn K c_TableError (.type "object") = some true)
    (ic_TableError : PySem.W.isClsIn K c_TableError = true)
    (ty_TableError : PySem.W.typeIn K (.ref c_TableError) = some (.type "type"))
    (mg_BadPlace : PySem.W.nsIn K mainGlobals "BadPlace" = some (some (.ref c_BadPlace)))
    (ga_BadPlace : PySem.W.findIn K (.ref c_BadPlace) "__getattribute__" = some (some (.builtin "BaseException.__getattribute__")))
    (gg_BadPlace : PySem.W.findIn K (.ref c_BadPlace) "__getattr__" = some none)
    (be_BadPlace : PySem.W.subIn K (.ref c_BadPlace) (.type "BaseException") = some true)
    (hd_BadPlace : PySem.W.hasDictIn K c_BadPlace = true)
    (ca_BadPlace : PySem.W.findIn K (.ref c_BadPlace) "__class__" = some (some (.builtin "object.__class__")))
    (ob_BadPlace : PySem.W.mroIn K c_BadPlace (.type "object") = some true)
    (ic_BadPlace : PySem.W.isClsIn K c_BadPlace = true)
    (ty_BadPlace : PySem.W.typeIn K (.ref c_BadPlace) = some (.type "type"))
    (xa_BadPlace_init : K.lookup c_BadPlace = some (excClassObj nm_BadPlace_init qn_BadPlace_init c_BadPlace N_BadPlace_init bs_BadPlace_init bm_BadPlace_init true sn_BadPlace_init sb_BadPlace_init ab_BadPlace_init co_BadPlace_init dd_BadPlace_init ka_BadPlace_init kb_BadPlace_init kc_BadPlace_init kd_BadPlace_init ke_BadPlace_init "ValueError.__new__"))
    (xb_BadPlace_init : PySem.HandSPX.refsVE bm_BadPlace_init = true)
    (xc_BadPlace_init : PySem.W.findIn K (.ref c_BadPlace) "__setattr__" = some (some (.builtin "object.__setattr__")))
    (xd_BadPlace_init : PySem.W.subIn K (.ref c_BadPlace) (.type "BaseException") = some true)
    (xe_BadPlace_init : PySem.W.typeIn K (.ref c_BadPlace) = some (.type "type"))
    (xf_BadPlace_init : PySem.W.keepIn K (.ref c_BadPlace) = true)
    (xg_BadPlace_init : PySem.W.findIn K (.ref c_BadPlace) "__init__" = some (some (.ref f_BadPlace_init)))
    (xh_BadPlace_init : PySem.W.typeIn K (.ref f_BadPlace_init) = some (.type "function"))
    (xi_BadPlace_init : PySem.W.findIn K (.ref c_BadPlace) "value" = some none)
    (xj_BadPlace_init : PySem.W.nsIn K cStatics "thirdparty.any" = some none)
    (xk_BadPlace_init : PySem.W.ks_superIn K c_BadPlace c_BadPlace "__init__" = some (some (.builtin "ValueError.__init__")))
    (xl_BadPlace_init : PySem.W.subIn K (.ref c_BadPlace) (.type "ValueError") = some true)
    (xm_BadPlace_init : PySem.W.mroIn K c_BadPlace (.ref c_BadPlace) = some true)
    (xn_BadPlace_init : PySem.W.nsIn K mainGlobals "super" = some none)
    (xo_BadPlace_init : (P.main.scope.names.lookup ("super" : Str)).isSome = false)
    (xp_BadPlace_init : K.lookup f_BadPlace_init = some ⟨occ_BadPlace_init, odd_BadPlace_init, .func (erFd ql_BadPlace_init (defArgs s_BadPlace_init) (defBody s_BadPlace_init) (defScope s_BadPlace_init) cc_BadPlace_init kv_BadPlace_init dc_BadPlace_init pm_BadPlace_init ann_BadPlace_init (.ref cda_BadPlace_init) ct_BadPlace_init), os_BadPlace_init⟩)
    (xq_BadPlace_init : PySem.W.codeIn K (.ref cda_BadPlace_init) ql_BadPlace_init = true)
    (xr_BadPlace_init : K.lookup cc_BadPlace_init = some ⟨oc2_BadPlace_init, od2_BadPlace_init, .cell (some (.ref c_BadPlace)), os2_BadPlace_init⟩)
    (xs_BadPlace_init : K.lookup cda_BadPlace_init = some ⟨oc3_BadPlace_init, od3_BadPlace_init, .fields vs_BadPlace_init, os3_BadPlace_init⟩)
    (xt_BadPlace_init : vs_BadPlace_init[2]? = some (.str fl_BadPlace_init tf_BadPlace_init))
    (xu_BadPlace_init : ((P.main.file : Str) == fl_BadPlace_init) = true)
    (mg_is_name : PySem.W.nsIn K mainGlobals "is_name" = some (some (.ref f_is_name)))
    (fn_is_name : PySem.W.isFn K (.ref f_is_name) = true)
    (l_is_name : K.lookup f_is_name = some ⟨oc_is_name, od_is_name, .func (PySem.W.fnOf "is_name" "is_name" (defArgs s_is_name) (defBody s_is_name) (defScope s_is_name) .none kV_is_name dc_is_name pm_is_name an_is_name cd_is_name ct_is_name), sl_is_name⟩)
    (cc_is_name : PySem.W.codeIn K cd_is_name "is_name" = true)
    (kk_is_name : PySem.W.keepIn K (.ref f_is_name) = true)
    (kp_is_name : PySem.W.keepIn K (.ref f_is_name) = true)
    (mg_is_text : PySem.W.nsIn K mainGlobals "is_text" = some (some (.ref f_is_text)))
    (fn_is_text : PySem.W.isFn K (.ref f_is_text) = true)
    (l_is_text : K.lookup f_is_text = some ⟨oc_is_text, od_is_text, .func (PySem.W.fnOf "is_text" "is_text" (defArgs s_is_text) (defBody s_is_text) (defScope s_is_text) .none kV_is_text dc_is_text pm_is_text an_is_text cd_is_text ct_is_text), sl_is_text⟩)
    (cc_is_text : PySem.W.codeIn K cd_is_text "is_text" = true)
    (kk_is_text : PySem.W.keepIn K (.ref f_is_text) = true)
    (kp_is_text : PySem.W.keepIn K (.ref f_is_text) = true)
    (mg_names_in : PySem.W.nsIn K mainGlobals "names_in" = some (some (.ref f_names_in)))
    (fn_names_in : PySem.W.isFn K (.ref f_names_in) = true)
    (l_names_in : K.lookup f_names_in = some ⟨oc_names_in, od_names_in, .func (PySem.W.fnOf "names_in" "names_in" (defArgs s_names_in) (defBody s_names_in) (defScope s_names_in) .none kV_names_in dc_names_in pm_names_in an_names_in cd_names_in ct_names_in), sl_names_in⟩)
    (cc_names_in : PySem.W.codeIn K cd_names_in "names_in" = true)
    (kk_names_in : PySem.W.keepIn K (.ref f_names_in) = true)
    (kp_names_in : PySem.W.keepIn K (.ref f_names_in) = true)
    (mg_text_of : PySem.W.nsIn K mainGlobals "text_of" = some (some (.ref f_text_of)))
    (fn_text_of : PySem.W.isFn K (.ref f_text_of) = true)
    (l_text_of : K.lookup f_text_of = some ⟨oc_text_of, od_text_of, .func (PySem.W.fnOf "text_of" "text_of" (defArgs s_text_of) (defBody s_text_of) (defScope s_text_of) .none kV_text_of dc_text_of pm_text_of an_text_of cd_text_of ct_text_of), sl_text_of⟩)
    (cc_text_of : PySem.W.codeIn K cd_text_of "text_of" = true)
    (kk_text_of : PySem.W.keepIn K (.ref f_text_of) = true)
    (kp_text_of : PySem.W.keepIn K (.ref f_text_of) = true)
    (at_Place_init : PySem.W.findIn K (.ref c_Place) "__init__" = some (some (.ref f_Place_init)))
    (fn_Place_init : PySem.W.isFn K (.ref f_Place_init) = true)
    (l_Place_init : K.lookup f_Place_init = some ⟨oc_Place_init, od_Place_init, .func (PySem.W.fnOf "__init__" "Place.__init__" (defArgs s_Place_init) (defBody s_Place_init) (defScope s_Place_init) .none kV_Place_init dc_Place_init pm_Place_init an_Place_init cd_Place_init ct_Place_init), sl_Place_init⟩)
    (cc_Place_init : PySem.W.codeIn K cd_Place_init "Place.__init__" = true)
    (kk_Place_init : PySem.W.keepIn K (.ref f_Place_init) = true)
    (kp_Place_init : PySem.W.keepIn K (.ref f_Place_init) = true)
    (at_Place_read : PySem.W.findCls K (.ref c_Place) (.type "type") "read" = some (.get (.builtin "classmethod.__get__") (.ref p_Place_read) .none (.ref c_Place)))
    (rc_Place_read : PySem.W.recIn K p_Place_read "classmethod" = some (.ref f_Place_read :: rr2))
    (fi_Place_read : PySem.W.fnIn K f_Place_read = true)
    (fn_Place_read : PySem.W.isFn K (.ref f_Place_read) = true)
    (l_Place_read : K.lookup f_Place_read = some ⟨oc_Place_read, od_Place_read, .func (PySem.W.fnOf "read" "Place.read" (defArgs s_Place_read) (defBody s_Place_read) (defScope s_Place_read) .none kV_Place_read dc_Place_read pm_Place_read an_Place_read cd_Place_read ct_Place_read), sl_Place_read⟩)
    (cc_Place_read : PySem.W.codeIn K cd_Place_read "Place.read" = true)
    (kk_Place_read : PySem.W.keepIn K (.ref f_Place_read) = true)
    (kp_Place_read : PySem.W.keepIn K (.ref f_Place_read) = true)
    (at_Place_of : PySem.W.findCls K (.ref c_Place) (.type "type") "of" = some (.get (.builtin "staticmethod.__get__") (.ref p_Place_of) .none (.ref c_Place)))
    (rc_Place_of : PySem.W.recIn K p_Place_of "staticmethod" = some (.ref f_Place_of :: rr3))
    (fi_Place_of : PySem.W.fnIn K f_Place_of = true)
    (fn_Place_of : PySem.W.isFn K (.ref f_Place_of) = true)
    (l_Place_of : K.lookup f_Place_of = some ⟨oc_Place_of, od_Place_of, .func (PySem.W.fnOf "of" "Place.of" (defArgs s_Place_of) (defBody s_Place_of) (defScope s_Place_of) .none kV_Place_of dc_Place_of pm_Place_of an_Place_of cd_Place_of ct_Place_of), sl_Place_of⟩)
    (cc_Place_of : PySem.W.codeIn K cd_Place_of "Place.of" = true)
    (kk_Place_of : PySem.W.keepIn K (.ref f_Place_of) = true)
    (kp_Place_of : PySem.W.keepIn K (.ref f_Place_of) = true)
    (at_Place_names : PySem.W.findIn K (.ref c_Place) "names" = some (some (.ref p_Place_names)))
    (ge_Place_names : PySem.W.specialIn K (.ref p_Place_names) "__get__" = some (some (.builtin "property.__get__")))
    (tk_Place_names : PySem.W.takesIn K (.ref p_Place_names) = some true)
    (rc_Place_names : PySem.W.recIn K p_Place_names "property" = some (.ref f_Place_names :: rr4))
    (fn_Place_names : PySem.W.isFn K (.ref f_Place_names) = true)
    (l_Place_names : K.lookup f_Place_names = some ⟨oc_Place_names, od_Place_names, .func (PySem.W.fnOf "names" "Place.names" (defArgs s_Place_names) (defBody s_Place_names) (defScope s_Place_names) .none kV_Place_names dc_Place_names pm_Place_names an_Place_names cd_Place_names ct_Place_names), sl_Place_names⟩)
    (cc_Place_names : PySem.W.codeIn K cd_Place_names "Place.names" = true)
    (kk_Place_names : PySem.W.keepIn K (.ref f_Place_names) = true)
    (kp_Place_names : PySem.W.keepIn K (.ref f_Place_names) = true)
    (at_Place_text : PySem.W.findIn K (.ref c_Place) "text" = some (some (.ref p_Place_text)))
    (ge_Place_text : PySem.W.specialIn K (.ref p_Place_text) "__get__" = some (some (.builtin "property.__get__")))
    (tk_Place_text : PySem.W.takesIn K (.ref p_Place_text) = some true)
    (rc_Place_text : PySem.W.recIn K p_Place_text "property" = some (.ref f_Place_text :: rr5))
    (fn_Place_text : PySem.W.isFn K (.ref f_Place_text) = true)
    (l_Place_text : K.lookup f_Place_text = some ⟨oc_Place_text, od_Place_text, .func (PySem.W.fnOf "text" "Place.text" (defArgs s_Place_text) (defBody s_Place_text) (defScope s_Place_text) .none kV_Place_text dc_Place_text pm_Place_text an_Place_text cd_Place_text ct_Place_text), sl_Place_text⟩)
    (cc_Place_text : PySem.W.codeIn K cd_Place_text "Place.text" = true)
    (kk_Place_text : PySem.W.keepIn K (.ref f_Place_text) = true)
    (kp_Place_text : PySem.W.keepIn K (.ref f_Place_text) = true)
    (at_Place_contains : PySem.W.findIn K (.ref c_Place) "__contains__" = some (some (.ref f_Place_contains)))
    (fn_Place_contains : PySem.W.isFn K (.ref f_Place_contains) = true)
    (l_Place_contains : K.lookup f_Place_contains = some ⟨oc_Place_contains, od_Place_contains, .func (PySem.W.fnOf "__contains__" "Place.__contains__" (defArgs s_Place_contains) (defBody s_Place_contains) (defScope s_Place_contains) .none kV_Place_contains dc_Place_contains pm_Place_contains an_Place_contains cd_Place_contains ct_Place_contains), sl_Place_contains⟩)
    (cc_Place_contains : PySem.W.codeIn K cd_Place_contains "Place.__contains__" = true)
    (kk_Place_contains : PySem.W.keepIn K (.ref f_Place_contains) = true)
    (kp_Place_contains : PySem.W.keepIn K (.ref f_Place_contains) = true)
    (at_Place_len : PySem.W.findIn K (.ref c_Place) "__len__" = some (some (.ref f_Place_len)))
    (fn_Place_len : PySem.W.isFn K (.ref f_Place_len) = true)
    (l_Place_len : K.lookup f_Place_len = some ⟨oc_Place_len, od_Place_len, .func (PySem.W.fnOf "__len__" "Place.__len__" (defArgs s_Place_len) (defBody s_Place_len) (defScope s_Place_len) .none kV_Place_len dc_Place_len pm_Place_len an_Place_len cd_Place_len ct_Place_len), sl_Place_len⟩)
    (cc_Place_len : PySem.W.codeIn K cd_Place_len "Place.__len__" = true)
    (kk_Place_len : PySem.W.keepIn K (.ref f_Place_len) = true)
    (kp_Place_len : PySem.W.keepIn K (.ref f_Place_len) = true)
    (at_Place_bool : PySem.W.findIn K (.ref c_Place) "__bool__" = some (some (.ref f_Place_bool)))
    (fn_Place_bool : PySem.W.isFn K (.ref f_Place_bool) = true)
    (l_Place_bool : K.lookup f_Place_bool = some ⟨oc_Place_bool, od_Place_bool, .func (PySem.W.fnOf "__bool__" "Place.__bool__" (defArgs s_Place_bool) (defBody s_Place_bool) (defScope s_Place_bool) .none kV_Place_bool dc_Place_bool pm_Place_bool an_Place_bool cd_Place_bool ct_Place_bool), sl_Place_bool⟩)
    (cc_Place_bool : PySem.W.codeIn K cd_Place_bool "Place.__bool__" = true)
    (kk_Place_bool : PySem.W.keepIn K (.ref f_Place_bool) = true)
    (kp_Place_bool : PySem.W.keepIn K (.ref f_Place_bool) = true)
    (at_Place_str : PySem.W.findIn K (.ref c_Place) "__str__" = some (some (.ref f_Place_str)))
    (fn_Place_str : PySem.W.isFn K (.ref f_Place_str) = true)
    (l_Place_str : K.lookup f_Place_str = some ⟨oc_Place_str, od_Place_str, .func (PySem.W.fnOf "__str__" "Place.__str__" (defArgs s_Place_str) (defBody s_Place_str) (defScope s_Place_str) .none kV_Place_str dc_Place_str pm_Place_str an_Place_str cd_Place_str ct_Place_str), sl_Place_str⟩)
    (cc_Place_str : PySem.W.codeIn K cd_Place_str "Place.__str__" = true)
    (kk_Place_str : PySem.W.keepIn K (.ref f_Place_str) = true)
    (kp_Place_str : PySem.W.keepIn K (.ref f_Place_str) = true)
    (at_Place_repr : PySem.W.findIn K (.ref c_Place) "__repr__" = some (some (.ref f_Place_repr)))
    (fn_Place_repr : PySem.W.isFn K (.ref f_Place_repr) = true)
    (l_Place_repr : K.lookup f_Place_repr = some ⟨oc_Place_repr, od_Place_repr, .func (PySem.W.fnOf "__repr__" "Place.__repr__" (defArgs s_Place_repr) (defBody s_Place_repr) (defScope s_Place_repr) .none kV_Place_repr dc_Place_repr pm_Place_repr an_Place_repr cd_Place_repr ct_Place_repr), sl_Place_repr⟩)
    (cc_Place_repr : PySem.W.codeIn K cd_Place_repr "Place.__repr__" = true)
    (kk_Place_repr : PySem.W.keepIn K (.ref f_Place_repr) = true)
    (kp_Place_repr : PySem.W.keepIn K (.ref f_Place_repr) = true)
    (at_Place_eq : PySem.W.findIn K (.ref c_Place) "__eq__" = some (some (.ref f_Place_eq)))
    (fn_Place_eq : PySem.W.isFn K (.ref f_Place_eq) = true)
    (l_Place_eq : K.lookup f_Place_eq = some ⟨oc_Place_eq, od_Place_eq, .func (PySem.W.fnOf "__eq__" "Place.__eq__" (defArgs s_Place_eq) (defBody s_Place_eq) (defScope s_Place_eq) .none kV_Place_eq dc_Place_eq pm_Place_eq an_Place_eq cd_Place_eq ct_Place_eq), sl_Place_eq⟩)
    (cc_Place_eq : PySem.W.codeIn K cd_Place_eq "Place.__eq__" = true)
    (kk_Place_eq : PySem.W.keepIn K (.ref f_Place_eq) = true)
    (kp_Place_eq : PySem.W.keepIn K (.ref f_Place_eq) = true)
    (mg_law_pen : PySem.W.nsIn K mainGlobals "_law_pen" = some (some (.ref f_law_pen)))
    (fn_law_pen : PySem.W.isFn K (.ref f_law_pen) = true)
    (l_law_pen : K.lookup f_law_pen = some ⟨oc_law_pen, od_law_pen, .func (PySem.W.fnOf "_law_pen" "_law_pen" (defArgs s_law_pen) (defBody s_law_pen) (defScope s_law_pen) .none kV_law_pen dc_law_pen pm_law_pen an_law_pen cd_law_pen ct_law_pen), sl_law_pen⟩)
    (cc_law_pen : PySem.W.codeIn K cd_law_pen "_law_pen" = true)
    (kk_law_pen : PySem.W.keepIn K (.ref f_law_pen) = true)
    (kp_law_pen : PySem.W.keepIn K (.ref f_law_pen) = true)
    (mg_law_draw : PySem.W.nsIn K mainGlobals "_law_draw" = some (some (.ref f_law_draw)))
    (fn_law_draw : PySem.W.isFn K (.ref f_law_draw) = true)
    (l_law_draw : K.lookup f_law_draw = some ⟨oc_law_draw, od_law_draw, .func (PySem.W.fnOf "_law_draw" "_law_draw" (defArgs s_law_draw) (defBody s_law_draw) (defScope s_law_draw) .none kV_law_draw dc_law_draw pm_law_draw an_law_draw cd_law_draw ct_law_draw), sl_law_draw⟩)
    (cc_law_draw : PySem.W.codeIn K cd_law_draw "_law_draw" = true)
    (kk_law_draw : PySem.W.keepIn K (.ref f_law_draw) = true)
    (kp_law_draw : PySem.W.keepIn K (.ref f_law_draw) = true)
    (mg_law_pick : PySem.W.nsIn K mainGlobals "_law_pick" = some (some (.ref f_law_pick)))
    (fn_law_pick : PySem.W.isFn K (.ref f_law_pick) = true)
    (l_law_pick : K.lookup f_law_pick = some ⟨oc_law_pick, od_law_pick, .func (PySem.W.fnOf "_law_pick" "_law_pick" (defArgs s_law_pick) (defBody s_law_pick) (defScope s_law_pick) .none kV_law_pick dc_law_pick pm_law_pick an_law_pick cd_law_pick ct_law_pick), sl_law_pick⟩)
    (cc_law_pick : PySem.W.codeIn K cd_law_pick "_law_pick" = true)
    (kk_law_pick : PySem.W.keepIn K (.ref f_law_pick) = true)
    (kp_law_pick : PySem.W.keepIn K (.ref f_law_pick) = true)
    (mg_law_text : PySem.W.nsIn K mainGlobals "_law_text" = some (some (.ref f_law_text)))
    (fn_law_text : PySem.W.isFn K (.ref f_law_text) = true)
    (l_law_text : K.lookup f_law_text = some ⟨oc_law_text, od_law_text, .func (PySem.W.fnOf "_law_text" "_law_text" (defArgs s_law_text) (defBody s_law_text) (defScope s_law_text) .none kV_law_text dc_law_text pm_law_text an_law_text cd_law_text ct_law_text), sl_law_text⟩)
    (cc_law_text : PySem.W.codeIn K cd_law_text "_law_text" = true)
    (kk_law_text : PySem.W.keepIn K (.ref f_law_text) = true)
    (kp_law_text : PySem.W.keepIn K (.ref f_law_text) = true)
    (mg_law_spoiled : PySem.W.nsIn K mainGlobals "_law_spoiled" = some (some (.ref f_law_spoiled)))
    (fn_law_spoiled : PySem.W.isFn K (.ref f_law_spoiled) = true)
    (l_law_spoiled : K.lookup f_law_spoiled = some ⟨oc_law_spoiled, od_law_spoiled, .func (PySem.W.fnOf "_law_spoiled" "_law_spoiled" (defArgs s_law_spoiled) (defBody s_law_spoiled) (defScope s_law_spoiled) .none kV_law_spoiled dc_law_spoiled pm_law_spoiled an_law_spoiled cd_law_spoiled ct_law_spoiled), sl_law_spoiled⟩)
    (cc_law_spoiled : PySem.W.codeIn K cd_law_spoiled "_law_spoiled" = true)
    (kk_law_spoiled : PySem.W.keepIn K (.ref f_law_spoiled) = true)
    (kp_law_spoiled : PySem.W.keepIn K (.ref f_law_spoiled) = true)
    (mg_law_is_text : PySem.W.nsIn K mainGlobals "_law_is_text" = some (some (.ref f_law_is_text)))
    (fn_law_is_text : PySem.W.isFn K (.ref f_law_is_text) = true)
    (l_law_is_text : K.lookup f_law_is_text = some ⟨oc_law_is_text, od_law_is_text, .func (PySem.W.fnOf "_law_is_text" "_law_is_text" (defArgs s_law_is_text) (defBody s_law_is_text) (defScope s_law_is_text) .none kV_law_is_text dc_law_is_text pm_law_is_text an_law_is_text cd_law_is_text ct_law_is_text), sl_law_is_text⟩)
    (cc_law_is_text : PySem.W.codeIn K cd_law_is_text "_law_is_text" = true)
    (kk_law_is_text : PySem.W.keepIn K (.ref f_law_is_text) = true)
    (kp_law_is_text : PySem.W.keepIn K (.ref f_law_is_text) = true)
    (mg_law_heard : PySem.W.nsIn K mainGlobals "_law_heard" = some (some (.ref f_law_heard)))
    (fn_law_heard : PySem.W.isFn K (.ref f_law_heard) = true)
    (l_law_heard : K.lookup f_law_heard = some ⟨oc_law_heard, od_law_heard, .func (PySem.W.fnOf "_law_heard" "_law_heard" (defArgs s_law_heard) (defBody s_law_heard) (defScope s_law_heard) .none kV_law_heard dc_law_heard pm_law_heard an_law_heard cd_law_heard ct_law_heard), sl_law_heard⟩)
    (cc_law_heard : PySem.W.codeIn K cd_law_heard "_law_heard" = true)
    (kk_law_heard : PySem.W.keepIn K (.ref f_law_heard) = true)
    (kp_law_heard : PySem.W.keepIn K (.ref f_law_heard) = true)
    (mg_law_is : PySem.W.nsIn K mainGlobals "_law_is" = some (some (.ref f_law_is)))
    (fn_law_is : PySem.W.isFn K (.ref f_law_is) = true)
    (l_law_is : K.lookup f_law_is = some ⟨oc_law_is, od_law_is, .func (PySem.W.fnOf "_law_is" "_law_is" (defArgs s_law_is) (defBody s_law_is) (defScope s_law_is) .none kV_law_is dc_law_is pm_law_is an_law_is cd_law_is ct_law_is), sl_law_is⟩)
    (cc_law_is : PySem.W.codeIn K cd_law_is "_law_is" = true)
    (kk_law_is : PySem.W.keepIn K (.ref f_law_is) = true)
    (kp_law_is : PySem.W.keepIn K (.ref f_law_is) = true)
    (mg_law_right : PySem.W.nsIn K mainGlobals "_law_right" = some (some (.ref f_law_right)))
    (fn_law_right : PySem.W.isFn K (.ref f_law_right) = true)
    (l_law_right : K.lookup f_law_right = some ⟨oc_law_right, od_law_right, .func (PySem.W.fnOf "_law_right" "_law_right" (defArgs s_law_right) (defBody s_law_right) (defScope s_law_right) .none kV_law_right dc_law_right pm_law_right an_law_right cd_law_right ct_law_right), sl_law_right⟩)
    (cc_law_right : PySem.W.codeIn K cd_law_right "_law_right" = true)
    (kk_law_right : PySem.W.keepIn K (.ref f_law_right) = true)
    (kp_law_right : PySem.W.keepIn K (.ref f_law_right) = true)
    (mg_law : PySem.W.nsIn K mainGlobals "law" = some (some (.ref f_law)))
    (fn_law : PySem.W.isFn K (.ref f_law) = true)
    (l_law : K.lookup f_law = some ⟨oc_law, od_law, .func (PySem.W.fnOf "law" "law" (defArgs s_law) (defBody s_law) (defScope s_law) .none kV_law dc_law pm_law an_law cd_law ct_law), sl_law⟩)
    (cc_law : PySem.W.codeIn K cd_law "law" = true)
    (kk_law : PySem.W.keepIn K (.ref f_law) = true)
    (kp_law : PySem.W.keepIn K (.ref f_law) = true)
    (lK_law_right : K.lookup f_law_right = some ⟨ocK_law_right, odK_law_right, .func (PySem.W.fnOf "_law_right" "_law_right" (defArgs s_law_right) (defBody s_law_right) (defScope s_law_right) .none kVK_law_right dcK_law_right pmK_law_right anK_law_right (.ref k_law_right) ctK_law_right), slK_law_right⟩)
    (cK_law_right : PySem.W.codeIn K (.ref k_law_right) "_law_right" = true)
    (kC_law_right : K.lookup k_law_right = some ⟨ocC_law_right, odC_law_right, .fields vsC_law_right, slC_law_right⟩)
    (tC_law_right : vsC_law_right[11]? = some (.ref t_law_right))
    (hC_law_right : PySem.W.codeHdIn K k_law_right t_law_right = true)
    (nt_law_right : K.lookup t_law_right = none)
    (lK_law : K.lookup f_law = some ⟨ocK_law, odK_law, .func (PySem.W.fnOf "law" "law" (defArgs s_law) (defBody s_law) (defScope s_law) .none kVK_law dcK_law pmK_law anK_law (.ref k_law) ctK_law), slK_law⟩)
    (cK_law : PySem.W.codeIn K (.ref k_law) "law" = true)
    (kC_law : K.lookup k_law = some ⟨ocC_law, odC_law, .fields vsC_law, slC_law⟩)
    (tC_law : vsC_law[11]? = some (.ref t_law))
    (hC_law : PySem.W.codeHdIn K k_law t_law = true)
    (nt_law : K.lookup t_law = none)
    (nn_law_right_law : t_law_right ≠ t_law)
    (k_SIGNS : PySem.W.nsIn K mainGlobals "SIGNS" = some (some (.str "abcdefghijklmnopqrstuvwxyz0123456789" tt6)))
    (k_LONGEST_NAME : PySem.W.nsIn K mainGlobals "LONGEST_NAME" = some (some (.int 8 tt7)))
    (k_MOST_NAMES : PySem.W.nsIn K mainGlobals "MOST_NAMES" = some (some (.int 8 tt8)))
    (z_abs : PySem.W.nsIn K mainGlobals "abs" = some none)
    (z_all : PySem.W.nsIn K mainGlobals "all" = some none)
    (z_bool : PySem.W.nsIn K mainGlobals "bool" = some none)
    (z_int : PySem.W.nsIn K mainGlobals "int" = some none)
    (z_isinstance : PySem.W.nsIn K mainGlobals "isinstance" = some none)
    (z_len : PySem.W.nsIn K mainGlobals "len" = some none)
    (z_list : PySem.W.nsIn K mainGlobals "list" = some none)
    (z_range : PySem.W.nsIn K mainGlobals "range" = some none)
    (z_repr : PySem.W.nsIn K mainGlobals "repr" = some none)
    (z_str : PySem.W.nsIn K mainGlobals "str" = some none)
    (z_super : PySem.W.nsIn K mainGlobals "super" = some none)
    (z_tuple : PySem.W.nsIn K mainGlobals "tuple" = some none)
    (tb_BadPlace : PySem.W.subIn K (.ref c_BadPlace) (.ref c_TableError) = some true)
    (nv_BadPlace : PySem.W.findIn K (.ref c_BadPlace) "value" = some none)
    : Tx P K mg (⟨c_Place, c_TableError, c_BadPlace, f_BadPlace_init, f_is_name, f_is_text, f_names_in, f_text_of, f_Place_init, f_Place_read, p_Place_read, f_Place_of, p_Place_of, f_Place_names, p_Place_names, f_Place_text, p_Place_text, f_Place_contains, f_Place_len, f_Place_bool, f_Place_str, f_Place_repr, f_Place_eq, f_law_pen, f_law_draw, f_law_pick, f_law_text, f_law_spoiled, f_law_is_text, f_law_heard, f_law_is, f_law_right, f_law, k_law_right, t_law_right, k_law, t_law⟩ : Ad) := ⟨PySem.W.mg_of X G mg_Place, pg_Place, hd_Place, po_Place, sa_Place, mk_Place, kc_Place, sf_Place, ca_Place, cn_Place, ct_Place, cm_Place, ob_Place, ne_Place, rd_Place, ga_Place, np_Place, ic_Place, ty_Place, ⟨_, most_Place⟩, ra_Place, su_Place, suNoneType_Place, subool_Place, suint_Place, sulist_Place, sutuple_Place, sudict_Place, sustr_Place, PySem.W.mg_of X G mg_TableError, ga_TableError, gg_TableError, be_TableError, hd_TableError, ca_TableError, ob_TableError, ic_TableError, ty_TableError, PySem.W.mg_of X G mg_BadPlace, ga_BadPlace, gg_BadPlace, be_BadPlace, hd_BadPlace, ca_BadPlace, ob_BadPlace, ic_BadPlace, ty_BadPlace, ⟨⟨⟨_, _, _, _, _, _, _, _, _, _, _, _, _, _, _, xa_BadPlace_init, xb_BadPlace_init⟩, xc_BadPlace_init, xd_BadPlace_init, xe_BadPlace_init, xf_BadPlace_init⟩, xg_BadPlace_init, xh_BadPlace_init, xi_BadPlace_init, xj_BadPlace_init, xk_BadPlace_init, xl_BadPlace_init, xm_BadPlace_init, PySem.W.mg_none_of X G xn_BadPlace_init, xo_BadPlace_init, ⟨_, _, _, _, _, _, _, _, _, _, _, xp_BadPlace_init, xq_BadPlace_init, ⟨_, _, _, xr_BadPlace_init⟩, _, _, _, _, _, _, xs_BadPlace_init, xt_BadPlace_init, xu_BadPlace_init⟩, ⟨_, by decide +kernel, _, _, _, _, _, _, _, _, _, _, _, rfl, fun env => ⟨_, rfl⟩⟩, rfl, rfl, rfl, rfl, rfl, rfl, rfl, rfl, by decide +kernel, by decide +kernel, by decide +kernel, by decide, by decide, fun _ _ _ _ _ _ _ _ _ _ => rfl⟩, PySem.W.mg_of X G mg_is_name, fn_is_name, ⟨_, fun_mk (st := s_is_name) l_is_name cc_is_name kk_is_name⟩, kp_is_name, PySem.W.mg_of X G mg_is_text, fn_is_text, ⟨_, fun_mk (st := s_is_text) l_is_text cc_is_text kk_is_text⟩, kp_is_text, PySem.W.mg_of X G mg_names_in, fn_names_in, ⟨_, fun_mk (st := s_names_in) l_names_in cc_names_in kk_names_in⟩, kp_names_in, PySem.W.mg_of X G mg_text_of, fn_text_of, ⟨_, fun_mk (st := s_text_of) l_text_of cc_text_of kk_text_of⟩, kp_text_of, at_Place_init, fn_Place_init, ⟨_, fun_mk (st := s_Place_init) l_Place_init cc_Place_init kk_Place_init⟩, kp_Place_init, at_Place_read, ⟨_, rc_Place_read⟩, fi_Place_read, fn_Place_read, ⟨_, fun_mk (st := s_Place_read) l_Place_read cc_Place_read kk_Place_read⟩, kp_Place_read, at_Place_of, ⟨_, rc_Place_of⟩, fi_Place_of, fn_Place_of, ⟨_, fun_mk (st := s_Place_of) l_Place_of cc_Place_of kk_Place_of⟩, kp_Place_of, at_Place_names, ge_Place_names, tk_Place_names, ⟨_, rc_Place_names⟩, fn_Place_names, ⟨_, fun_mk (st := s_Place_names) l_Place_names cc_Place_names kk_Place_names⟩, kp_Place_names, at_Place_text, ge_Place_text, tk_Place_text, ⟨_, rc_Place_text⟩, fn_Place_text, ⟨_, fun_mk (st := s_Place_text) l_Place_text cc_Place_text kk_Place_text⟩, kp_Place_text, at_Place_contains, fn_Place_contains, ⟨_, fun_mk (st := s_Place_contains) l_Place_contains cc_Place_contains kk_Place_contains⟩, kp_Place_contains, at_Place_len, fn_Place_len, ⟨_, fun_mk (st := s_Place_len) l_Place_len cc_Place_len kk_Place_len⟩, kp_Place_len, at_Place_bool, fn_Place_bool, ⟨_, fun_mk (st := s_Place_bool) l_Place_bool cc_Place_bool kk_Place_bool⟩, kp_Place_bool, at_Place_str, fn_Place_str, ⟨_, fun_mk (st := s_Place_str) l_Place_str cc_Place_str kk_Place_str⟩, kp_Place_str, at_Place_repr, fn_Place_repr, ⟨_, fun_mk (st := s_Place_repr) l_Place_repr cc_Place_repr kk_Place_repr⟩, kp_Place_repr, at_Place_eq, fn_Place_eq, ⟨_, fun_mk (st := s_Place_eq) l_Place_eq cc_Place_eq kk_Place_eq⟩, kp_Place_eq, PySem.W.mg_of X G mg_law_pen, fn_law_pen, ⟨_, fun_mk (st := s_law_pen) l_law_pen cc_law_pen kk_law_pen⟩, kp_law_pen, PySem.W.mg_of X G mg_law_draw, fn_law_draw, ⟨_, fun_mk (st := s_law_draw) l_law_draw cc_law_draw kk_law_draw⟩, kp_law_draw, PySem.W.mg_of X G mg_law_pick, fn_law_pick, ⟨_, fun_mk (st := s_law_pick) l_law_pick cc_law_pick kk_law_pick⟩, kp_law_pick, PySem.W.mg_of X G mg_law_text, fn_law_text, ⟨_, fun_mk (st := s_law_text) l_law_text cc_law_text kk_law_text⟩, kp_law_text, PySem.W.mg_of X G mg_law_spoiled, fn_law_spoiled, ⟨_, fun_mk (st := s_law_spoiled) l_law_spoiled cc_law_spoiled kk_law_spoiled⟩, kp_law_spoiled, PySem.W.mg_of X G mg_law_is_text, fn_law_is_text, ⟨_, fun_mk (st := s_law_is_text) l_law_is_text cc_law_is_text kk_law_is_text⟩, kp_law_is_text, PySem.W.mg_of X G mg_law_heard, fn_law_heard, ⟨_, fun_mk (st := s_law_heard) l_law_heard cc_law_heard kk_law_heard⟩, kp_law_heard, PySem.W.mg_of X G mg_law_is, fn_law_is, ⟨_, fun_mk (st := s_law_is) l_law_is cc_law_is kk_law_is⟩, kp_law_is, PySem.W.mg_of X G mg_law_right, fn_law_right, ⟨_, fun_mk (st := s_law_right) l_law_right cc_law_right kk_law_right⟩, kp_law_right, PySem.W.mg_of X G mg_law, fn_law, ⟨_, fun_mk (st := s_law) l_law cc_law kk_law⟩, kp_law, ⟨_, _, _, _, _, _, _, _, lK_law_right, cK_law_right⟩, hC_law_right, nt_law_right, ⟨_, _, _, _, _, _, _, _, lK_law, cK_law⟩, hC_law, nt_law, nn_law_right_law, ⟨_, PySem.W.mg_of X G k_SIGNS⟩, ⟨_, PySem.W.mg_of X G k_LONGEST_NAME⟩, ⟨_, PySem.W.mg_of X G k_MOST_NAMES⟩, PySem.W.mg_none_of X G z_abs, PySem.W.mg_none_of X G z_all, PySem.W.mg_none_of X G z_bool, PySem.W.mg_none_of X G z_int, PySem.W.mg_none_of X G z_isinstance, PySem.W.mg_none_of X G z_len, PySem.W.mg_none_of X G z_list, PySem.W.mg_none_of X G z_range, PySem.W.mg_none_of X G z_repr, PySem.W.mg_none_of X G z_str, PySem.W.mg_none_of X G z_super, PySem.W.mg_none_of X G z_tuple, tb_BadPlace, nv_BadPlace⟩
end NK

namespace NK
open PySem PySem.Spec PyProof.Rows L2 NA TL
section
variable {P : Program} {w : World} {K : PySem.W.Frag} {mg : Str → Option Value} {base : Heap} {A : Ad}
def sp_is_name (K : PySem.W.Frag) : Sp := fun vs H Q _ => (∃ z : Str, vs = [.str z] ∧ z.length ≤ sizeLine ∧ ∀ H', Same H H' → Q (.bl (isNm z)) H') ∨
  ∃ x t, vs = [x] ∧ TyX K H x t ∧ PySem.W.kitOne K t (.type "str") = some false ∧ Q (.bl false) H
theorem ok_is_name (T : Tx P K mg A) : FnR P w K mg base CX0 1 A.f_is_name (sp_is_name K) := by
  obtain ⟨t1, k1⟩ := T.k_LONGEST_NAME
  obtain ⟨t2, k2⟩ := T.k_SIGNS
  refine fnr T.F_is_name sc_is_name (fun _ _ _ _ _ _ us hl => match us, hl with | [_], _ => rfl) (fun vs H Q E h => ?_) (fun cdv A' outer s H vs Q E hr h => ?_)
  · rcases h with ⟨z, rfl, _⟩ | ⟨x, t, rfl, _⟩ <;> rfl
  · refine ⟨_, pss_cons (ps_if (PW.pt (pw_or (pt_not (pt_val (pe_callB call_isi (by rfl) T.z_isinstance (by decide +kernel) (pa_cons (pv 0) (pa_cons (pe_bltn (v := .ty "str") (by rfl) T.z_str (by decide +kernel) rfl) pa_nil)))))
        (pw_or1 (pt_not (pt_chain op_le op_le pe_int (pe_callB call_len_str (by rfl) T.z_len PySem.boot_len (pa_cons (pv 0) pa_nil)) (pe_glob (v := .int 8) (by rfl) k1 ⟨_, rfl⟩))))))
        (pss_one (ps_ret pe_bl)) pss_nil)
      (pss_one (ps_ret (pe_callB (cr_all rfl) (by rfl) T.z_all (by decide +kernel) (pa_cons
        (pe_lc (own := [("sign", 1)]) (g := gName 1) (tt := tYes) rfl sc_is_name.nd (pi_str (pv 0)) (blkOk_by (N := ["value", "sign"]) (sc := defScope s_is_name) (by decide +kernel)) (fun _ _ _ _ _ => pg_name (i := 1) sc_is_name.nd rfl (Or.inl rfl)) (fun _ _ _ _ _ => pts_nil)
          (fun _ _ _ _ _ => pe_cmpR op_in_sign (pv 1) (pe_glob (v := .str sgn) (by rfl) k2 ⟨_, rfl⟩) rfl)) pa_nil)))), ?_⟩
    rcases h with ⟨z, rfl, hz, k⟩ | ⟨x, t, rfl, ty, kt, k⟩
    · refine ⟨_, rfl, .str z, .ty "str", .type "str", .type "str", true, rfl, .ty "str", .base (.str z), kit_self, true, rfl, iteF ?_⟩
      refine ⟨_, rfl, z, rfl, hz, 1, _, rfl, rfl, _, rfl, ?_⟩
      by_cases h1 : 1 ≤ z.length
      · rw [if_pos (decide_eq_true (by omega))]
        refine ⟨_, _, rfl, rfl, _, rfl, ?_⟩
        by_cases h8 : z.length ≤ 8
        · have e8 : decide ((z.length : Int) ≤ 8) = true := decide_eq_true (by omega)
          rw [e8]
          refine iteF ⟨_, rfl, z, rfl, fun D hD => ?_⟩
          refine lc_all walk_str (fun i v H' => v = .bl (decide ((z.cps.toList.getD i 0) ∈ sgn.cps.toList))) hD (fun _ _ _ _ _ _ _ h => h) (fun _ _ => trivial) (by show z.length < sizeLine; exact Nat.lt_of_le_of_lt h8 (by decide)) ?_ g_name_mono ?_
          · rintro i x H1 H2 hi s1 ⟨rfl, c, hc, rfl⟩
            refine ⟨Same.refl _, rfl, Same.refl _, fun Q' hQ => ⟨_, rfl, c, sgn, rfl, rfl, hQ _ _ (Same.refl _) ?_⟩⟩
            have e : z.cps.toList.getD i 0 = c := by
              rw [List.getD_eq_getElem?_getD, Array.getElem?_toList, hc] <;> rfl
            rw [e]
          · intro H1 ys s1 e1 hl hy
            have ey := list_fn hl hy
            have eb : ys = (z.cps.toList.map fun c => decide (c ∈ sgn.cps.toList)).map V.bl := by
              rw [ey, ← range_map z.cps.toList 0 (fun c => decide (c ∈ sgn.cps.toList)), List.map_map, Array.length_toList]; rfl
            rw [eb] at e1
            refine ⟨D, _, rfl, SqL.of e1, ?_⟩
            have e : isNm z = ((z.cps.toList.map fun c => decide (c ∈ sgn.cps.toList)).all id) := by
              unfold isNm
              rw [decide_eq_true h1, decide_eq_true h8, Bool.true_and, Bool.true_and, List.all_map]
              rfl
            rw [← e]
            exact k _ s1
        · have e8 : decide ((z.length : Int) ≤ 8) = false := decide_eq_false (by omega)
          have e : isNm z = false := by
            unfold isNm
            rw [decide_eq_false h8, Bool.and_false, Bool.false_and]
          rw [e8]
          rw [e] at k
          exact iteT (k H (Same.refl H))
      · have e1 : decide ((1 : Int) ≤ (z.length : Int)) = false := decide_eq_false (by omega)
        have e : isNm z = false := by
          unfold isNm
          rw [decide_eq_false h1, Bool.false_and, Bool.false_and]
        rw [e] at k
        rw [e1]
        exact iteF ⟨_, rfl, iteT (k H (Same.refl H))⟩
    · refine ⟨_, rfl, x, .ty "str", t, .type "str", false, rfl, .ty "str", ty, kt, false, rfl, ?_⟩
      exact iteT (iteT k)

def sp_names_in : Sp := fun vs H Q _ => ∃ z : Str, vs = [.str z] ∧ z.length ≤ 100000 ∧ ∀ p H', H p = none → Same H H' → H' p = some (.tup ((namesIn z).map V.str)) → Q (.ref p) H'
theorem ok_names_in (T : Tx P K mg A) : FnR P w K mg base CX0 1 A.f_names_in sp_names_in := by
  refine fnr T.F_names_in sc_names_in (fun _ _ _ _ _ _ us hl => match us, hl with | [_], _ => rfl) (fun vs H Q E h => ?_) (fun cdv A' outer s H vs Q E hr h => ?_)
  · obtain ⟨z, rfl, _⟩ := h; rfl
  · obtain ⟨z, rfl, hz, k⟩ := h
    refine ⟨_, pss_cons (ps_set (i := 1) sc_names_in.nd rfl (.inl rfl) (pe_lst pa_nil))
      (pss_cons (ps_par (i := 2) (j := 3) (by rfl) sc_names_in.nd rfl rfl (by decide) rfl rfl (pa_cons (pe_slice sl_str (pv 0) (po_some pe_int) po_none) (pa_cons (pe_ifExp (pt_cmpR op_ne (pv 0) pe_str (nomark _)) pe_str pe_str) pa_nil)) (by rfl))
      (pss_cons (ps_while PassesOwn.never (pt_cmpR op_eq (pv 3) pe_str (nomark _))
        (pss_cons (ps_asg (pe_partition (pv 2) pe_str) (pg_tup (by rfl) (pgs_cons (pg_name (i := 4) sc_names_in.nd rfl (.inl rfl)) (pgs_cons (pg_name (i := 3) sc_names_in.nd rfl (.inl rfl)) (pgs_cons (pg_name (i := 2) sc_names_in.nd rfl (.inl rfl)) pgs_nil)))))
        (pss_one (ps_expr (pe_bm PySem.F.plainAttrs_list PySem.F.slot_list_append PySem.F.type_list_append mt_append (pv 1) (pa_cons (pv 4) pa_nil))))))
      (pss_one (ps_ret (pe_callTy call_tuple_of (by rfl) T.z_tuple (by decide +kernel) (pa_cons (pv 1) pa_nil)))))), ?_⟩
    refine ⟨Nat.zero_le _, fun l hl => ?_⟩
    refine ⟨_, rfl, _, rfl, z, rfl, Nat.le_trans hz (by decide), _, rfl, rfl, _, rfl, ?_⟩
    have e1 : cutS z (some 1) none = Sx ((tl z).drop 1) := cut_from z 1
    refine ite_c ⟨_, _, rfl, ?_⟩
    have hd : ((tl z).drop 1).length ≤ 100000 := by
      have : z.length = (tl z).length := len_tl z
      rw [List.length_drop]; omega
    rw [e1]
    refine ⟨fun m σ H' => ∃ (acc : List Str) (r : List Nat) (s1 : Str) (nm : Option V), σ = [some (.str z), some (.ref l), some (.str (Sx r)), some (.str s1), nm] ∧ Same H H' ∧ H' l = some (.lst (acc.map V.str)) ∧ acc.length + r.length ≤ 100001 ∧ acc.length + m ≤ 100001 ∧
        ((s1 = "/" ∧ m = r.length + 1 ∧ acc ++ (spt r).map Sx = namesIn z) ∨ (s1 = "" ∧ m = 0 ∧ acc = namesIn z)), ?_, ?_⟩
    · by_cases hz1 : z = "/"
      · have e : decide (V.str z = V.str (Str.ofString "/")) = true := by simp [hz1]
        rw [e]
        exact ⟨0, [], _, "", none, rfl, Same.new hl, upd_same, by show 0 + _ ≤ _; omega, by show 0 + 0 ≤ _; omega, .inr ⟨rfl, rfl, by unfold namesIn; rw [if_pos hz1]⟩⟩
      · have e : decide (V.str z = V.str (Str.ofString "/")) = false := by simp [hz1]
        rw [e]
        exact ⟨_, [], _, "/", none, rfl, Same.new hl, upd_same, by show 0 + _ ≤ _; omega, by show 0 + _ ≤ _; omega, .inl ⟨rfl, rfl, by unfold namesIn; rw [if_neg hz1]; rfl⟩⟩
    · rintro m σ H' ⟨acc, r, s1, nm, rfl, sH, eL, hb, hm, hc⟩
      refine ⟨_, rfl, rfl, _, rfl, ?_⟩
      rcases hc with ⟨rfl, hm2, hc⟩ | ⟨rfl, hm2, hc⟩
      · refine iteT' (by simp) ⟨fun σ2 H2 => ∃ m', m' < m ∧ _, fun σ2 H2 h => h, ?_⟩
        have hr : (Sx r).length ≤ sizeLine := by rw [Sx_len]; exact sz (by omega)
        refine ⟨_, rfl, ⟨_, rfl⟩, _, _, rfl, rfl, by decide +kernel, hr, fun p hp => ?_⟩
        have npl : l ≠ p := ne_of_none eL hp
        have eLp : (upd H' p (HO.tup [V.str (Txt.partition (Sx r) "/").fst, V.str (Txt.partition (Sx r) "/").snd.fst, V.str (Txt.partition (Sx r) "/").snd.snd])) l = some (.lst (acc.map V.str)) := by rw [upd_ne npl]; exact eL
        refine ⟨p, _, rfl, SqT.of upd_same, rfl, _, _, rfl, _, _, rfl, _, _, rfl, rfl, ?_⟩
        refine ⟨_, rfl, .inl ⟨rfl, _, SqL.of eLp⟩, _, rfl, l, _, _, rfl, rfl, eLp, ?_, ?_⟩
        · rw [List.length_map]; exact szl (by omega)
        have sH2 := Same.mut (o := .lst (acc.map V.str ++ [V.str (Txt.partition (Sx r) "/").fst])) (sH.trans (Same.new (o := HO.tup [V.str (Txt.partition (Sx r) "/").fst, V.str (Txt.partition (Sx r) "/").snd.fst, V.str (Txt.partition (Sx r) "/").snd.snd]) hp)) hl
        by_cases h47 : 47 ∈ r
        · obtain ⟨a, b, rfl, ha⟩ := first_slash h47
          rw [part_some ha] at sH2 ⊢
          rw [spt_some ha] at hc
          refine ⟨b.length + 1, by rw [hm2]; simp; omega, acc ++ [Sx a], b, "/", _, rfl, sH2, ?_, ?_, ?_, .inl ⟨rfl, rfl, by rw [← hc]; simp⟩⟩
          · rw [upd_same, List.map_append]; rfl
          · simp at hb ⊢; omega
          · simp at hm2 hm ⊢; omega
        · rw [part_none h47] at sH2 ⊢
          rw [spt_none h47] at hc
          refine ⟨0, by omega, acc ++ [Sx r], [], Str.empty, _, rfl, sH2, ?_, ?_, ?_, .inr ⟨rfl, rfl, by rw [← hc]; rfl⟩⟩
          · rw [upd_same, List.map_append]; rfl
          · rw [List.length_append, List.length_singleton]; show _ + 0 ≤ _; omega
          · rw [List.length_append, List.length_singleton]; omega
      · refine iteF' (by decide +kernel) ?_
        rw [hc] at eL
        exact ⟨_, rfl, l, _, rfl, .inl ⟨SqL.of eL, fun p hp => k p _ (sH.free hp) (sH.trans (Same.new hp)) upd_same⟩⟩
end
end NK

namespace NK
open PySem PySem.Spec PyProof.Rows L2 NA TL
section
variable {P : Program} {w : World} {K : PySem.W.Frag} {mg : Str → Option Value} {base : Heap} {A : Ad}
def sp_text_of (K : PySem.W.Frag) : Sp := fun vs H Q _ => ∃ (p : Addr) (ns : List Str), vs = [.ref p] ∧ SqT K H p (ns.map V.str) ∧ Good ns ∧ Q (.str (txt ns)) H
theorem sum_len {ns : List Str} (h : ∀ n ∈ ns, n.length ≤ 8) : (ns.map (·.length)).sum ≤ 8 * ns.length := by
  induction ns with
  | nil => simp
  | cons a l ih =>
    have h1 := h a (by simp)
    have h2 := ih fun n hn => h n (List.mem_cons_of_mem _ hn)
    simp only [List.map_cons, List.sum_cons, List.length_cons]
    omega
theorem slash_len : ("/" : Str).length = 1 := by decide +kernel
theorem Good.len8 {ns : List Str} (h : Good ns) : ∀ n ∈ ns, n.length ≤ 8 := fun n hn => (isNm_iff.mp (h.2 n hn)).2.1
theorem join_len {ns : List Str} (h : Good ns) : (Txt.join "/" ns).length ≤ 72 := by
  have := txt_len h
  unfold txt at this
  rw [len_tl, tl_append, List.length_append, slash_tl] at this
  rw [len_tl]
  simp at this ⊢
  omega
theorem ok_text_of (T : Tx P K mg A) : FnR P w K mg base CX0 1 A.f_text_of (sp_text_of K) := by
  refine fnr T.F_text_of sc_text_of (fun _ _ _ _ _ _ us hl => match us, hl with | [_], _ => rfl) (fun vs H Q E h => ?_) (fun cdv A' outer s H vs Q E hr h => ?_)
  · obtain ⟨p, ns, rfl, _⟩ := h; rfl
  · obtain ⟨p, ns, rfl, hp, g, k⟩ := h
    refine ⟨_, pss_one (ps_ret (pe_op op_add_str pe_str (pe_join pe_str (pv 0)))), ?_⟩
    have h1 := sum_len g.len8
    have h2 := g.1
    have h3 := join_len g
    exact ⟨⟨_, rfl⟩, _, rfl, _, p, ns, rfl, rfl, .inr hp, by rw [slash_len]; omega, _, _, rfl, rfl, by rw [slash_len]; exact sz (by omega), k⟩
def sp_is_text (K : PySem.W.Frag) : Sp := fun vs H Q _ => (∃ z : Str, vs = [.str z] ∧ z.length ≤ 100000 ∧ ∀ H', Same H H' → Q (.bl (isTx z)) H') ∨
  ∃ x t, vs = [x] ∧ TyX K H x t ∧ PySem.W.kitOne K t (.type "str") = some false ∧ Q (.bl false) H
theorem spt_len : ∀ r : List Nat, (spt r).length ≤ r.length + 1
  | [] => by simp [spt]
  | c :: r => by
    have := spt_len r
    unfold spt
    split
    · simp; omega
    · split
      · simp
      · rename_i e; rw [e] at this; simp at this ⊢; omega
theorem spt_item : ∀ (r : List Nat), ∀ p ∈ spt r, p.length ≤ r.length
  | [], p, h => by simp [spt] at h; simp [h]
  | c :: r, p, h => by
    have ih := spt_item r
    unfold spt at h
    split at h
    · rcases List.mem_cons.mp h with e | e
      · simp [e]
      · have := ih p e; simp; omega
    · split at h
      · simp at h; simp [h]
      · rename_i e
        rw [e] at ih
        rcases List.mem_cons.mp h with e | e
        · have := ih _ (List.mem_cons_self ..); simp [e]; omega
        · have := ih p (List.mem_cons_of_mem _ e); simp; omega
theorem names_len {z : Str} (hz : z.length ≤ 100000) : (namesIn z).length ≤ 100001 ∧ ∀ n ∈ namesIn z, n.length ≤ 100000 := by
  unfold namesIn
  split
  · simp
  · have h1 : ((tl z).drop 1).length ≤ 100000 := by
      have := len_tl z
      rw [List.length_drop]; omega
    have h2 := spt_len ((tl z).drop 1)
    rw [List.length_map]
    refine ⟨by omega, fun n hn => ?_⟩
    obtain ⟨p, hp, rfl⟩ := List.mem_map.mp hn
    have := spt_item _ p hp
    rw [Sx_len]; omega
theorem ok_is_text (T : Tx P K mg A) : FnR P w K mg base CX0 2 A.f_is_text (sp_is_text K) := by
  obtain ⟨t1, k1⟩ := T.k_MOST_NAMES
  refine fnr T.F_is_text sc_is_text (fun _ _ _ _ _ _ us hl => match us, hl with | [_], _ => rfl) (fun vs H Q E h => ?_) (fun cdv A' outer s H vs Q E hr h => ?_)
  · rcases h with ⟨z, rfl, _⟩ | ⟨x, t, rfl, _⟩ <;> rfl
  · refine ⟨_, pss_cons (ps_if (PW.pt (pw_or (pt_not (pt_val (pe_callB call_isi (by rfl) T.z_isinstance (by decide +kernel) (pa_cons (pv 0) (pa_cons (pe_bltn (v := .ty "str") (by rfl) T.z_str (by decide +kernel) rfl) pa_nil)))))
        (pw_or1 (pt_cmpR op_ne (pe_slice sl_str (pv 0) po_none (po_some pe_int)) pe_str (nomark _)))))
        (pss_one (ps_ret pe_bl)) pss_nil)
      (pss_cons (ps_set (i := 1) sc_is_text.nd rfl (.inl rfl) (pe_cl (ok_names_in T) hr (by rfl) T.mg_names_in T.kp_names_in pass0 (pa_cons (pv 0) pa_nil)))
      (pss_one (ps_ret (pe_and (pe_cmpR op_le (pe_callB call_len_seq (by rfl) T.z_len PySem.boot_len (pa_cons (pv 1) pa_nil)) (pe_glob (v := .int 8) (by rfl) k1 ⟨_, rfl⟩) (nomark _)) (pe_one (pe_callB (cr_all rfl) (by rfl) T.z_all (by decide +kernel) (pa_cons
        (pe_lc (own := [("name", 2)]) (g := gName 2) (tt := tYes) rfl sc_is_text.nd (pi_tup (pv 1)) (blkOk_by (N := ["value", "names", "name"]) (sc := defScope s_is_text) (by decide +kernel)) (fun _ _ _ _ _ => pg_name (i := 2) sc_is_text.nd rfl (Or.inl rfl)) (fun _ _ _ _ _ => pts_nil)
          (fun _ _ _ _ _ => pe_cl (ok_is_name T) hr (by rfl) T.mg_is_name T.kp_is_name pass0 (pa_cons (pv 2) pa_nil))) pa_nil))))))), ?_⟩
    rcases h with ⟨z, rfl, hz, k⟩ | ⟨x, t, rfl, ty, kt, k⟩
    · refine ⟨_, rfl, .str z, .ty "str", .type "str", .type "str", true, rfl, .ty "str", .base (.str z), kit_self, true, rfl, iteF ?_⟩
      refine ⟨_, rfl, _, rfl, z, rfl, sz (by omega), rfl, _, rfl, ?_⟩
      have ec : cutS z none (some 1) = Sx ((tl z).take 1) := cut_to z 1
      have e0 : decide (V.str (cutS z none (some 1)) = V.str "/") = decide ((tl z).take 1 = [47]) := by
        rw [ec, Bool.eq_iff_iff, decide_eq_true_eq, decide_eq_true_eq]
        constructor
        · intro h
          have h2 : Sx ((tl z).take 1) = "/" := by injection h
          have := congrArg tl h2
          rw [slash_tl] at this
          exact this
        · intro h; rw [h, slash_Sx]
      show if (!decide (V.str (cutS z none (some 1)) = V.str "/")) = true then _ else _
      rw [e0]
      have hk : isTx z = (decide ((tl z).take 1 = [47]) && decide ((namesIn z).length ≤ 8) && (namesIn z).all isNm) := rfl
      cases h0 : decide ((tl z).take 1 = [47]) with
      | false =>
        rw [h0, Bool.false_and, Bool.false_and] at hk
        rw [hk] at k
        exact iteT (k H (Same.refl H))
      | true =>
        rw [h0, Bool.true_and] at hk
        refine iteF ⟨_, rfl, z, rfl, hz, fun p H1 hp s1 e1 => ?_⟩
        refine ⟨_, rfl, p, _, rfl, .inr (SqT.of e1), _, _, rfl, rfl, _, rfl, ?_⟩
        have hl := names_len hz
        have el : decide ((((namesIn z).map V.str).length : Int) ≤ 8) = decide ((namesIn z).length ≤ 8) := by
          rw [List.length_map, Bool.eq_iff_iff, decide_eq_true_eq, decide_eq_true_eq]; omega
        show if decide ((((namesIn z).map V.str).length : Int) ≤ 8) = true then _ else _
        rw [el]
        cases h1 : decide ((namesIn z).length ≤ 8) with
        | false =>
          rw [h1, Bool.false_and] at hk
          rw [hk] at k
          exact iteF (k H1 s1)
        | true =>
          rw [h1, Bool.true_and] at hk
          refine iteT ⟨_, rfl, p, rfl, ⟨_, SqT.of e1⟩, fun D hD => ?_⟩
          refine lc_all (walk_tup (K := K) (a := p) (xs := (namesIn z).map V.str)) (fun i v H' => v = .bl (isNm ((namesIn z).getD i ""))) hD (fun _ _ _ _ _ _ _ h => h) (fun H' s' => SqT.of (s' _ _ e1)) (by rw [List.length_map]; exact szl (by omega)) ?_ g_name_mono ?_
          · rintro i x H2 H3 hi s2 ⟨rfl, hx⟩
            rw [List.getElem?_map] at hx
            obtain ⟨n, hn, rfl⟩ := Option.map_eq_some_iff.mp hx
            refine ⟨Same.refl _, rfl, Same.refl _, fun Q' hQ => ⟨_, rfl, .inl ⟨n, rfl, sz (by have := hl.2 n (List.mem_of_getElem? hn); omega), fun H4 s4 => hQ _ _ s4 ?_⟩⟩⟩
            rw [List.getD_eq_getElem?_getD, hn] <;> rfl
          · intro H2 ys s2 e2 hy1 hy2
            rw [List.length_map] at hy1
            have ey := list_fn hy1 hy2
            have eb : ys = ((namesIn z).map isNm).map V.bl := by
              rw [ey, ← range_map (namesIn z) "" isNm, List.map_map]; rfl
            rw [eb] at e2
            refine ⟨D, _, rfl, SqL.of e2, ?_⟩
            have e : isTx z = ((namesIn z).map isNm).all id := by rw [hk, List.all_map]; rfl
            rw [← e]
            exact k _ (s1.trans s2)
    · exact ⟨_, rfl, x, .ty "str", t, .type "str", false, rfl, .ty "str", ty, kt, false, rfl, iteT (iteT k)⟩
end
end NK

namespace NK
open PySem PySem.Spec PyProof.Rows L2 NA TL
/-- a place: an instance whose parts are a tuple of good names -/
def Pl (A : Ad) (H : Hp) (a : Addr) (ns : List Str) : Prop := Good ns ∧ ∃ dx t, H a = some (.ins A.c_Place dx [("parts", .ref t)]) ∧ H t = some (.tup (ns.map V.str))
theorem Pl.same {A : Ad} {H H' : Hp} {a : Addr} {ns : List Str} (h : Pl A H a ns) (e : Same H H') : Pl A H' a ns :=
  let ⟨g, dx, t, h1, h2⟩ := h
  ⟨g, dx, t, e _ _ h1, e _ _ h2⟩
theorem Pl.sam {A : Ad} {H H' : Hp} {a p : Addr} {ns : List Str} {xs : List V} (h : Pl A H a ns) (hp : H p = some (.lst xs)) (e : Sam p H H') : Pl A H' a ns :=
  let ⟨g, dx, t, h1, h2⟩ := h
  ⟨g, dx, t, e _ _ (ne_of h1 hp (by intro z; cases z)) h1, e _ _ (ne_of h2 hp (by intro z; cases z)) h2⟩
theorem Pl.inj {A : Ad} {H : Hp} {a : Addr} {ns ms : List Str} (h : Pl A H a ns) (h' : Pl A H a ms) : ns = ms := by
  obtain ⟨_, dx, t, h1, h2⟩ := h
  obtain ⟨_, dy, u, h3, h4⟩ := h'
  rw [h1] at h3
  injection h3 with h3
  injection h3 with _ _ h3
  injection h3 with h3 _
  injection h3 with _ h3
  injection h3 with h3
  subst h3
  rw [h2] at h4
  injection h4 with h4
  injection h4 with h4
  exact (List.map_inj_right (fun a b h => by injection h)).mp h4
theorem lkp (t : Addr) : (([("parts", V.ref t)] : List (Str × V)).lookup ("parts" : Str)) = some (.ref t) := by
  simp [List.lookup]
section
variable {P : Program} {w : World} {K : PySem.W.Frag} {mg : Str → Option Value} {base : Heap} {A : Ad}
theorem Tx.cl (T : Tx P K mg A) : Cls K A.c_Place := ⟨T.pg_Place, T.hd_Place, T.po_Place, T.sa_Place⟩
theorem Tx.np (T : Tx P K mg A) : NoAttr K A.c_Place "parts" := T.np_Place
theorem Tx.mkP (T : Tx P K mg A) : Mk K A.c_Place A.f_Place_init := ⟨T.mk_Place, T.at_Place_init, T.fn_Place_init, T.kc_Place⟩
theorem Tx.rdP (T : Tx P K mg A) : ClX.CRead K A.c_Place (.type "type") := ⟨T.rd_Place, T.ga_Place⟩
theorem Tx.tyP (T : Tx P K mg A) {H : Hp} {a dx : Addr} {fs : List (Str × V)} (h : H a = some (.ins A.c_Place dx fs)) : TyX K H (.ref a) (.ref A.c_Place) := .base (.ins h T.cl T.ca_Place T.cn_Place T.ct_Place T.cm_Place)
theorem Tx.kSC (T : Tx P K mg A) : PySem.W.kitOne K (.type "str") (.ref A.c_Place) = some false := kit_sub rfl T.ic_Place T.ty_Place T.su_Place
def sp_init (A : Ad) : Sp := fun vs H Q _ => ∃ (x dx : Addr) (ns : List Str), vs = .ref x :: ns.map V.str ∧ H x = some (.ins A.c_Place dx []) ∧ Good ns ∧
  ∀ (H' : Hp) (t : Addr), (∀ b o, b ≠ x → H b = some o → H' b = some o) → H t = none → H' x = some (.ins A.c_Place dx [("parts", .ref t)]) → H' t = some (.tup (ns.map V.str)) → Q .non H'
theorem ok_init (T : Tx P K mg A) : FnR P w K mg base CX0 2 A.f_Place_init (sp_init A) := by
  obtain ⟨t1, k1⟩ := T.most_Place
  refine (fnr_star (ps := ["self"]) (pv := "names") (sp := fun vs H Q _ => ∃ (x dx t : Addr) (ns : List Str), vs = [.ref x, .ref t] ∧ H x = some (.ins A.c_Place dx []) ∧ H t = some (.tup (ns.map V.str)) ∧ Good ns ∧
      ∀ H' : Hp, (∀ b o, b ≠ x → H b = some o → H' b = some o) → H' x = some (.ins A.c_Place dx [("parts", .ref t)]) → Q .non H')
    T.F_Place_init sc_Place_init (fun kV doc pm an cdv ct => StX.bind_star1 (B := fun us => bindArgs (PySem.W.fnOf "__init__" "Place.__init__" (defArgs s_Place_init) (defBody s_Place_init) (defScope s_Place_init) .none kV doc pm an cdv ct) ⟨us, []⟩) (fun a => rfl) (fun a r rs => rfl)) (fun cdv A' outer s H vs Q E hr h => ?_)).imp fun vs H Q E h => ?_
  · obtain ⟨x, dx, t, ns, rfl, hx, ht, g, k⟩ := h
    refine ⟨_, pss_cons (ps_for PassesOwn.never rfl (pi_tup (pv 1)) (pg_name (i := 2) sc_Place_init.nd rfl (.inl rfl))
        (pss_one (ps_if (pt_not (pt_val (pe_cl (ok_is_name T) hr (by rfl) T.mg_is_name T.kp_is_name pass0 (pa_cons (pv 2) pa_nil)))) (pss_one ps_never) pss_nil)))
      (pss_cons (ps_if (pt_cmpR op_gt (pe_callB call_len_seq (by rfl) T.z_len PySem.boot_len (pa_cons (pv 1) pa_nil)) (ClX.pe_cval (pe_glob (v := .ref A.c_Place) (by rfl) T.mg_Place rfl)) (nomark _)) (pss_one ps_never) pss_nil)
      (pss_one (ps_fld (pv 0) (pe_callTy call_tuple_of (by rfl) T.z_tuple (by decide +kernel) (pa_cons (pv 1) pa_nil)) rfl))), ?_⟩
    refine ⟨_, rfl, t, rfl, ⟨_, SqT.of ht⟩, for_tup (K := K) (a := t) (xs := ns.map V.str) (fun i σ H' => Same H H' ∧ ∃ v, σ = [some (.ref x), some (.ref t), v]) ⟨Same.refl H, none, rfl⟩ (fun i σ H' _ p => SqT.of (p.1 _ _ ht)) ?_ ?_⟩
    · rintro i y σ H' hy ⟨s1, v, rfl⟩
      rw [List.getElem?_map] at hy
      obtain ⟨n, hn, rfl⟩ := Option.map_eq_some_iff.mp hy
      have hm := List.mem_of_getElem? hn
      refine ⟨_, rfl, .inl ⟨n, rfl, sz (by have := g.len8 n hm; omega), fun H2 s2 => ⟨_, rfl, iteF' (by rw [g.2 n hm]; rfl) ⟨s1.trans s2, _, rfl⟩⟩⟩⟩
    · rintro σ H' ⟨s1, v, rfl⟩
      refine ⟨_, rfl, t, _, rfl, .inr (SqT.of (s1 _ _ ht)), A.c_Place, .type "type", .int 8, _, rfl, T.rdP, ⟨k1, ⟨_, rfl⟩⟩, _, _, rfl, rfl, _, rfl, iteF' (decide_eq_false (by rw [List.length_map]; have := g.1; omega)) ?_⟩
      refine ⟨_, rfl, t, _, rfl, .inr ⟨SqT.of (s1 _ _ ht), _, rfl, x, A.c_Place, dx, [], rfl, s1 _ _ hx, T.cl, T.np, by show 0 < 1000; decide, ?_⟩⟩
      refine k _ (fun b o n e => ?_) ?_
      · rw [upd_ne n]; exact s1 _ _ e
      · rw [upd_same]; rfl
  · obtain ⟨x, dx, ns, rfl, hx, g, k⟩ := h
    refine ⟨[.ref x], ns.map V.str, rfl, rfl, by rw [List.length_map]; exact sz (by have := g.1; omega), fun p hp => ?_⟩
    have npx : x ≠ p := ne_of_none hx hp
    refine ⟨x, dx, p, ns, rfl, by rw [upd_ne npx]; exact hx, upd_same, g, fun H' h1 h2 => k H' p (fun b o n e => h1 b o n (by rw [upd_ne (ne_of_none e hp)]; exact e)) hp h2 (h1 _ _ npx.symm upd_same)⟩
/-- C(*names) -/
theorem mk_pl {H1 : Hp} {ns : List Str} {Q : VK} {E : XK} (g : Good ns) (k : ∀ x H2, H1 x = none → Same H1 H2 → Pl A H2 x ns → Q (.ref x) H2) :
    ∀ x dx, H1 x = Option.none → H1 dx = Option.none → dx ≠ x → sp_init A (V.ref x :: ns.map V.str) (upd (upd H1 dx (.own x)) x (.ins A.c_Place dx [])) (fun v H2 => v = .non ∧ Q (.ref x) H2) E := by
  intro x dx hx hd hne
  refine ⟨x, dx, ns, rfl, upd_same, g, fun H' t h1 h2 h3 h4 => ⟨rfl, k x H' hx (fun b o e => h1 b o (ne_of_none e hx) ?_) ⟨g, dx, t, h3, h4⟩⟩⟩
  rw [upd_ne (ne_of_none e hx), upd_ne (ne_of_none e hd)]
  exact e
end
end NK

namespace NK
open PySem PySem.Spec PyProof.Rows L2 NA TL
section
variable {P : Program} {w : World} {K : PySem.W.Frag} {mg : Str → Option Value} {base : Heap} {A : Ad}
/-- a place is made and handed back -/
def RetP (A : Ad) (H : Hp) (ns : List Str) (Q : VK) : Prop := ∀ x H', H x = none → Same H H' → Pl A H' x ns → Q (.ref x) H'
theorem RetP.up {H H1 : Hp} {ns : List Str} {Q : VK} (k : RetP A H ns Q) (e : Same H H1) : RetP A H1 ns Q := fun x H' hx e2 h => k x H' (e.free hx) (e.trans e2) h
/-- Place(*names) of a tuple that stands -/
theorem mk_plT {H : Hp} {p : Addr} {ns : List Str} {Q : VK} {E : XK} (g : Good ns) (h : SqT K H p (ns.map V.str)) (k : RetP A H ns Q) :
    ∃ a xs, V.ref p = V.ref a ∧ (SqT K H a xs ∨ SqL K H a xs) ∧ ∀ x dx, H x = Option.none → H dx = Option.none → dx ≠ x →
      sp_init A (V.ref x :: xs) (upd (upd H dx (.own x)) x (.ins A.c_Place dx [])) (fun v H2 => v = .non ∧ Q (.ref x) H2) E :=
  ⟨p, _, rfl, .inl h, mk_pl g k⟩
def sp_names (A : Ad) : Sp := fun vs H Q _ => ∃ a ns, vs = [.ref a] ∧ Pl A H a ns ∧ ∀ t, H t = some (.tup (ns.map V.str)) → Q (.ref t) H
theorem ok_names (T : Tx P K mg A) : FnR P w K mg base CX0 1 A.f_Place_names (sp_names A) := by
  refine fnr T.F_Place_names sc_Place_names (fun _ _ _ _ _ _ us hl => match us, hl with | [_], _ => rfl) (fun vs H Q E h => ?_) (fun cdv A' outer s H vs Q E hr h => ?_)
  · obtain ⟨a, ns, rfl, _⟩ := h; rfl
  · obtain ⟨a, ns, rfl, ⟨g, dx, t, h1, h2⟩, k⟩ := h
    exact ⟨_, pss_one (ps_ret (pe_fld (pv 0) rfl)), ⟨_, rfl, a, _, dx, _, _, rfl, h1, T.cl, T.np, lkp t, k t h2⟩⟩
def sp_text (A : Ad) : Sp := fun vs H Q _ => ∃ a ns, vs = [.ref a] ∧ Pl A H a ns ∧ Q (.str (txt ns)) H
theorem ok_text (T : Tx P K mg A) : FnR P w K mg base CX0 2 A.f_Place_text (sp_text A) := by
  refine fnr T.F_Place_text sc_Place_text (fun _ _ _ _ _ _ us hl => match us, hl with | [_], _ => rfl) (fun vs H Q E h => ?_) (fun cdv A' outer s H vs Q E hr h => ?_)
  · obtain ⟨a, ns, rfl, _⟩ := h; rfl
  · obtain ⟨a, ns, rfl, ⟨g, dx, t, h1, h2⟩, k⟩ := h
    exact ⟨_, pss_one (ps_ret (pe_cl (ok_text_of T) hr (by rfl) T.mg_text_of T.kp_text_of pass0 (pa_cons (pe_fld (pv 0) rfl) pa_nil))), ⟨_, rfl, a, _, dx, _, _, rfl, h1, T.cl, T.np, lkp t, t, ns, rfl, SqT.of h2, g, k⟩⟩
end
end NK

namespace NK
open PySem PySem.Spec PyProof.Rows L2 NA TL
section
variable {P : Program} {w : World} {K : PySem.W.Frag} {mg : Str → Option Value} {base : Heap} {A : Ad}
def sp_len (A : Ad) : Sp := fun vs H Q _ => ∃ a ns, vs = [.ref a] ∧ Pl A H a ns ∧ Q (.int ns.length) H
theorem ok_len (T : Tx P K mg A) : FnR P w K mg base CX0 1 A.f_Place_len (sp_len A) := by
  refine fnr T.F_Place_len sc_Place_len (fun _ _ _ _ _ _ us hl => match us, hl with | [_], _ => rfl) (fun vs H Q E h => ?_) (fun cdv A' outer s H vs Q E hr h => ?_)
  · obtain ⟨a, ns, rfl, _⟩ := h; rfl
  · obtain ⟨a, ns, rfl, ⟨g, dx, t, h1, h2⟩, k⟩ := h
    refine ⟨_, pss_one (ps_ret (pe_callB call_len_seq (by rfl) T.z_len PySem.boot_len (pa_cons (pe_fld (pv 0) rfl) pa_nil))), ⟨_, rfl, a, _, dx, _, _, rfl, h1, T.cl, T.np, lkp t, t, _, rfl, .inr (SqT.of h2), ?_⟩⟩
    rw [List.length_map]; exact k
def sp_bool (A : Ad) : Sp := fun vs H Q _ => ∃ a ns, vs = [.ref a] ∧ Pl A H a ns ∧ ∀ H', Same H H' → Q (.bl (!decide (ns = []))) H'
theorem ok_bool (T : Tx P K mg A) : FnR P w K mg base CX0 1 A.f_Place_bool (sp_bool A) := by
  refine fnr T.F_Place_bool sc_Place_bool (fun _ _ _ _ _ _ us hl => match us, hl with | [_], _ => rfl) (fun vs H Q E h => ?_) (fun cdv A' outer s H vs Q E hr h => ?_)
  · obtain ⟨a, ns, rfl, _⟩ := h; rfl
  · obtain ⟨a, ns, rfl, ⟨g, dx, t, h1, h2⟩, k⟩ := h
    refine ⟨_, pss_one (ps_ret (pe_callTy call_bool1 (by rfl) T.z_bool (by decide +kernel) (pa_cons (pe_cmpR (op_neD hr.units) (pe_fld (pv 0) rfl) (pe_tup pa_nil) (nomark _)) pa_nil))), ⟨_, rfl, a, _, dx, _, _, rfl, h1, T.cl, T.np, lkp t, Nat.zero_le _, fun p hp => ?_⟩⟩
    have s1 := Same.new (o := .tup []) hp
    exact c_neT (ns := ns) (ms := []) g.oks (fun _ h => nomatch h) (SqT.of (s1 _ _ h2)) (SqT.of upd_same) (.inr ⟨_, rfl, k _ s1⟩)
def sp_eq (A : Ad) : Sp := fun vs H Q _ => ∃ a b ns ms, vs = [.ref a, .ref b] ∧ Pl A H a ns ∧ Pl A H b ms ∧ Q (.bl (decide (ns = ms))) H
theorem ok_eq (T : Tx P K mg A) : FnR P w K mg base CX0 1 A.f_Place_eq (sp_eq A) := by
  refine fnr T.F_Place_eq sc_Place_eq (fun _ _ _ _ _ _ us hl => match us, hl with | [_, _], _ => rfl) (fun vs H Q E h => ?_) (fun cdv A' outer s H vs Q E hr h => ?_)
  · obtain ⟨a, b, ns, ms, rfl, _⟩ := h; rfl
  · obtain ⟨a, b, ns, ms, rfl, ⟨g, dx, t, h1, h2⟩, ⟨g', dy, u, h3, h4⟩, k⟩ := h
    refine ⟨_, pss_one (ps_ret (pe_and (pe_callB call_isi (by rfl) T.z_isinstance (by decide +kernel) (pa_cons (pv 1) (pa_cons (pe_glob (v := .ref A.c_Place) (by rfl) T.mg_Place rfl) pa_nil)))
      (pe_one (pe_cmpR (op_eqD hr.units) (pe_fld (pv 0) rfl) (pe_fld (pv 1) rfl) (nomark _))))), ?_⟩
    exact ⟨_, rfl, .ref b, .ref A.c_Place, .ref A.c_Place, .ref A.c_Place, true, rfl, .own _, T.tyP h3, kit_self, true, rfl, iteT ⟨_, rfl, a, _, dx, _, _, rfl, h1, T.cl, T.np, lkp t, _, rfl, b, _, dy, _, _, rfl, h3, T.cl, T.np, lkp u, c_eqT g.oks g'.oks (SqT.of h2) (SqT.of h4) k⟩⟩
end
end NK

namespace NK
open PySem PySem.Spec PyProof.Rows L2 NA TL
/-- the law's pen: the script's numbers, how many were drawn (at most b more may be), what is left of a great one -/
def Pen (L : Addr) (H : Hp) (pn : Addr) (b : Nat) : Prop := ∃ (ns : List Int) (at_ rest : Int), H pn = some (.lst [.ref L, .int at_, .int rest]) ∧ H L = some (.lst (ns.map V.int)) ∧ L ≠ pn ∧ ns.length ≤ 63 ∧ 0 ≤ at_ ∧ at_ + b ≤ 1000000
theorem Pen.same {L : Addr} {H H' : Hp} {pn : Addr} {b : Nat} (h : Pen L H pn b) (e : Same H H') : Pen L H' pn b := by
  obtain ⟨ns, a, r, h1, h2, h3⟩ := h
  exact ⟨ns, a, r, e _ _ h1, e _ _ h2, h3⟩
theorem Pen.less {L : Addr} {H : Hp} {pn : Addr} {b c : Nat} (h : Pen L H pn b) (hc : c ≤ b) : Pen L H pn c := by
  obtain ⟨ns, a, r, h1, h2, h3, h4, h5, h6⟩ := h
  exact ⟨ns, a, r, h1, h2, h3, h4, h5, by omega⟩
theorem Pen.lst {L : Addr} {H : Hp} {pn : Addr} {b : Nat} (h : Pen L H pn b) : ∃ xs, H pn = some (.lst xs) := by
  obtain ⟨ns, a, r, h1, _⟩ := h
  exact ⟨_, h1⟩
theorem Pen.ints {L : Addr} {H : Hp} {pn : Addr} {b : Nat} (h : Pen L H pn b) : ∃ xs, H L = some (.lst xs) := by
  obtain ⟨ns, a, r, h1, h2, _⟩ := h
  exact ⟨_, h2⟩
theorem Pen.mut {L : Addr} {H : Hp} {pn D : Addr} {b : Nat} {o : HO} (h : Pen L H pn b) (h1 : D ≠ pn) (h2 : D ≠ L) : Pen L (upd H D o) pn b := by
  obtain ⟨ns, a, r, g1, g2, g3⟩ := h
  exact ⟨ns, a, r, by rw [upd_ne (Ne.symm h1)]; exact g1, by rw [upd_ne (Ne.symm h2)]; exact g2, g3⟩
theorem eqvAll_nil : ∀ ns : List Int, PyData.eqvAll (ns.map PyData.int) [] = ns.isEmpty
  | [] => by simp [PyData.eqvAll]
  | _ :: _ => by simp [PyData.eqvAll]
theorem dp_ints {K : PySem.W.Frag} {H : Hp} : ∀ ns : List Int, DpAll K H (ns.map V.int) (ns.map PyData.int)
  | [] => .nil
  | a :: as => .cons (.int a) (dp_ints as)
theorem canLay_ints : ∀ ns : List Int, PyData.canLayAll0 (ns.map PyData.int) = true
  | [] => by simp [PyData.canLayAll0]
  | a :: as => by simp only [List.map_cons, PyData.canLayAll0, PyData.canLay0, canLay_ints as, Bool.and_self]
theorem depth_ints : ∀ ns : List Int, PyData.depthAll (ns.map PyData.int) ≤ 1
  | [] => by simp [PyData.depthAll]
  | a :: as => by
    have := depth_ints as
    simp only [List.map_cons, PyData.depthAll, PyData.depth]
    omega
theorem shaped_ints (ns : List Int) : SeqAt.shaped (.list (ns.map PyData.int)) = true := by
  unfold SeqAt.shaped
  have := depth_ints ns
  rw [Bool.and_eq_true]
  exact ⟨by rw [PyData.canLay0]; exact canLay_ints ns, decide_eq_true (by rw [PyData.depth]; omega)⟩
/-- xs != [] -/
theorem c_neL {K : PySem.W.Frag} {H : Hp} {l q : Addr} {ns : List Int} {Q : VK} (h : SqL K H l (ns.map V.int)) (hq : SqL K H q []) (k : Q (.bl (!ns.isEmpty)) H) : rNeD K (.ref l) (.ref q) H Q :=
  ⟨_, .list (([] : List Int).map PyData.int), .lst h (dp_ints ns), .lst hq .nil, shaped_ints ns, shaped_ints [], by
    have e : PyData.eqv (.list (ns.map PyData.int)) (.list (([] : List Int).map PyData.int)) = ns.isEmpty := by rw [PyData.eqv]; exact eqvAll_nil ns
    rw [e]; exact k⟩
section
variable {P : Program} {w : World} {K : PySem.W.Frag} {mg : Str → Option Value} {base : Heap} {A : Ad}
def sp_pen (K : PySem.W.Frag) : Sp := fun vs H Q _ => ∃ (a : Addr) (ns : List Int), vs = [.ref a] ∧ SqL K H a (ns.map V.int) ∧ ∀ pn L H', H pn = none → Same H H' → Pen L H' pn 1000000 → Q (.ref pn) H'
theorem ok_pen (T : Tx P K mg A) : FnR P w K mg base CX0 1 A.f_law_pen (sp_pen K) := by
  refine fnr T.F_law_pen sc_law_pen (fun _ _ _ _ _ _ us hl => match us, hl with | [_], _ => rfl) (fun vs H Q E h => ?_) (fun cdv A' outer s H vs Q E hr h => ?_)
  · obtain ⟨a, ns, rfl, _⟩ := h; rfl
  · obtain ⟨a, ns, rfl, hS, k⟩ := h
    refine ⟨_, pss_one (ps_ret (pe_lst (pa_cons (pe_callTy call_list_of (by rfl) T.z_list (by decide +kernel) (pa_cons (pe_slice sl_list (pv 0) po_none (po_some pe_int)) pa_nil)) (pa_cons pe_int (pa_cons pe_int pa_nil))))), ?_⟩
    refine ⟨_, rfl, _, rfl, a, _, rfl, hS, fun p hp => ?_⟩
    refine ⟨p, _, rfl, .inl (SqL.of upd_same), fun l hl => ⟨sz (by show 3 ≤ 1000000; omega), fun pn hpn => ?_⟩⟩
    have e : cutV (ns.map V.int) none (some 63) = (ns.take 63).map V.int := by
      unfold cutV
      rw [HT.sIx_none, List.drop_zero, Nat.sub_zero, show (63 : Int) = ((63 : Nat) : Int) from rfl, HT.sIx_nat, List.map_take]
      by_cases h : 63 ≤ (ns.map V.int).length
      · rw [Nat.min_eq_left h]
      · rw [Nat.min_eq_right (by omega), List.take_of_length_le (Nat.le_refl _), List.take_of_length_le (by omega)]
    rw [e] at hl hpn ⊢
    have s1 := (Same.new (o := .lst ((ns.take 63).map V.int)) hp).trans (Same.new (o := .lst ((ns.take 63).map V.int)) hl)
    have hll : l ≠ pn := ne_of_none upd_same hpn
    refine k pn l _ (s1.free hpn) (s1.trans (Same.new hpn)) ⟨ns.take 63, 0, 0, upd_same, ?_, hll, ?_, by omega, by omega⟩
    · rw [upd_ne hll, upd_same]
    · rw [List.length_take]; omega
def sp_draw : Sp := fun vs H Q _ => ∃ (pn L : Addr) (m : Int) (b : Nat), vs = [.ref pn, .int m] ∧ Pen L H pn (b + 1) ∧ 1 ≤ m ∧ m ≤ 100000 ∧ ∀ (d : Nat) H', (d : Int) < m → Sam pn H H' → Pen L H' pn b → Q (.int d) H'
theorem pow_bd1 {x a c1 c2 : Int} (h1 : 0 ≤ a) (h2 : a ≤ 1000000) (hx : 0 ≤ x) (hx2 : x < 2147483648) (h3 : 0 ≤ c1) (h4 : c1 ≤ 100000) (h5 : 0 ≤ c2) (h6 : c2 ≤ 100000) : (x + c1 * a + c2).natAbs < 2 ^ 64 := by
  have m1 : c1 * a ≤ 100000 * 1000000 := Int.mul_le_mul h4 h2 h1 (by omega)
  have m0 : 0 ≤ c1 * a := Int.mul_nonneg h3 h1
  omega
theorem pow_bd2 {st a c1 c2 c3 : Int} (hs : 0 ≤ st) (hs2 : st < 2147483648) (h1 : 0 ≤ a) (h2 : a ≤ 1000000) (h3 : 0 ≤ c1) (h4 : c1 ≤ 100000) (h5 : 0 ≤ c2) (h6 : c2 ≤ 100000) (h7 : 0 ≤ c3) (h8 : c3 ≤ 100000) :
    (st * (2 * a + c1) + c2 * a * a + c3).natAbs < 2 ^ 64 := by
  have m1 : st * (2 * a + c1) ≤ 2147483648 * 2100000 := Int.mul_le_mul (by omega) (by omega) (by omega) (by omega)
  have m2 : 0 ≤ st * (2 * a + c1) := Int.mul_nonneg hs (by omega)
  have m3 : c2 * a ≤ 100000 * 1000000 := Int.mul_le_mul h6 h2 h1 (by omega)
  have m4 : 0 ≤ c2 * a := Int.mul_nonneg h5 h1
  have m5 : c2 * a * a ≤ 100000 * 1000000 * 1000000 := Int.mul_le_mul m3 h2 h1 (by omega)
  have m6 : 0 ≤ c2 * a * a := Int.mul_nonneg m4 h1
  omega
theorem ok_draw (T : Tx P K mg A) : FnR P w K mg base CX0 1 A.f_law_draw sp_draw := by
  refine fnr T.F_law_draw sc_law_draw (fun _ _ _ _ _ _ us hl => match us, hl with | [_, _], _ => rfl) (fun vs H Q E h => ?_) (fun cdv A' outer s H vs Q E hr h => ?_)
  · obtain ⟨pn, l, m, b, rfl, _⟩ := h; rfl
  · obtain ⟨pn, l, m, b, rfl, ⟨ns, a, r, hp, hL, hne, hn, ha, hb⟩, hm, hm2, k⟩ := h
    refine ⟨_, pss_cons (ps_if (pt_cmpR op_gt (pe_ix ix_list (pv 0) pe_int (fun _ _ => rfl)) pe_int (nomark _))
        (pss_cons (ps_set (i := 2) sc_law_draw.nd rfl (.inl rfl) (pe_op op_mod (pe_callTy call_int1 (by rfl) T.z_int (by decide +kernel) (pa_cons (pe_ix ix_list (pv 0) pe_int (fun _ _ => rfl)) pa_nil)) (pv 1)))
        (pss_cons (ps_asg (pe_op op_fdiv (pe_callTy call_int1 (by rfl) T.z_int (by decide +kernel) (pa_cons (pe_ix ix_list (pv 0) pe_int (fun _ _ => rfl)) pa_nil)) (pv 1)) (pg_sub (pv 0) pe_int set_list))
        (pss_one (ps_ret (pv 2))))) pss_nil)
      (pss_cons (ps_set (i := 3) sc_law_draw.nd rfl (.inl rfl) (pe_ix ix_list (pv 0) pe_int (fun _ _ => rfl)))
      (pss_cons (ps_asg (pe_op op_add (pv 3) pe_int) (pg_sub (pv 0) pe_int set_list))
      (pss_cons (ps_set (i := 4) sc_law_draw.nd rfl (.inl rfl) (pe_op op_add (pe_op op_mul pe_int (pv 3)) pe_int))
      (pss_jn (ps_if (pt_cmpR (op_neD hr.units) (pe_ix ix_list (pv 0) pe_int (fun _ _ => rfl)) (pe_lst pa_nil) (nomark _))
        (pss_one (ps_set (i := 4) sc_law_draw.nd rfl (.inl rfl) (pe_ix ix_list (pe_ix ix_list (pv 0) pe_int (fun _ _ => rfl)) (pe_op op_mod (pe_callTy call_int1 (by rfl) T.z_int (by decide +kernel) (pa_cons (pv 3) pa_nil))
          (pe_callB call_len_seq (by rfl) T.z_len PySem.boot_len (pa_cons (pe_ix ix_list (pv 0) pe_int (fun _ _ => rfl)) pa_nil))) (fun _ _ => rfl)))) pss_nil)
      (pss_jn (ps_if (PW.pt (pw_and (pt_cmpR op_lt (pv 3) (pe_callB call_len_seq (by rfl) T.z_len PySem.boot_len (pa_cons (pe_ix ix_list (pv 0) pe_int (fun _ _ => rfl)) pa_nil)) (nomark _))
          (pw_and1 (pt_cmpR op_ge (pe_callB call_abs (by rfl) T.z_abs (by decide +kernel) (pa_cons (pv 4) pa_nil)) (pe_op op_pow pe_int pe_int) (nomark _)))))
        (pss_cons (ps_set (i := 5) sc_law_draw.nd rfl (.inl rfl) (pe_op op_add (pe_op op_mul pe_int (pe_op op_sub (pe_callB call_abs (by rfl) T.z_abs (by decide +kernel) (pa_cons (pv 4) pa_nil)) (pe_op op_pow pe_int pe_int)))
          (pe_callTy call_int1 (by rfl) T.z_int (by decide +kernel) (pa_cons (pe_cmpR op_lt (pv 4) pe_int (nomark _)) pa_nil))))
        (pss_cons (ps_asg (pe_op op_fdiv (pe_callTy call_int1 (by rfl) T.z_int (by decide +kernel) (pa_cons (pv 5) pa_nil)) (pv 1)) (pg_sub (pv 0) pe_int set_list))
        (pss_one (ps_ret (pe_op op_mod (pe_callTy call_int1 (by rfl) T.z_int (by decide +kernel) (pa_cons (pv 5) pa_nil)) (pv 1)))))) pss_nil)
      (pss_cons (ps_set (i := 6) sc_law_draw.nd rfl (.inl rfl) (pe_op op_mod (pe_callTy call_int1 (by rfl) T.z_int (by decide +kernel) (pa_cons (pe_op op_pow (pe_op op_add (pe_op op_add (pe_op op_mod (pe_callTy call_int1 (by rfl) T.z_int (by decide +kernel) (pa_cons (pv 4) pa_nil)) pe_int) (pe_op op_mul pe_int (pv 3))) pe_int) pe_int) pa_nil)) pe_int))
      (pss_cons (ps_set (i := 6) sc_law_draw.nd rfl (.inl rfl) (pe_op op_mod (pe_callTy call_int1 (by rfl) T.z_int (by decide +kernel) (pa_cons (pe_op op_pow (pe_op op_add (pe_op op_add (pe_op op_mul (pv 6) (pe_op op_add (pe_op op_mul pe_int (pv 3)) pe_int)) (pe_op op_mul (pe_op op_mul pe_int (pv 3)) (pv 3))) pe_int) pe_int) pa_nil)) pe_int))
      (pss_one (ps_ret (pe_op op_mod (pe_callTy call_int1 (by rfl) T.z_int (by decide +kernel) (pa_cons (pe_op op_fdiv (pv 6) pe_int) pa_nil)) (pv 1))))))))))), ?_⟩
    have i0 : ∀ x y z : V, atI [x, y, z] 0 = some x := fun _ _ _ => rfl
    have i1 : ∀ x y z : V, atI [x, y, z] 1 = some y := fun _ _ _ => rfl
    have i2 : ∀ x y z : V, atI [x, y, z] 2 = some z := fun _ _ _ => rfl
    have res : ∀ (X : Int) H', Sam pn H H' → Pen l H' pn b → Q (.int (X % m)) H' := fun X H' e1 e2 => by
      have h0 := Int.emod_nonneg X (by omega : m ≠ 0)
      have h1 := Int.emod_lt_of_pos X (by omega : 0 < m)
      have := k (X % m).toNat H' (by omega) e1 e2
      rw [Int.toNat_of_nonneg h0] at this
      exact this
    have hm0 : 0 < m := by omega
    have hmd : CDiv 0 m := ⟨hm0, by omega⟩
    refine ⟨_, rfl, pn, _, _, _, rfl, rfl, SqL.of hp, i2 _ _ _, _, _, rfl, rfl, _, rfl, ite2 (fun _ => ?_) (fun _ => ?_)⟩
    · refine ⟨_, rfl, pn, _, _, _, rfl, rfl, SqL.of hp, i2 _ _ _, .inl ⟨_, rfl, _, rfl, _, _, rfl, rfl, hm0, ?_⟩⟩
      refine ⟨_, rfl, pn, _, _, _, rfl, rfl, SqL.of hp, i2 _ _ _, .inl ⟨_, rfl, _, rfl, _, _, rfl, rfl, hmd, ?_⟩⟩
      refine ⟨_, rfl, pn, _, _, 2, rfl, rfl, hp, rfl, _, rfl, res _ _ (Sam.upd (Sam.refl H)) ?_⟩
      exact ⟨ns, a, _, by rw [upd_same]; rfl, by rw [upd_ne hne]; exact hL, hne, hn, ha, by omega⟩
    · refine ⟨_, rfl, pn, _, _, _, rfl, rfl, SqL.of hp, i1 _ _ _, ?_⟩
      refine ⟨_, rfl, _, _, rfl, rfl, _, rfl, pn, _, _, 1, rfl, rfl, hp, rfl, ?_⟩
      have hp1 : upd H pn (.lst ([V.ref l, V.int a, V.int r].set 1 (.int (a + 1)))) pn = some (.lst [V.ref l, V.int (a + 1), V.int r]) := by rw [upd_same]; rfl
      have hL1 : upd H pn (.lst ([V.ref l, V.int a, V.int r].set 1 (.int (a + 1)))) l = some (.lst (ns.map V.int)) := by rw [upd_ne hne]; exact hL
      have e1 : Sam pn H (upd H pn (.lst ([V.ref l, V.int a, V.int r].set 1 (.int (a + 1))))) := Sam.upd (Sam.refl H)
      generalize upd H pn (.lst ([V.ref l, V.int a, V.int r].set 1 (.int (a + 1)))) = H1 at hp1 hL1 e1 ⊢
      refine ⟨_, rfl, _, _, rfl, rfl, .inl ⟨by decide, by decide⟩, _, _, rfl, rfl, ?_⟩
      refine ⟨fun σ' H' => ∃ c : Int, σ' = [some (.ref pn), some (.int m), none, some (.int a), some (.int c), none, none] ∧ Sam pn H H' ∧ H' pn = some (.lst [V.ref l, V.int (a + 1), V.int r]) ∧ H' l = some (.lst (ns.map V.int)),
        ⟨_, rfl, pn, _, _, _, rfl, rfl, SqL.of hp1, i0 _ _ _, Nat.zero_le _, fun q hq => ?_⟩, ?_⟩
      · have s1 := Same.new (o := .lst []) hq
        have hp2 := s1 _ _ hp1
        have hL2 := s1 _ _ hL1
        have e2 : Sam pn H (upd H1 q (.lst [])) := e1.trans (Sam.of s1)
        refine c_neL (SqL.of hL2) (SqL.of upd_same) ⟨_, rfl, ?_⟩
        cases hns : ns.isEmpty with
        | true => exact iteF ⟨_, rfl, e2, hp2, hL2⟩
        | false =>
          have hlen : 0 < ns.length := by
            rcases ns with _ | ⟨x, r⟩
            · cases hns
            · simp
          have h0 := Int.emod_nonneg a (by omega : (ns.length : Int) ≠ 0)
          have h1 := Int.emod_lt_of_pos a (by omega : 0 < (ns.length : Int))
          have hj : (a % (ns.length : Int)).toNat < ns.length := by omega
          refine iteT ⟨_, rfl, pn, _, _, _, rfl, rfl, SqL.of hp2, i0 _ _ _, _, rfl, .inl ⟨_, rfl, ?_⟩⟩
          refine ⟨_, rfl, pn, _, _, _, rfl, rfl, SqL.of hp2, i0 _ _ _, l, _, rfl, .inl (SqL.of hL2), _, _, rfl, rfl, by rw [List.length_map]; omega, ?_⟩
          refine ⟨l, _, _, .int ns[(a % (ns.length : Int)).toNat], rfl, rfl, SqL.of hL2, ?_, _, rfl, e2, hp2, hL2⟩
          refine at_of (j := (a % (ns.length : Int)).toNat) ?_ ?_
          · rw [List.length_map]; omega
          · rw [List.getElem?_map, List.getElem?_eq_getElem hj] <;> rfl
      · rintro σ' H' ⟨c, rfl, e2, hp2, hL2⟩
        have pn2 : Pen l H' pn b := ⟨ns, a + 1, r, hp2, hL2, hne, hn, by omega, by omega⟩
        have p18 : CPow 10 18 := ⟨by decide, by decide, by decide⟩
        refine ⟨fun σ' H2 => σ' = [some (.ref pn), some (.int m), none, some (.int a), some (.int c), none, none] ∧ H2 = H', ?_, ?_⟩
        · refine ⟨_, rfl, _, rfl, pn, _, _, _, rfl, rfl, SqL.of hp2, i0 _ _ _, l, _, rfl, .inl (SqL.of hL2), _, _, rfl, rfl, _, rfl, ite2 (fun _ => ?_) (fun _ => iteF ⟨rfl, rfl⟩)⟩
          refine ⟨_, rfl, _, rfl, _, _, rfl, rfl, p18, _, _, rfl, rfl, _, rfl, ite2 (fun _ => ?_) (fun _ => ⟨rfl, rfl⟩)⟩
          refine ⟨_, rfl, _, rfl, _, _, rfl, rfl, p18, _, _, rfl, rfl, _, _, rfl, rfl, .inl ⟨by decide, by decide⟩, _, rfl, _, _, rfl, rfl, .inr ⟨_, rfl, _, _, rfl, rfl, ?_⟩⟩
          refine ⟨_, rfl, .inl ⟨_, rfl, _, rfl, _, _, rfl, rfl, hmd, ?_⟩⟩
          refine ⟨_, rfl, pn, _, _, 2, rfl, rfl, hp2, rfl, _, rfl, .inl ⟨_, rfl, _, rfl, _, _, rfl, rfl, hm0, res _ _ (Sam.upd e2) ?_⟩⟩
          exact ⟨ns, a + 1, _, by rw [upd_same]; rfl, by rw [upd_ne hne]; exact hL2, hne, hn, by omega, by omega⟩
        · rintro σ' H2 ⟨rfl, rfl⟩
          have md : ∀ (X : Int) (k : Int), 0 < k → k < 2147483648 → 0 ≤ X % k ∧ X % k < 2147483648 := fun X k h1 h2 => ⟨Int.emod_nonneg X (by omega), by have := Int.emod_lt_of_pos X h1; omega⟩
          have mdb : ∀ (X : Int) (k : Int), 0 < k → k < 2147483648 → -(2 ^ 64) < X % k ∧ X % k < 2 ^ 64 := fun X k h1 h2 => by have := md X k h1 h2; omega
          refine ⟨_, rfl, .inl ⟨_, rfl, _, _, rfl, rfl, (by dsimp only; decide), _, rfl, _, _, rfl, rfl, .inl ⟨by decide, by decide⟩, _, _, rfl, rfl, _, _, rfl, rfl, _, _, rfl, rfl,
            ⟨by decide, by decide, pow_bd1 ha (by omega) (md _ _ (by decide) (by decide)).1 (md _ _ (by decide) (by decide)).2 (by decide) (by decide) (by decide) (by decide)⟩, .inl ⟨_, rfl, _, _, rfl, rfl, (by dsimp only; decide), ?_⟩⟩⟩
          refine ⟨_, rfl, _, rfl, _, _, rfl, rfl, .inl ⟨by decide, by decide⟩, _, _, rfl, rfl, _, _, rfl, rfl, .inl (mdb _ _ (by decide) (by decide)), _, rfl, _, _, rfl, rfl, .inl ⟨by decide, by decide⟩, _, rfl, _, _, rfl, rfl, .inr ⟨by omega, by omega⟩, _, _, rfl, rfl, _, _, rfl, rfl, _, _, rfl, rfl,
            ⟨by decide, by decide, pow_bd2 (md _ _ (by decide) (by decide)).1 (md _ _ (by decide) (by decide)).2 ha (by omega) (by decide) (by decide) (by decide) (by decide) (by decide) (by decide)⟩, .inl ⟨_, rfl, _, _, rfl, rfl, (by dsimp only; decide), ?_⟩⟩
          exact ⟨_, rfl, _, _, rfl, rfl, ⟨by decide, by decide⟩, .inl ⟨_, rfl, _, rfl, _, _, rfl, rfl, hm0, res _ _ e2 pn2⟩⟩
def sp_pick : Sp := fun vs H Q _ => ∃ (pn L l : Addr) (xs : List V) (b : Nat), vs = [.ref pn, .ref l] ∧ Pen L H pn (b + 1) ∧ H l = some (.lst xs) ∧ l ≠ pn ∧ 1 ≤ xs.length ∧ xs.length ≤ 100000 ∧ ∀ v H', v ∈ xs → Sam pn H H' → Pen L H' pn b → Q v H'
theorem ok_pick (T : Tx P K mg A) : FnR P w K mg base CX0 2 A.f_law_pick sp_pick := by
  refine fnr T.F_law_pick sc_law_pick (fun _ _ _ _ _ _ us hl => match us, hl with | [_, _], _ => rfl) (fun vs H Q E h => ?_) (fun cdv A' outer s H vs Q E hr h => ?_)
  · obtain ⟨pn, L, l, xs, b, rfl, _⟩ := h; rfl
  · obtain ⟨pn, L, l, xs, b, rfl, hp, hl, hne, h1, h2, k⟩ := h
    refine ⟨_, pss_one (ps_ret (pe_ix ix_list (pv 1) (pe_cl (ok_draw T) hr (by rfl) T.mg_law_draw T.kp_law_draw pass0 (pa_cons (pv 0) (pa_cons (pe_callB call_len_seq (by rfl) T.z_len PySem.boot_len (pa_cons (pv 1) pa_nil)) pa_nil))) (fun _ _ => rfl))), ?_⟩
    refine ⟨_, rfl, _, rfl, _, rfl, l, _, rfl, .inl (SqL.of hl), pn, L, _, b, rfl, hp, by omega, by omega, fun d H' hd e1 p1 => ?_⟩
    have hd' : d < xs.length := by omega
    refine ⟨l, xs, _, xs[d], rfl, rfl, SqL.of (e1 _ _ hne hl), atI_nat (List.getElem?_eq_getElem hd'), k _ H' (List.getElem_mem hd') e1 p1⟩
end
end NK

namespace NK
open PySem PySem.Spec PyProof.Rows L2 NA TL
section
variable {P : Program} {w : World} {K : PySem.W.Frag} {mg : Str → Option Value} {base : Heap} {A : Ad}
theorem Tx.xfP (T : Tx P K mg A) : XfC K A.c_BadPlace := ⟨T.ga_BadPlace, T.gg_BadPlace, T.be_BadPlace, T.hd_BadPlace⟩
theorem Tx.exP (T : Tx P K mg A) : ExcC K A.c_BadPlace := ⟨T.ga_BadPlace, T.gg_BadPlace, T.be_BadPlace, T.hd_BadPlace, T.ca_BadPlace, T.cn_Place, T.ct_Place, T.ob_BadPlace⟩
theorem Tx.tkP (T : Tx P K mg A) : PySem.W.exmOne K (.ref A.c_BadPlace) (.ref A.c_TableError) = some true := PySem.W.exm_ref T.be_TableError T.hd_TableError T.ty_TableError T.tb_BadPlace
/-- what an ask heard: [what it gives], or ('place', the value of the BadPlace) -/
def TTh (A : Ad) : (XK → Hp → VK → Prop) → Hp → VK → Prop := fun tl H Q => ∃ (E1 : XK) (Q1 : VK), tl E1 H Q1 ∧ (∀ v H', Q1 v H' → ∀ p, H' p = none → Q (.ref p) (upd H' p (.lst [v]))) ∧
  ∀ cls d H', E1 cls d H' → cls = .ref A.c_BadPlace ∧ ∃ dd v, d = some dd ∧ H' dd = some (.xd [("value", v)]) ∧ ∀ a p, H' a = none → upd H' a (HeldO cls d a) p = none → Q (.ref p) (upd (upd H' a (HeldO cls d a)) p (.tup [.str "place", v]))
theorem pe_weak {X : Cx} {e : Expr} {t : TE} (h : PE X e t) : PE X e (fun σ H Q => ∃ Qn : VK, (∀ v H1, Qn v H1 → Q v H1) ∧ t σ H Qn) := by
  refine ⟨fun pins s σ H Q I ⟨Qn, k, q⟩ => wpAny_mono (h.run pins s σ H Qn I q) (fun u s1 z => ?_) fun _ _ z => z⟩
  obtain ⟨v, H1, I1, r, z⟩ := z
  exact ⟨v, H1, I1, r, k v H1 z⟩
theorem heard_gives {X : Cx} {q : Str} {g : Addr} {cdg : Value} (T : Tx X.prog X.K X.mg A) :
    LamX.GivesTo X ["_law_ask", "_law_caught", "_law_found", "error"] "_law_heard" (defScope s_law_heard) g cdg (defBody s_law_heard) "_law_ask" q (TTh A) := by
  intro f c' s H Q tl act hc h
  refine ⟨_, pss_cons (ps_set (i := 1) sc_law_heard.nd rfl (.inl rfl) pe_non)
    (pss_cons (ps_set (i := 2) sc_law_heard.nd rfl (.inl rfl) pe_non)
    (pss_cons (ps_try_hold (i := 3) (j := 1) (c := .ref A.c_TableError)
        (tb := fun W D σ H => ∃ Ech : XK, (∀ cls d σ' H', Ech cls d H' → W cls d σ' H') ∧ σ[0]? = some (some (.ref f)) ∧ H c' = some (LamX.CodeO c' q) ∧ ∃ Qn : VK, (∀ v H1, Qn v H1 → D.nx (σ.set 2 (some v)) H1) ∧ tl Ech H Qn)
        rfl rfl rfl sc_law_heard.nd rfl rfl rfl rfl ⟨rfl, by decide, .inl T.mg_TableError⟩ LamX.takes0 (fun W pn xe tk _ => ?_))
    (pss_cons (ps_if (pt_cmpR op_isN (pv 1) pe_non (nomark _)) (pss_one (ps_ret (pe_lst (pa_cons (pv 2) pa_nil)))) pss_nil)
    (pss_one (ps_ret (pe_ifExp (pt_val (pe_callB call_isH (by rfl) T.z_isinstance (by decide +kernel) (pa_cons (pv 1) (pa_cons (pe_glob (v := .ref A.c_BadPlace) (by rfl) T.mg_BadPlace rfl) pa_nil))))
      (pe_tup (pa_cons pe_str (pa_cons (pe_held (C := A.c_BadPlace) T.xfP T.nv_BadPlace (pv 1)) pa_nil))) (pe_tup (pa_cons pe_str pa_nil)))))))), ?_⟩
  · refine ⟨fun pins s' σ H' D I h' => ?_⟩
    obtain ⟨Ech, hW, h1, h2, Qn, hQ, h3⟩ := h'
    exact (pss_one (ps_set (i := 2) sc_law_heard.nd rfl (.inl rfl) (pe_weak (act W pn xe Ech _ _ tk hW)))).run pins s' σ H' D I ⟨Qn, hQ, h1, h2, h3⟩
  · obtain ⟨E1, Q1, h, hQ, hE⟩ := h
    refine ⟨E1, fun cls d σ' H' z => ?_, rfl, hc, Q1, fun v H' q => ⟨_, rfl, rfl, _, rfl, iteT ⟨_, rfl, sz (by show 1 ≤ 1000000; omega), fun p hp => hQ v H' q p hp⟩⟩, h⟩
    obtain ⟨rfl, dd, v, rfl, hx, k⟩ := hE cls d H' z
    refine ⟨true, T.tkP, fun _ a ha hl => ?_, fun z => by cases z⟩
    match σ', hl with
    | [x0, x1, x2, x3], _ =>
      have hx' : upd H' a (HeldO (.ref A.c_BadPlace) (some dd) a) dd = some (.xd [("value", v)]) := by rw [upd_ne (ne_of_none hx ha)]; exact hx
      refine ⟨_, rfl, rfl, _, rfl, iteF ⟨_, rfl, a, A.c_BadPlace, dd, _, .ref A.c_BadPlace, .ref A.c_BadPlace, true, rfl, T.exP, upd_same, hx', (fun u h => h), kit_self, true, rfl, iteT ?_⟩⟩
      exact ⟨_, rfl, a, dd, _, v, rfl, upd_same, hx', by simp [List.lookup], sz (by show 2 ≤ 1000000; omega), fun p hp => k a p ha hp⟩
end
end NK

namespace NK
open PySem PySem.Spec PyProof.Rows L2 NA TL
theorem tx_good {z : Str} (h : isTx z = true) : Good (namesIn z) := by
  unfold isTx at h
  simp only [Bool.and_eq_true, decide_eq_true_eq, List.all_eq_true] at h
  exact ⟨h.1.2, h.2⟩
section
variable {P : Program} {w : World} {K : PySem.W.Frag} {mg : Str → Option Value} {base : Heap} {A : Ad}
/-- what is_text answers of x -/
def TxV (K : PySem.W.Frag) (H : Hp) (x : V) (b : Bool) : Prop := (∃ z : Str, x = .str z ∧ z.length ≤ 100000 ∧ b = isTx z) ∨ (b = false ∧ ∃ t, TyX K H x t ∧ PySem.W.kitOne K t (.type "str") = some false)
theorem v_text {H : Hp} {x : V} {b : Bool} {Q : VK} {E : XK} (h : TxV K H x b) (k : ∀ H', Same H H' → Q (.bl b) H') : sp_is_text K [x] H Q E := by
  rcases h with ⟨z, rfl, hz, rfl⟩ | ⟨rfl, t, h1, h2⟩
  · exact .inl ⟨z, rfl, hz, k⟩
  · exact .inr ⟨x, t, rfl, h1, h2, k H (Same.refl H)⟩
theorem TxV.str {H : Hp} {x : V} (h : TxV K H x true) : ∃ z : Str, x = .str z ∧ z.length ≤ 100000 ∧ isTx z = true := by
  rcases h with ⟨z, rfl, hz, e⟩ | ⟨e, _⟩
  · exact ⟨z, rfl, hz, e.symm⟩
  · cases e
/-- x's type, and whether it is a Place -/
def IsP (A : Ad) (K : PySem.W.Frag) (H : Hp) (x : V) (b : Bool) : Prop := ∃ t, TyX K H x t ∧ PySem.W.kitOne K t (.ref A.c_Place) = some b
def ErrP (A : Ad) (H : Hp) (x : V) (E : XK) : Prop := ∀ H' d, Same H H' → H' d = none → E (.ref A.c_BadPlace) (some d) (upd H' d (.xd [("value", x)]))
def sp_read (A : Ad) (K : PySem.W.Frag) : Sp := fun vs H Q E => ∃ x b, vs = [.ref A.c_Place, x] ∧ TxV K H x b ∧ (∀ z, x = .str z → b = true → RetP A H (namesIn z) Q) ∧ (b = false → ErrP A H x E)
theorem bd_read (T : Tx P K mg A) {cdv : Value} {A' : Around} {outer : List Env} {s : Shared} {H : Hp} {vs : List V} {Q : VK} {E : XK} (hr : Room 3 (A'.deeper (envOfC "Place.read" (defScope s_Place_read) s.heap.objs.size A.f_Place_read cdv))) (h : sp_read A K vs H Q E) :
    ∃ t, PSs (cxOf (L2.CX P w) P w K mg base ["cls", "text", "names"] "Place.read" (defScope s_Place_read) A.f_Place_read cdv A' outer s H E) (defBody s_Place_read) t ∧ t { nx := fun _ H' => Q .non H', rt := Q } (start ["cls", "text", "names"] vs) H := by
  obtain ⟨x, b, rfl, ht, k1, k2⟩ := h
  refine ⟨_, pss_cons (ps_if (pt_not (pt_val (pe_cl (ok_is_text T) (hr.mono (by decide)) (by rfl) T.mg_is_text T.kp_is_text pass0 (pa_cons (pv 1) pa_nil)))) (pss_one (ps_raise rfl takesX (pmk_err T.er_BadPlace (hr.mono (by decide)) (by rfl) T.mg_BadPlace (pv 1)))) pss_nil)
      (pss_cons (ps_set (i := 2) sc_Place_read.nd rfl (.inl rfl) (pe_cl (ok_names_in T) (hr.mono (by decide)) (by rfl) T.mg_names_in T.kp_names_in pass0 (pa_cons (pv 1) pa_nil)))
      (pss_one (ps_ret (pe_mkSL (i := 0) T.mkP (ok_init T) hr rfl (.inl rfl) pass0 (pv 2))))), ?_⟩
  rcases ht with ⟨z, rfl, hz, rfl⟩ | ⟨rfl, t, h1, h2⟩
  · refine ⟨_, rfl, .inl ⟨z, rfl, hz, fun H1 s1 => ⟨_, rfl, ?_⟩⟩⟩
    cases e : isTx z with
    | false => exact iteT ⟨_, rfl, v_err fun d hd => k2 e _ _ s1 hd⟩
    | true => exact iteF ⟨_, rfl, z, rfl, hz, fun p H2 hp s2 h2 => ⟨rfl, _, rfl, mk_plT (tx_good e) (SqT.of h2) ((k1 z rfl e).up (s1.trans s2))⟩⟩
  · exact ⟨_, rfl, .inr ⟨x, t, rfl, h1, h2, _, rfl, iteT ⟨_, rfl, v_err fun d hd => k2 rfl _ _ (Same.refl H) hd⟩⟩⟩
theorem len_read : ∀ vs H Q E, sp_read A K vs H Q E → vs.length = ["cls", "text"].length := fun vs H Q E h => by
  obtain ⟨x, b, rfl, _⟩ := h; rfl
theorem ok_read (T : Tx P K mg A) : FnR P w K mg base (L2.CX P w) 4 A.f_Place_read (sp_read A K) :=
  fnx T.F_Place_read sc_Place_read (fun _ _ _ _ _ _ us hl => match us, hl with | [_, _], _ => rfl) len_read fun cdv A' outer s H vs Q E hr h => bd_read T hr h
theorem ok_readK (T : Tx P K mg A) : FnK P w K mg base (L2.CX P w) 4 A.f_Place_read 1 ["text"] (sp_read A K) :=
  fnxk T.F_Place_read sc_Place_read (fun _ _ _ _ _ _ us ws h1 h2 => match us, ws, h1, h2 with | [_], [_], _, _ => rfl) len_read fun cdv A' outer s H vs Q E hr h => bd_read T hr h
/-- Place.of -/
def sp_of (A : Ad) (K : PySem.W.Frag) : Sp := fun vs H Q E => ∃ x p b, vs = [x] ∧ IsP A K H x p ∧ (p = true → Q x H) ∧ (p = false → TxV K H x b) ∧ (∀ z, x = .str z → b = true → p = false → RetP A H (namesIn z) Q) ∧ (p = false → b = false → ErrP A H x E)
theorem bd_of (T : Tx P K mg A) {cdv : Value} {A' : Around} {outer : List Env} {s : Shared} {H : Hp} {vs : List V} {Q : VK} {E : XK} (hr : Room 3 (A'.deeper (envOfC "Place.of" (defScope s_Place_of) s.heap.objs.size A.f_Place_of cdv))) (h : sp_of A K vs H Q E) :
    ∃ t, PSs (cxOf (L2.CX P w) P w K mg base ["value", "names"] "Place.of" (defScope s_Place_of) A.f_Place_of cdv A' outer s H E) (defBody s_Place_of) t ∧ t { nx := fun _ H' => Q .non H', rt := Q } (start ["value", "names"] vs) H := by
  obtain ⟨x, p, b, rfl, ⟨t, ty, hk⟩, k0, ht, k1, k2⟩ := h
  refine ⟨_, pss_cons (ps_if (pt_val (pe_callB call_isi (by rfl) T.z_isinstance (by decide +kernel) (pa_cons (pv 0) (pa_cons (pe_glob (v := .ref A.c_Place) (by rfl) T.mg_Place rfl) pa_nil)))) (pss_one (ps_ret (pv 0))) pss_nil)
      (pss_cons (ps_if (pt_not (pt_val (pe_cl (ok_is_text T) (hr.mono (by decide)) (by rfl) T.mg_is_text T.kp_is_text pass0 (pa_cons (pv 0) pa_nil)))) (pss_one (ps_raise rfl takesX (pmk_err T.er_BadPlace (hr.mono (by decide)) (by rfl) T.mg_BadPlace (pv 0)))) pss_nil)
      (pss_cons (ps_set (i := 1) sc_Place_of.nd rfl (.inl rfl) (pe_cl (ok_names_in T) (hr.mono (by decide)) (by rfl) T.mg_names_in T.kp_names_in pass0 (pa_cons (pv 0) pa_nil)))
      (pss_one (ps_ret (pe_mkS T.mkP (ok_init T) hr (by rfl) T.mg_Place pass0 (pv 1)))))), ?_⟩
  refine ⟨_, rfl, x, .ref A.c_Place, t, .ref A.c_Place, p, rfl, .own _, ty, hk, p, rfl, ?_⟩
  cases p with
  | true => exact iteT ⟨_, rfl, k0 rfl⟩
  | false =>
    have ht := ht rfl
    refine iteF ?_
    rcases ht with ⟨z, rfl, hz, rfl⟩ | ⟨rfl, t, h1, h2⟩
    · refine ⟨_, rfl, .inl ⟨z, rfl, hz, fun H1 s1 => ⟨_, rfl, ?_⟩⟩⟩
      cases e : isTx z with
      | false => exact iteT ⟨_, rfl, v_err fun d hd => k2 rfl e _ _ s1 hd⟩
      | true => exact iteF ⟨_, rfl, z, rfl, hz, fun p H2 hp s2 h2 => ⟨_, rfl, mk_plT (tx_good e) (SqT.of h2) ((k1 z rfl e rfl).up (s1.trans s2))⟩⟩
    · exact ⟨_, rfl, .inr ⟨x, t, rfl, h1, h2, _, rfl, iteT ⟨_, rfl, v_err fun d hd => k2 rfl rfl _ _ (Same.refl H) hd⟩⟩⟩
theorem len_of : ∀ vs H Q E, sp_of A K vs H Q E → vs.length = ["value"].length := fun vs H Q E h => by
  obtain ⟨x, p, b, rfl, _⟩ := h; rfl
theorem ok_of (T : Tx P K mg A) : FnR P w K mg base (L2.CX P w) 4 A.f_Place_of (sp_of A K) :=
  fnx T.F_Place_of sc_Place_of (fun _ _ _ _ _ _ us hl => match us, hl with | [_], _ => rfl) len_of fun cdv A' outer s H vs Q E hr h => bd_of T hr h
theorem ok_ofK (T : Tx P K mg A) : FnK P w K mg base (L2.CX P w) 4 A.f_Place_of 0 ["value"] (sp_of A K) :=
  fnxk T.F_Place_of sc_Place_of (fun _ _ _ _ _ _ us ws h1 h2 => match us, ws, h1, h2 with | [], [_], _, _ => rfl) len_of fun cdv A' outer s H vs Q E hr h => bd_of T hr h
end
end NK

namespace NK
open PySem PySem.Spec PyProof.Rows L2 NA TL
section
variable {P : Program} {w : World} {K : PySem.W.Frag} {mg : Str → Option Value} {base : Heap} {A : Ad}
/-- x in a place, x a Place or anything else -/
def sp_contains (A : Ad) (K : PySem.W.Frag) : Sp := fun vs H Q _ => ∃ a x ns, vs = [.ref a, x] ∧ Pl A H a ns ∧
  ((∃ b ms, x = .ref b ∧ Pl A H b ms ∧ ∀ H', Same H H' → Q (.bl (decide (ms.take ns.length = ns))) H') ∨
   (IsP A K H x false ∧ ((∃ z : Str, x = .str z ∧ z.length ≤ 100000 ∧ ∀ H', Same H H' → Q (.bl (isTx z && decide ((namesIn z).take ns.length = ns))) H') ∨
     ((∃ t, TyX K H x t ∧ PySem.W.kitOne K t (.type "str") = some false) ∧ ∀ H', Same H H' → Q (.bl false) H'))))
theorem ok_contains (T : Tx P K mg A) : FnR P w K mg base CX0 3 A.f_Place_contains (sp_contains A K) := by
  refine fnr T.F_Place_contains sc_Place_contains (fun _ _ _ _ _ _ us hl => match us, hl with | [_, _], _ => rfl) (fun vs H Q E h => ?_) (fun cdv A' outer s H vs Q E hr h => ?_)
  · obtain ⟨a, b, ns, rfl, _⟩ := h; rfl
  · obtain ⟨a, x, ns, rfl, ⟨g, dx, t, h1, h2⟩, h⟩ := h
    refine ⟨_, pss_cons (ps_if (PW.pt (pw_and (pt_not (pt_val (pe_callB call_isi (by rfl) T.z_isinstance (by decide +kernel) (pa_cons (pv 1) (pa_cons (pe_glob (v := .ref A.c_Place) (by rfl) T.mg_Place rfl) pa_nil)))))
        (pw_and1 (pt_not (pt_val (pe_cl (ok_is_text T) hr (by rfl) T.mg_is_text T.kp_is_text pass0 (pa_cons (pv 1) pa_nil))))))) (pss_one (ps_ret pe_bl)) pss_nil)
      (pss_cons (ps_set (i := 2) sc_Place_contains.nd rfl (.inl rfl) (pe_ifExp (pt_val (pe_callB call_isi (by rfl) T.z_isinstance (by decide +kernel) (pa_cons (pv 1) (pa_cons (pe_glob (v := .ref A.c_Place) (by rfl) T.mg_Place rfl) pa_nil))))
        (pe_fld (pv 1) rfl) (pe_cl (ok_names_in T) (hr.mono (by decide)) (by rfl) T.mg_names_in T.kp_names_in pass0 (pa_cons (pv 1) pa_nil))))
      (pss_one (ps_ret (pe_cmpR (op_eqD hr.units) (pe_slice sl_tupA (pv 2) po_none (po_some (pe_callB call_len_seq (by rfl) T.z_len PySem.boot_len (pa_cons (pe_fld (pv 0) rfl) pa_nil)))) (pe_fld (pv 0) rfl) (nomark _))))), ?_⟩
    have key : ∀ {H1 : Hp} {u : Addr} {ms : List Str} {y : Option V} {Q : VK}, Same H H1 → H1 u = some (.tup (ms.map V.str)) → Good ms → (∀ H', Same H H' → Q (.bl (decide (ms.take ns.length = ns))) H') →
        rSlA K (.ref u) none (some (ns.length : Int)) H1 fun y' H2 => tFld K (tVar 0) "parts" [some (.ref a), y, some (.ref u)] H2 fun y'' H3 => rEqD K y' y'' H3 Q := fun {H1 u ms y Q} s1 h4 g' k => by
      have key2 : ∀ r H2, Same H1 H2 → SqT K H2 r ((ms.take ns.length).map V.str) → tFld K (tVar 0) "parts" [some (.ref a), y, some (.ref u)] H2 fun y'' H3 => rEqD K (.ref r) y'' H3 Q := fun r H2 s2 h5 =>
        ⟨_, rfl, a, _, dx, _, _, rfl, (s1.trans s2) _ _ h1, T.cl, T.np, lkp t, c_eqT (g'.take ns.length).oks g.oks h5 (SqT.of ((s1.trans s2) _ _ h2)) (k H2 (s1.trans s2))⟩
      by_cases hl : ns.length ≤ ms.length
      · exact c_slT (k := ns.length) (SqT.of h4) (by rw [List.length_map]; exact hl) fun r H2 s2 h5 => key2 r H2 s2 (by rw [List.map_take]; exact h5)
      · refine ⟨u, _, rfl, SqT.of h4, fun _ => key2 u H1 (Same.refl H1) ?_, fun hw => (hw ?_).elim⟩
        · rw [List.take_of_length_le (by omega)]; exact SqT.of h4
        · rw [HT.sIx_none, HT.sIx_nat, List.length_map, Nat.min_eq_right (by omega)]; exact ⟨rfl, rfl⟩
    rcases h with ⟨b, ms, rfl, ⟨g', dy, u, h3, h4⟩, k⟩ | ⟨⟨ty, hty, hkP⟩, h⟩
    · refine ⟨_, rfl, .ref b, .ref A.c_Place, .ref A.c_Place, .ref A.c_Place, true, rfl, .own _, T.tyP h3, kit_self, true, rfl, iteF (iteF ?_)⟩
      refine ⟨_, rfl, .ref b, .ref A.c_Place, .ref A.c_Place, .ref A.c_Place, true, rfl, .own _, T.tyP h3, kit_self, true, rfl, iteT ?_⟩
      refine ⟨_, rfl, b, _, dy, _, _, rfl, h3, T.cl, T.np, lkp u, ?_⟩
      refine ⟨_, rfl, _, rfl, a, _, dx, _, _, rfl, h1, T.cl, T.np, lkp t, t, _, rfl, .inr (SqT.of h2), _, rfl, ?_⟩
      rw [List.length_map]
      exact key (Same.refl H) h4 g' k
    · refine ⟨_, rfl, x, .ref A.c_Place, ty, .ref A.c_Place, false, rfl, .own _, hty, hkP, false, rfl, iteT ?_⟩
      rcases h with ⟨z, rfl, hz, k⟩ | ⟨⟨t2, h5, h6⟩, k⟩
      · refine ⟨_, rfl, .inl ⟨z, rfl, hz, fun H1 s1 => ⟨_, rfl, ?_⟩⟩⟩
        cases e : isTx z with
        | false =>
          rw [e, Bool.false_and] at k
          exact iteT (k H1 s1)
        | true =>
          rw [e] at k
          have hty1 : TyX K H1 (.str z) (.type "str") := .base (.str z)
          refine iteF ⟨_, rfl, .str z, .ref A.c_Place, .type "str", .ref A.c_Place, false, rfl, .own _, hty1, T.kSC, false, rfl, iteF ?_⟩
          refine ⟨_, rfl, z, rfl, hz, fun p H2 hp s2 h7 => ?_⟩
          refine ⟨_, rfl, _, rfl, a, _, dx, _, _, rfl, (s1.trans s2) _ _ h1, T.cl, T.np, lkp t, t, _, rfl, .inr (SqT.of ((s1.trans s2) _ _ h2)), _, rfl, ?_⟩
          rw [List.length_map]
          exact key (s1.trans s2) h7 (tx_good e) k
      · exact ⟨_, rfl, .inr ⟨x, t2, rfl, h5, h6, _, rfl, iteT (k H (Same.refl H))⟩⟩
end
end NK

namespace NK
open PySem PySem.Spec PyProof.Rows L2 NA TL
section
variable {P : Program} {w : World} {K : PySem.W.Frag} {mg : Str → Option Value} {base : Heap} {A : Ad}
theorem Tx.readC (T : Tx P K mg A) : ClX.CMet K A.c_Place (.type "type") "read" A.p_Place_read A.f_Place_read := ⟨T.at_Place_read, T.rc_Place_read, T.fi_Place_read⟩
theorem Tx.ofS (T : Tx P K mg A) : SMet K A.c_Place (.type "type") "of" A.p_Place_of A.f_Place_of := ⟨T.at_Place_of, T.rc_Place_of, T.kp_Place_of⟩
/-- the tables of code objects -/
abbrev Tb (A : Ad) : List (Addr × Str) := [(A.t_law_right, "_law_right.<locals>.<lambda>"), (A.t_law, "law.<locals>.<lambda>")]
theorem passLam {X : Cx} {A' : Around} {outer : List Env} {s : Shared} {H : Hp} {E : XK} {scope : Scope} {f c' : Addr} : Passes (L2.CX X.prog X.w) (LamX.lamCx X A' outer s H E scope f c') E :=
  passes_call (X := LamX.lamCx X A' outer s H E scope f c') (W := fun cls d _ H => E cls d H) (takes_of rfl rfl rfl rfl) (fun _ _ _ _ h => h)
/-- _law_heard(lambda: body), in _law_right -/
theorem pe_heard {X : Cx} {k : Nat} {c Pt : Addr} {params : Arguments} {body : Expr} {scope : Scope} {t : XK → TE} {p lpos pos : Pos} (T : Tx X.prog X.K X.mg A) (hg : Gl X "_law_heard") (TB : LamX.TabB X.base X.mg c Pt) (hcode : X.env.code = .ref c) (hmT : (Pt, X.env.qual ++ "<lambda>") ∈ Tb A)
    (hu : ∀ p ∈ Tb A, p.1 = Pt → p.2 = X.env.qual ++ "<lambda>") (hr : Room (k + 2) X.A) (L : LamX.LamS X.env.scope scope) (hdef : defaultsOf params X.env = ([], []))
    (hbind : ∀ (q : Str) (cl : List (Str × Addr)) (pm cv ctv : Value), bindArgs (PySem.W.kla_fn "<lambda>" q params body scope cl pm cv ctv) ⟨[], []⟩ = pure [])
    (hbody : ∀ (A : Around) (outer : List Env) (s : Shared) (H : Hp) (E : XK) (f c' : Addr), Room k (A.deeper (LamX.lamEnv X scope s.heap.objs.size f c')) → PE (LamX.lamCx X A outer s H E scope f c') body (t E)) :
    PE X (.Call (.Name "_law_heard" p) [.Lambda params body scope lpos] [] pos) (LamX.tLam (Tb A) (TTh A) t) := by
  obtain ⟨fd, F⟩ := T.F_law_heard
  obtain ⟨oc, od, kV, doc, pm, an, cdv, ct, osl, e, lk, hcd⟩ := id F.ex
  subst e
  exact LamX.pe_lamcall (Ng := ["_law_ask", "_law_caught", "_law_found", "error"]) (k := k) hg T.mg_law_heard T.kp_law_heard lk hcd (.all fun us hl => match us, hl with | [_], _ => rfl) sc_law_heard rfl (.inl rfl) (heard_gives T) TB hcode hmT hu hr L hdef hbind hbody
theorem test_right (T : Tx P K mg A) (TB : LamX.TabB base mg A.k_law_right A.t_law_right) {A' : Around} {outer : List Env} {s : Shared} {H : Hp} {E : XK} (hr : Room 9 (A'.deeper (envOfC "_law_right" (defScope s_law_right) s.heap.objs.size A.f_law_right (.ref A.k_law_right)))) :
    ∃ t, PSs (cxOf CX0 P w K mg base ["_law_thing", "_law_heard_here"] "_law_right" (defScope s_law_right) A.f_law_right (.ref A.k_law_right) A' outer s H E).nox ((defBody s_law_right).take 2) t := by
  have hu : ∀ p ∈ Tb A, p.1 = A.t_law_right → p.2 = ("_law_right.<locals>.<lambda>" : Str) := fun p hp e => by
    simp only [List.mem_cons, List.not_mem_nil, or_false] at hp
    rcases hp with rfl | rfl
    · rfl
    · exact (T.nn_law_right_law e.symm).elim
  refine ⟨_, pss_cons (ps_set (i := 1) sc_law_right.nd rfl (.inl rfl) (pe_lstN (pa_cons (pe_heard (k := 5) T (by rfl) TB rfl List.mem_cons_self hu (hr.mono (by decide)) (LamX.lamS_by (sc := defScope s_law_right) (by decide +kernel)) rfl (fun _ _ _ _ _ => rfl)
      (fun _ _ _ _ _ _ _ hr' => pe_cmethK (pe_glob (v := .ref A.c_Place) (by rfl) T.mg_Place rfl) T.rdP T.readC (ok_readK T) (hr'.mono (by decide)) passLam (pk_cons (pv 0) pk_nil))) pa_nil)))
    (pss_one (ps_expr (pe_bm PySem.F.plainAttrs_list PySem.F.slot_list_append PySem.F.type_list_append mt_append (pv 1) (pa_cons (pe_heard (k := 5) T (by rfl) TB rfl List.mem_cons_self hu (hr.mono (by decide)) (LamX.lamS_by (sc := defScope s_law_right) (by decide +kernel)) rfl (fun _ _ _ _ _ => rfl)
      (fun _ _ _ _ _ _ _ hr' => pe_smeth (pe_glob (v := .ref A.c_Place) (by rfl) T.mg_Place rfl) T.rdP T.ofS (ok_of T) (hr'.mono (by decide)) passLam (pa_cons (pv 0) pa_nil))) pa_nil))))⟩
end
end NK

namespace NK
open PySem PySem.Spec PyProof.Rows L2 NA TL
section
variable {P : Program} {w : World} {K : PySem.W.Frag} {mg : Str → Option Value} {base : Heap} {A : Ad}
theorem Pl.ins {H : Hp} {a : Addr} {ns : List Str} (h : Pl A H a ns) : ∃ dx fs, H a = some (.ins A.c_Place dx fs) := by
  obtain ⟨_, dx, t, h1, _⟩ := h
  exact ⟨dx, _, h1⟩
theorem Pl.good {H : Hp} {a : Addr} {ns : List Str} (h : Pl A H a ns) : Good ns := h.1
theorem Tx.strS (T : Tx P K mg A) : Spc K A.c_Place "__str__" A.f_Place_str := ⟨T.at_Place_str, T.fn_Place_str⟩
theorem Tx.reprS (T : Tx P K mg A) : Spc K A.c_Place "__repr__" A.f_Place_repr := ⟨T.at_Place_repr, T.fn_Place_repr⟩
def sp_str (A : Ad) : Sp := fun vs H Q _ => ∃ a ns, vs = [.ref a] ∧ Pl A H a ns ∧ Q (.str (txt ns)) H
theorem ok_str (T : Tx P K mg A) : FnR P w K mg base CX0 1 A.f_Place_str (sp_str A) := by
  refine fnr T.F_Place_str sc_Place_str (fun _ _ _ _ _ _ us hl => match us, hl with | [_], _ => rfl) (fun vs H Q E h => ?_) (fun cdv A' outer s H vs Q E hr h => ?_)
  · obtain ⟨a, ns, rfl, _⟩ := h; rfl
  · obtain ⟨a, ns, rfl, ⟨g, dx, t, h1, h2⟩, k⟩ := h
    refine ⟨_, pss_one (ps_ret (pe_joined (.cons pe_str (.cons (pe_fmt (pe_join pe_str (pe_fld (pv 0) rfl))) .nil)))), ?_⟩
    have h3 := sum_len g.len8
    have h4 := g.1
    have h5 := join_len g
    have e0 : Str.empty ++ ("/" : Str) = "/" := by decide +kernel
    refine ⟨_, rfl, sz (by rw [e0, slash_len]; omega), ⟨_, rfl⟩, _, rfl, a, _, dx, _, _, rfl, h1, T.cl, T.np, lkp t, _, t, ns, rfl, rfl, .inr (SqT.of h2), by rw [slash_len]; omega, .inl ⟨_, rfl, sz (by omega), _, rfl, ?_, ?_⟩⟩
    · rw [e0, strLen_append, slash_len]
      exact sz (by omega)
    · rw [e0]
      exact k
def sp_repr (A : Ad) : Sp := fun vs H Q _ => ∃ a ns, vs = [.ref a] ∧ Pl A H a ns ∧ Q (.str ("Place(" ++ reprText (txt ns) ++ ")")) H
theorem joinL_mem : ∀ {ps : List (List Nat)} {c : Nat}, c ∈ joinL [47] ps → c = 47 ∨ ∃ p ∈ ps, c ∈ p
  | [], c, h => by simp [joinL] at h
  | [p], c, h => by
    rw [show joinL [47] [p] = p from by simp [joinL]] at h
    exact .inr ⟨p, by simp, h⟩
  | p :: q :: r, c, h => by
    rw [show joinL [47] (p :: q :: r) = p ++ 47 :: joinL [47] (q :: r) from by simp [joinL]] at h
    rcases List.mem_append.mp h with h | h
    · exact .inr ⟨p, by simp, h⟩
    · rcases List.mem_cons.mp h with h | h
      · exact .inl h
      · rcases joinL_mem h with h | ⟨z, hz, h⟩
        · exact .inl h
        · exact .inr ⟨z, List.mem_cons_of_mem _ hz, h⟩
theorem rt_len {ns : List Str} (g : Good ns) : (reprText (txt ns)).length ≤ 1000 := by
  have h1 := PySem.StrLaws.reprText_len (txt ns) fun c hc => by
    have hc : c ∈ tl (txt ns) := hc
    rw [txt_tl] at hc
    have sg : ∀ c ∈ tl sgn, c < 16 ^ 8 := by rw [sgn_tl]; decide
    rcases List.mem_cons.mp hc with rfl | hc
    · decide
    · rcases joinL_mem hc with rfl | ⟨p, hp, hc⟩
      · decide
      · obtain ⟨n, hn, rfl⟩ := List.mem_map.mp hp
        exact sg c ((isNm_iff.mp (g.2 n hn)).2.2 c hc)
  have h2 := txt_len g
  omega
theorem ok_repr (T : Tx P K mg A) : FnR P w K mg base CX0 3 A.f_Place_repr (sp_repr A) := by
  refine fnr T.F_Place_repr sc_Place_repr (fun _ _ _ _ _ _ us hl => match us, hl with | [_], _ => rfl) (fun vs H Q E h => ?_) (fun cdv A' outer s H vs Q E hr h => ?_)
  · obtain ⟨a, ns, rfl, _⟩ := h; rfl
  · obtain ⟨a, ns, rfl, pa, k⟩ := h
    refine ⟨_, pss_one (ps_ret (pe_joined (.cons pe_str (.cons (pe_fmtR (pe_callTy (call_strC T.strS (ok_str T) hr pass0) (by rfl) T.z_str (by decide +kernel) (pa_cons (pv 0) pa_nil))) (.cons pe_str .nil))))), ?_⟩
    obtain ⟨dx, fs, e⟩ := pa.ins
    have hl := rt_len pa.good
    have e0 : Str.empty ++ ("Place(" : Str) = "Place(" := by decide +kernel
    have e1 : ("Place(" : Str).length = 6 := by decide +kernel
    have e2 : (")" : Str).length = 1 := by decide +kernel
    refine ⟨_, rfl, sz (by rw [e0, e1]; omega), _, rfl, a, dx, fs, rfl, e, a, ns, rfl, pa, _, rfl, .inl ⟨_, rfl, sz (by omega), _, rfl, ?_, _, rfl, ?_, ?_⟩⟩
    · rw [e0, strLen_append, e1]; exact sz (by omega)
    · rw [e0, strLen_append, strLen_append, e1, e2]; exact sz (by omega)
    · rw [e0]; exact k
end
end NK

namespace NK
open PySem PySem.Spec PyProof.Rows L2 NA TL
/-- a short text of plain signs -/
def Sm (n : Nat) (z : Str) : Prop := z.length ≤ n ∧ ∀ c ∈ tl z, c < 200
theorem Sm.app {n m : Nat} {a b : Str} (h : Sm n a) (k : Sm m b) : Sm (n + m) (a ++ b) := by
  refine ⟨by rw [strLen_append]; have := h.1; have := k.1; omega, fun c hc => ?_⟩
  rw [tl_append] at hc
  exact (List.mem_append.mp hc).elim (h.2 c) (k.2 c)
theorem Sm.mono {n m : Nat} {a : Str} (h : Sm n a) (k : n ≤ m) : Sm m a := ⟨Nat.le_trans h.1 k, h.2⟩
section
variable {P : Program} {w : World} {K : PySem.W.Frag} {mg : Str → Option Value} {base : Heap} {A : Ad}
/-- pick from a text -/
def sp_pickS : Sp := fun vs H Q _ => ∃ (pn L : Addr) (z : Str) (b : Nat), vs = [.ref pn, .str z] ∧ Pen L H pn (b + 1) ∧ 1 ≤ z.length ∧ z.length ≤ 100000 ∧ ∀ c H', c ∈ tl z → Sam pn H H' → Pen L H' pn b → Q (.str (Sx [c])) H'
theorem ok_pickS (T : Tx P K mg A) : FnR P w K mg base CX0 2 A.f_law_pick sp_pickS := by
  refine fnr T.F_law_pick sc_law_pick (fun _ _ _ _ _ _ us hl => match us, hl with | [_, _], _ => rfl) (fun vs H Q E h => ?_) (fun cdv A' outer s H vs Q E hr h => ?_)
  · obtain ⟨pn, L, z, b, rfl, _⟩ := h; rfl
  · obtain ⟨pn, L, z, b, rfl, hp, h1, h2, k⟩ := h
    refine ⟨_, pss_one (ps_ret (pe_ix ix_str (pv 1) (pe_cl (ok_draw T) hr (by rfl) T.mg_law_draw T.kp_law_draw pass0 (pa_cons (pv 0) (pa_cons (pe_callB call_len_str (by rfl) T.z_len PySem.boot_len (pa_cons (pv 1) pa_nil)) pa_nil))) (fun _ _ => rfl))), ?_⟩
    have hz : z.length ≤ sizeLine := sz (by omega)
    refine ⟨_, rfl, _, rfl, _, rfl, z, rfl, hz, pn, L, _, b, rfl, hp, by omega, by omega, fun d H' hd e1 p1 => ?_⟩
    have hd' : d < (tl z).length := by rw [← len_tl]; omega
    exact ⟨z, _, (tl z)[d], rfl, rfl, hz, atI_nat (List.getElem?_eq_getElem hd'), k _ H' (List.getElem_mem hd') e1 p1⟩
end
end NK

namespace NK
open PySem PySem.Spec PyProof.Rows L2 NA TL
theorem Sm.cut {n : Nat} {z : Str} (h : Sm n z) (lo hi : Option Int) : Sm n (cutS z lo hi) := by
  have e : tl (cutS z lo hi) = ((tl z).drop (HT.sIx z.length 0 lo)).take (HT.sIx z.length z.length hi - HT.sIx z.length 0 lo) := rfl
  refine ⟨?_, fun c hc => ?_⟩
  · rw [len_tl, e, List.length_take, List.length_drop]
    have := h.1
    rw [len_tl] at this
    omega
  · rw [e] at hc
    exact h.2 c (List.mem_of_mem_drop (List.mem_of_mem_take hc))
theorem joinL_sm {S : List Nat} {k : Nat} (hS : S.length ≤ 1 ∧ ∀ c ∈ S, c < 200) : ∀ ps : List (List Nat), (∀ p ∈ ps, p.length ≤ k ∧ ∀ c ∈ p, c < 200) → (joinL S ps).length ≤ (k + 1) * ps.length ∧ ∀ c ∈ joinL S ps, c < 200
  | [], _ => ⟨by simp [joinL], fun c hc => by simp [joinL] at hc⟩
  | [p], h => by
    have := h p (by simp)
    refine ⟨by simp [joinL]; omega, fun c hc => ?_⟩
    simp only [joinL] at hc
    exact this.2 c hc
  | p :: q :: r, h => by
    have h1 := h p (by simp)
    have h2 := joinL_sm hS (q :: r) fun z hz => h z (List.mem_cons_of_mem _ hz)
    have e : joinL S (p :: q :: r) = p ++ (S ++ joinL S (q :: r)) := rfl
    rw [e]
    refine ⟨?_, fun c hc => ?_⟩
    · rw [List.length_append, List.length_append]
      have e2 : (k + 1) * (p :: q :: r).length = (k + 1) * (q :: r).length + (k + 1) := by rw [List.length_cons, Nat.mul_add, Nat.mul_one]
      have := hS.1
      have := h1.1
      have := h2.1
      omega
    · rcases List.mem_append.mp hc with hc | hc
      · exact h1.2 c hc
      · rcases List.mem_append.mp hc with hc | hc
        · exact hS.2 c hc
        · exact h2.2 c hc
theorem Sm.join {k : Nat} {y : Str} {ys : List Str} (hy : Sm 1 y) (h : ∀ z ∈ ys, Sm k z) : Sm ((k + 1) * ys.length) (Txt.join y ys) := by
  have := joinL_sm (S := tl y) (k := k) ⟨by rw [← len_tl]; exact hy.1, hy.2⟩ (ys.map tl) fun p hp => by
    obtain ⟨z, hz, rfl⟩ := List.mem_map.mp hp
    exact ⟨by rw [← len_tl]; exact (h z hz).1, (h z hz).2⟩
  rw [List.length_map] at this
  rw [join_eq]
  refine ⟨by rw [len_tl, tl_join]; exact this.1, fun c hc => ?_⟩
  rw [tl_join] at hc
  exact this.2 c hc
theorem sum_sm {k : Nat} : ∀ {ys : List Str}, (∀ z ∈ ys, Sm k z) → (ys.map (·.length)).sum ≤ k * ys.length
  | [], _ => by simp
  | y :: ys, h => by
    have h1 := (h y (by simp)).1
    have h2 := sum_sm (ys := ys) fun z hz => h z (List.mem_cons_of_mem _ hz)
    rw [List.map_cons, List.sum_cons, List.length_cons, Nat.mul_add, Nat.mul_one]
    omega
section
variable {P : Program} {w : World} {K : PySem.W.Frag} {mg : Str → Option Value} {base : Heap} {A : Ad}
def sp_ltext : Sp := fun vs H Q _ => ∃ (pn L : Addr) (b : Nat), vs = [.ref pn] ∧ Pen L H pn (b + 100) ∧ ∀ z H', Sm 200 z → Sam pn H H' → Pen L H' pn b → Q (.str z) H'
theorem ok_ltext (T : Tx P K mg A) : FnR P w K mg base CX0 3 A.f_law_text sp_ltext := by
  refine fnr T.F_law_text sc_law_text (fun _ _ _ _ _ _ us hl => match us, hl with | [_], _ => rfl) (fun vs H Q E h => ?_) (fun cdv A' outer s H vs Q E hr h => ?_)
  · obtain ⟨pn, L, b, rfl, _⟩ := h; rfl
  · obtain ⟨pn, L, b, rfl, hp, k⟩ := h
    refine ⟨_, pss_cons (ps_set (i := 1) sc_law_text.nd rfl (.inr rfl) pe_str)
      (pss_cons (ps_set (i := 2) sc_law_text.nd rfl (.inl rfl) (pe_lst pa_nil))
      (pss_cons (ps_for PassesOwn.never rfl (pi_range1 (by rfl) T.z_range (pa_cons (pe_cl (ok_pick T) hr (by rfl) T.mg_law_pick T.kp_law_pick pass0 (pa_cons (pv 0) (pa_cons (pe_lst (pa_cons pe_int (pa_cons pe_int (pa_cons pe_int (pa_cons pe_int (pa_cons pe_int (pa_cons pe_int (pa_cons pe_int (pa_cons pe_int (pa_cons pe_int pa_nil)))))))))) pa_nil))) pa_nil)) (pg_name (i := 3) sc_law_text.nd rfl (.inl rfl))
        (pss_one (ps_expr (pe_bm PySem.F.plainAttrs_list PySem.F.slot_list_append PySem.F.type_list_append mt_append (pv 2) (pa_cons (pe_join pe_str
          (pe_lc (own := [("_law_j", 4)]) (g := gName 4) (tt := tYes) rfl sc_law_text.nd (pi_range1 (by rfl) T.z_range (pa_cons (pe_cl (ok_pick T) hr (by rfl) T.mg_law_pick T.kp_law_pick pass0 (pa_cons (pv 0) (pa_cons (pe_lst (pa_cons pe_int (pa_cons pe_int (pa_cons pe_int (pa_cons pe_int (pa_cons pe_int pa_nil)))))) pa_nil))) pa_nil))
            (blkOk_by (N := ["_law_pen_here", "_law_signs", "_law_parts", "_law_k", "_law_j"]) (sc := defScope s_law_text) (by decide +kernel)) (fun _ _ _ _ _ => pg_name (i := 4) sc_law_text.nd rfl (Or.inl rfl)) (fun _ _ _ _ _ => pts_nil)
            (fun _ _ _ _ _ => pe_cl (ok_pickS T) hr (by rfl) T.mg_law_pick T.kp_law_pick pass0 (pa_cons (pv 0) (pa_cons (pv 1) pa_nil))))) pa_nil)))))
      (pss_one (ps_ret (pe_op op_add_str pe_str (pe_join pe_str (pv 2))))))), ?_⟩
    obtain ⟨xs, hpl⟩ := hp.lst
    refine ⟨sz (by show 0 ≤ 1000000; omega), fun lp hlp => ?_⟩
    have s1 := Same.new (o := .lst []) hlp
    have nlp : lp ≠ pn := (ne_of_none hpl hlp).symm
    refine ⟨_, rfl, sz (by show 9 ≤ 1000000; omega), fun q hq => ?_⟩
    have s2 := Same.new (o := .lst [V.int 0, V.int 1, V.int 1, V.int 2, V.int 3, V.int 7, V.int 8, V.int 9, V.int 10]) hq
    have nq : q ≠ pn := (ne_of_none (s1 _ _ hpl) hq).symm
    refine ⟨pn, L, q, _, b + 99, rfl, hp.same (s1.trans s2), upd_same, nq, by show 1 ≤ 9; omega, by show 9 ≤ 100000; omega, fun v H3 hv e3 pen3 => ?_⟩
    obtain ⟨n, rfl, hn⟩ : ∃ n : Nat, v = .int (n : Int) ∧ n ≤ 10 := by
      simp only [List.mem_cons, List.not_mem_nil, or_false] at hv
      rcases hv with rfl | rfl | rfl | rfl | rfl | rfl | rfl | rfl | rfl
      · exact ⟨0, rfl, by omega⟩
      · exact ⟨1, rfl, by omega⟩
      · exact ⟨1, rfl, by omega⟩
      · exact ⟨2, rfl, by omega⟩
      · exact ⟨3, rfl, by omega⟩
      · exact ⟨7, rfl, by omega⟩
      · exact ⟨8, rfl, by omega⟩
      · exact ⟨9, rfl, by omega⟩
      · exact ⟨10, rfl, by omega⟩
    refine ⟨_, rfl, by omega, by omega, for_range (lo := 0) (n := (n : Int).toNat) (fun i σ H' => ∃ (ys : List Str) (kv jv : Option V), σ = [some (.ref pn), some (.str "abz059"), some (.ref lp), kv, jv] ∧ Sam pn H H' ∧ Pen L H' pn (b + 9 * (11 - i)) ∧ H' lp = some (.lst (ys.map V.str)) ∧ ys.length = i ∧ ∀ z ∈ ys, Sm 16 z)
      ⟨[], _, _, rfl, (Sam.of (s1.trans s2)).trans e3, pen3, e3 _ _ nlp (s2 _ _ upd_same), rfl, fun _ h => nomatch h⟩ ?_ ?_⟩
    · rintro i σ H4 hi ⟨ys, kv, jv, rfl, e4, pen4, hL, hlen, hys⟩
      obtain ⟨xs4, hp4⟩ := pen4.lst
      have pen4' : Pen L H4 pn (b + 9 * (11 - (i + 1)) + 9) := pen4.less (by omega)
      refine ⟨_, rfl, .inl ⟨rfl, _, SqL.of hL⟩, ⟨_, rfl⟩, _, rfl, sz (by show 5 ≤ 1000000; omega), fun q5 hq5 => ?_⟩
      have s5 := Same.new (o := .lst [V.int 1, V.int 1, V.int 2, V.int 7, V.int 8]) hq5
      have nq5 : q5 ≠ pn := (ne_of_none hp4 hq5).symm
      refine ⟨pn, L, q5, _, b + 9 * (11 - (i + 1)) + 8, rfl, pen4'.same s5, upd_same, nq5, by show 1 ≤ 5; omega, by show 5 ≤ 100000; omega, fun v H6 hv e6 pen6 => ?_⟩
      obtain ⟨m, rfl, hm⟩ : ∃ m : Nat, v = .int (m : Int) ∧ m ≤ 8 := by
        simp only [List.mem_cons, List.not_mem_nil, or_false] at hv
        rcases hv with rfl | rfl | rfl | rfl | rfl
        · exact ⟨1, rfl, by omega⟩
        · exact ⟨1, rfl, by omega⟩
        · exact ⟨2, rfl, by omega⟩
        · exact ⟨7, rfl, by omega⟩
        · exact ⟨8, rfl, by omega⟩
      obtain ⟨xs6, hp6⟩ := pen6.lst
      have hL6 := e6 _ _ nlp (s5 _ _ hL)
      refine ⟨_, rfl, by omega, by omega, fun D hD => ?_⟩
      have nD : D ≠ pn := (ne_of_none hp6 hD).symm
      have nDl : lp ≠ D := ne_of_none hL6 hD
      obtain ⟨xsL, hpL⟩ := pen6.ints
      have nDL : D ≠ L := (ne_of_none hpL hD).symm
      obtain ⟨xsL4, hpL4⟩ := pen4.ints
      refine lc_range (lo := 0) (n := (m : Int).toNat) (fun j Hx => ∃ ts : List Str, Hx D = some (.lst (ts.map V.str)) ∧ ts.length = j ∧ (∀ t ∈ ts, Sm 1 t) ∧ Sam pn H6 Hx ∧ Pen L Hx pn (b + 9 * (11 - (i + 1)) + (8 - j)))
        ⟨[], upd_same, rfl, (fun _ h => (List.not_mem_nil h).elim), Sam.new (Sam.refl H6) hD, pen6.same (Same.new hD)⟩ ?_ ?_
      · rintro j Hx hj ⟨ts, hDx, htl, hts, e7, pen7⟩
        refine ⟨rfl, ?_⟩
        unfold tYes
        dsimp only
        rw [if_pos rfl]
        refine ⟨_, rfl, _, rfl, pn, L, _, b + 9 * (11 - (i + 1)) + (8 - (j + 1)), rfl, pen7.less (by omega), by decide +kernel, by decide +kernel, fun c H8 hc e8 pen8 => ?_⟩
        refine ⟨_, e8 _ _ nD hDx, by rw [List.length_map]; exact szl (by omega), ts ++ [Sx [c]], by rw [upd_same, List.map_append]; rfl, by rw [List.length_append, List.length_singleton, htl], fun t ht => ?_, ?_, ?_⟩
        · rcases List.mem_append.mp ht with ht | ht
          · exact hts t ht
          · rw [List.mem_singleton.mp ht]
            refine ⟨by rw [Sx_len]; simp, fun d hd => ?_⟩
            rw [tl_Sx] at hd
            rw [List.mem_singleton.mp hd]
            have sg : ∀ c ∈ tl ("abz059" : Str), c < 200 := by decide +kernel
            exact sg c hc
        · exact Sam.mut (e7.trans e8) hD
        · exact pen8.mut nD nDL
      · rintro Hx ⟨ts, hDx, htl, hts, e7, pen7⟩
        have hs := sum_sm hts
        have hjn := Sm.join (y := "") ⟨by decide +kernel, by decide +kernel⟩ hts
        have e0 : ("" : Str).length = 0 := by decide +kernel
        have ht8 : ts.length ≤ 8 := by omega
        refine ⟨_, D, ts, rfl, rfl, .inl (SqL.of hDx), by rw [e0]; omega, ?_⟩
        have hLx := e7 _ _ nlp hL6
        have e8 : Sam pn H Hx := ((e4.trans (Sam.of s5)).trans e6).trans e7
        refine ⟨lp, _, _, rfl, rfl, hLx, by rw [List.length_map]; exact szl (by omega), ys ++ [Txt.join "" ts], _, _, rfl, Sam.mut e8 hlp, (pen7.less (by omega)).mut nlp ?_, by rw [upd_same, List.map_append]; rfl, by rw [List.length_append, List.length_singleton, hlen], fun z hz => ?_⟩
        · intro e
          rw [e] at hlp
          obtain ⟨xs0, h0⟩ := hp.ints
          rw [h0] at hlp
          cases hlp
        · rcases List.mem_append.mp hz with hz | hz
          · exact hys z hz
          · rw [List.mem_singleton.mp hz]
            exact hjn.mono (by omega)
    · rintro σ H4 ⟨ys, kv, jv, rfl, e4, pen4, hL, hlen, hys⟩
      have hs := sum_sm hys
      have hj := Sm.join (y := "/") ⟨by decide +kernel, by decide +kernel⟩ hys
      refine ⟨⟨_, rfl⟩, _, rfl, _, lp, ys, rfl, rfl, .inl (SqL.of hL), ?_, _, _, rfl, rfl, ?_, ?_⟩
      · rw [slash_len]; omega
      · rw [slash_len]; have := hj.1; exact sz (by omega)
      · exact k _ H4 ((Sm.app (n := 1) ⟨by decide +kernel, by decide +kernel⟩ hj).mono (by omega)) e4 (pen4.less (by omega))
end
end NK

namespace NK
open PySem PySem.Spec PyProof.Rows L2 NA TL
section
variable {P : Program} {w : World} {K : PySem.W.Frag} {mg : Str → Option Value} {base : Heap} {A : Ad}
def sp_spoiled : Sp := fun vs H Q _ => ∃ (pn L : Addr) (z : Str) (n b : Nat), vs = [.ref pn, .str z] ∧ Pen L H pn (b + 3) ∧ Sm n z ∧ n ≤ 5000 ∧ ∀ z' H', Sm (3 * n + 1) z' → Sam pn H H' → Pen L H' pn b → Q (.str z') H'
theorem ok_spoiled (T : Tx P K mg A) : FnR P w K mg base CX0 3 A.f_law_spoiled sp_spoiled := by
  refine fnr T.F_law_spoiled sc_law_spoiled (fun _ _ _ _ _ _ us hl => match us, hl with | [_, _], _ => rfl) (fun vs H Q E h => ?_) (fun cdv A' outer s H vs Q E hr h => ?_)
  · obtain ⟨pn, L, z, n, b, rfl, _⟩ := h; rfl
  · obtain ⟨pn, L, z, n, b, rfl, hp, hz, hn, k⟩ := h
    have r1 : Room 1 _ := hr.mono (by decide)
    refine ⟨_, pss_cons (ps_par (i := 2) (j := 3) (by rfl) sc_law_spoiled.nd rfl rfl (by decide) rfl rfl (pa_cons (pe_cl (ok_draw T) r1 (by rfl) T.mg_law_draw T.kp_law_draw pass0 (pa_cons (pv 0) (pa_cons (pe_op op_add (pe_callB call_len_str (by rfl) T.z_len PySem.boot_len (pa_cons (pv 1) pa_nil)) pe_int) pa_nil))) (pa_cons (pe_cl (ok_draw T) r1 (by rfl) T.mg_law_draw T.kp_law_draw pass0 (pa_cons (pv 0) (pa_cons pe_int pa_nil))) pa_nil)) (by rfl))
      (pss_cons (ps_set (i := 4) sc_law_spoiled.nd rfl (.inl rfl) (pe_cl (ok_pick T) hr (by rfl) T.mg_law_pick T.kp_law_pick pass0 (pa_cons (pv 0) (pa_cons (pe_lst (pa_cons pe_str (pa_cons pe_str (pa_cons pe_str (pa_cons pe_str (pa_cons pe_str (pa_cons pe_str (pa_cons pe_str (pa_cons pe_str (pa_cons pe_str (pa_cons pe_str (pa_cons pe_str (pa_cons pe_str pa_nil))))))))))))) pa_nil))))
      (pss_cons (ps_if (pt_cmpR op_eq (pv 3) pe_int (nomark _)) (pss_one (ps_ret (pe_op op_add_str (pe_slice sl_str (pv 1) po_none (po_some (pv 2))) (pe_slice sl_str (pv 1) (po_some (pe_op op_add (pv 2) pe_int)) po_none)))) pss_nil)
      (pss_cons (ps_if (pt_cmpR op_eq (pv 3) pe_int (nomark _)) (pss_one (ps_ret (pe_op op_add_str (pe_op op_add_str (pe_slice sl_str (pv 1) po_none (po_some (pv 2))) (pe_slice sl_str (pv 1) (po_some (pv 2)) (po_some (pe_op op_add (pv 2) pe_int)))) (pe_slice sl_str (pv 1) (po_some (pv 2)) po_none)))) pss_nil)
      (pss_one (ps_ret (pe_op op_add_str (pe_op op_add_str (pe_slice sl_str (pv 1) po_none (po_some (pv 2))) (pv 4)) (pe_slice sl_str (pv 1) (po_some (pe_op op_sub (pe_op op_add (pv 2) (pv 3)) pe_int)) po_none))))))), ?_⟩
    obtain ⟨xs, hpl⟩ := hp.lst
    have hzl : z.length ≤ sizeLine := sz (by have := hz.1; omega)
    have hz1 := hz.1
    refine ⟨_, rfl, _, rfl, z, rfl, hzl, _, _, rfl, rfl, pn, L, _, b + 2, rfl, hp, by omega, by omega, fun d1 H1 hd1 e1 pen1 => ⟨_, rfl, pn, L, _, b + 1, rfl, pen1, by omega, by omega, fun d2 H2 hd2 e2 pen2 => ⟨_, _, rfl, ?_⟩⟩⟩
    obtain ⟨xs2, hp2⟩ := pen2.lst
    refine ⟨_, rfl, sz (by show 12 ≤ 1000000; omega), fun q hq => ?_⟩
    have nq : q ≠ pn := (ne_of_none hp2 hq).symm
    refine ⟨pn, L, q, _, b, rfl, pen2.same (Same.new hq), upd_same, nq, by show 1 ≤ 12; omega, by show 12 ≤ 100000; omega, fun v H3 hv e3 pen3 => ?_⟩
    obtain ⟨sg, rfl, hsg⟩ : ∃ sg : Str, v = .str sg ∧ Sm 1 sg := by
      simp only [List.mem_cons, List.not_mem_nil, or_false] at hv
      rcases hv with rfl | rfl | rfl | rfl | rfl | rfl | rfl | rfl | rfl | rfl | rfl | rfl <;> exact ⟨_, rfl, by decide +kernel, by decide +kernel⟩
    have fin : ∀ z', Sm (3 * n + 1) z' → Q (.str z') H3 := fun z' h => k z' H3 h (((e1.trans e2).trans (Sam.of (Same.new hq))).trans e3) pen3
    have bnd : ∀ {a c : Str} {i j : Nat}, Sm i a → Sm j c → i + j ≤ 16000 → a.length + c.length ≤ sizeLine := fun {a c i j} h1 h2 h3 => sz (by have := h1.1; have := h2.1; omega)
    refine ⟨_, rfl, rfl, _, rfl, ?_⟩
    by_cases h0 : V.int (d2 : Int) = V.int 0
    · refine iteT' (decide_eq_true h0) ?_
      refine ⟨_, rfl, _, rfl, _, rfl, z, rfl, hzl, _, rfl, _, rfl, _, _, rfl, rfl, _, rfl, z, rfl, hzl, _, _, rfl, rfl, ?_, fin _ ?_⟩
      · first | exact bnd (hz.cut _ _) (hz.cut _ _) (by omega) | (rw [strLen_append]; exact bnd (hz.cut _ _) (hz.cut _ _) (by omega))
      · exact (Sm.app (hz.cut _ _) (hz.cut _ _)).mono (by omega)
    · refine iteF' (decide_eq_false h0) ?_
      refine ⟨_, rfl, rfl, _, rfl, ?_⟩
      by_cases h1 : V.int (d2 : Int) = V.int 1
      · refine iteT' (decide_eq_true h1) ?_
        refine ⟨_, rfl, _, rfl, _, rfl, z, rfl, hzl, _, rfl, _, rfl, _, rfl, _, rfl, _, _, rfl, rfl, _, rfl, z, rfl, hzl, _, _, rfl, rfl, ?_, _, rfl, _, rfl, _, rfl, z, rfl, hzl, _, _, rfl, rfl, ?_, fin _ ?_⟩
        · exact bnd (hz.cut _ _) (hz.cut _ _) (by omega)
        · exact bnd (Sm.app (hz.cut _ _) (hz.cut _ _)) (hz.cut _ _) (by omega)
        · exact (Sm.app (Sm.app (hz.cut _ _) (hz.cut _ _)) (hz.cut _ _)).mono (by omega)
      · refine iteF' (decide_eq_false h1) ?_
        refine ⟨_, rfl, _, rfl, _, rfl, z, rfl, hzl, _, rfl, _, _, rfl, rfl, ?_, _, rfl, _, rfl, _, rfl, _, _, rfl, rfl, _, _, rfl, rfl, _, rfl, z, rfl, hzl, _, _, rfl, rfl, ?_, fin _ ?_⟩
        · exact bnd (hz.cut _ _) hsg (by omega)
        · exact bnd (Sm.app (hz.cut _ _) hsg) (hz.cut _ _) (by omega)
        · exact (Sm.app (Sm.app (hz.cut _ _) hsg) (hz.cut _ _)).mono (by omega)
end
end NK

namespace NK
open PySem PySem.Spec PyProof.Rows L2 NA TL
theorem spt_back : ∀ n (r : List Nat), r.length ≤ n → joinL [47] (spt r) = r ∧ ∀ p ∈ spt r, 47 ∉ p
  | 0, r, h => by
    have e : r = [] := List.length_eq_zero_iff.mp (by omega)
    subst e
    rw [spt_none (by simp)]
    exact ⟨rfl, fun p hp => by rw [List.mem_singleton.mp hp]; simp⟩
  | n + 1, r, h => by
    by_cases h47 : 47 ∈ r
    · obtain ⟨a, b, rfl, ha⟩ := first_slash h47
      rw [spt_some ha]
      have hb : b.length ≤ n := by rw [List.length_append, List.length_cons] at h; omega
      obtain ⟨h1, h2⟩ := spt_back n b hb
      refine ⟨?_, fun p hp => ?_⟩
      · cases hs : spt b with
        | nil => exact (spt_ne b hs).elim
        | cons q t =>
          rw [hs] at h1
          show a ++ ([47] ++ joinL [47] (q :: t)) = a ++ 47 :: b
          rw [h1]; rfl
      · rcases List.mem_cons.mp hp with rfl | hp
        · exact ha
        · exact h2 p hp
    · rw [spt_none h47]
      exact ⟨rfl, fun p hp => by rw [List.mem_singleton.mp hp]; exact h47⟩
theorem split_spt (r : List Nat) : Txt.split (Sx r) "/" = (spt r).map Sx := by
  obtain ⟨h1, h2⟩ := spt_back r.length r (Nat.le_refl _)
  have e : Sx r = Txt.join "/" ((spt r).map Sx) := by
    apply ext_tl
    rw [join_tl, List.map_map, show (tl ∘ Sx) = id from rfl, List.map_id, h1]
    rfl
  rw [e]
  refine split_join slash_tl (by decide +kernel) (by intro z; exact spt_ne r (List.map_eq_nil_iff.mp z)) fun p hp => ?_
  obtain ⟨q, hq, rfl⟩ := List.mem_map.mp hp
  exact h2 q hq
end NK

namespace NK
open PySem PySem.Spec PyProof.Rows L2 NA TL
theorem joinL_in {S : List Nat} {c : Nat} : ∀ {ps : List (List Nat)} {p : List Nat}, p ∈ ps → c ∈ p → c ∈ joinL S ps
  | [], _, h, _ => (List.not_mem_nil h).elim
  | [q], p, h, hc => by rw [List.mem_singleton.mp h] at hc; exact hc
  | q :: q2 :: r, p, h, hc => by
    show c ∈ q ++ (S ++ joinL S (q2 :: r))
    rcases List.mem_cons.mp h with rfl | h
    · exact List.mem_append_left _ hc
    · exact List.mem_append_right _ (List.mem_append_right _ (joinL_in h hc))
theorem joinL_out {S : List Nat} {c : Nat} : ∀ {ps : List (List Nat)}, c ∈ joinL S ps → c ∈ S ∨ ∃ p ∈ ps, c ∈ p
  | [], h => by simp [joinL] at h
  | [q], h => .inr ⟨q, by simp, h⟩
  | q :: q2 :: r, h => by
    have h : c ∈ q ++ (S ++ joinL S (q2 :: r)) := h
    rcases List.mem_append.mp h with h | h
    · exact .inr ⟨q, by simp, h⟩
    · rcases List.mem_append.mp h with h | h
      · exact .inl h
      · rcases joinL_out h with h | ⟨p, hp, h⟩
        · exact .inl h
        · exact .inr ⟨p, List.mem_cons_of_mem _ hp, h⟩
theorem shaped_strsL {ns : List Str} (h : Oks ns) : SeqAt.shaped (.list (ns.map PyData.str)) = true := by
  unfold SeqAt.shaped
  have := depth_strs ns
  rw [Bool.and_eq_true]
  exact ⟨by rw [PyData.canLay0]; exact canLay_strs ns h, decide_eq_true (by rw [PyData.depth]; omega)⟩
theorem eqv_nilS : ∀ ns : List Str, PyData.eqv (.list (ns.map PyData.str)) (.list (([] : List Str).map PyData.str)) = ns.isEmpty
  | [] => by simp [PyData.eqv, PyData.eqvAll]
  | _ :: _ => by simp [PyData.eqv, PyData.eqvAll]
theorem c_neLS {K : PySem.W.Frag} {H : Hp} {l q : Addr} {ns : List Str} {Q : VK} (o : Oks ns) (h : SqL K H l (ns.map V.str)) (hq : SqL K H q []) (k : Q (.bl (!ns.isEmpty)) H) : rNeD K (.ref l) (.ref q) H Q :=
  ⟨_, .list (([] : List Str).map PyData.str), .lst h (dp_strs ns), .lst hq .nil, shaped_strsL o, shaped_strsL (fun _ z => (List.not_mem_nil z).elim), by rw [eqv_nilS]; exact k⟩
theorem c_eqLS {K : PySem.W.Frag} {H : Hp} {l q : Addr} {ns : List Str} {Q : VK} (o : Oks ns) (h : SqL K H l (ns.map V.str)) (hq : SqL K H q []) (k : Q (.bl ns.isEmpty) H) : rEqD K (.ref l) (.ref q) H Q :=
  ⟨_, .list (([] : List Str).map PyData.str), .lst h (dp_strs ns), .lst hq .nil, shaped_strsL o, shaped_strsL (fun _ z => (List.not_mem_nil z).elim), by rw [eqv_nilS]; exact k⟩
section
variable {P : Program} {w : World} {K : PySem.W.Frag} {mg : Str → Option Value} {base : Heap} {A : Ad}
def sp_lis (K : PySem.W.Frag) : Sp := fun vs H Q _ => ∃ x b, vs = [x] ∧ TxV K H x b ∧ (∀ z, x = .str z → Sm 10000 z) ∧ ∀ H', Same H H' → Q (.bl b) H'
theorem ok_lis (T : Tx P K mg A) : FnR P w K mg base CX0 2 A.f_law_is_text (sp_lis K) := by
  refine fnr T.F_law_is_text sc_law_is_text (fun _ _ _ _ _ _ us hl => match us, hl with | [_], _ => rfl) (fun vs H Q E h => ?_) (fun cdv A' outer s H vs Q E hr h => ?_)
  · obtain ⟨x, b, rfl, _⟩ := h; rfl
  · obtain ⟨x, b, rfl, ht, hsz, k⟩ := h
    refine ⟨_, pss_cons (ps_if (PW.pt (pw_or (pt_not (pt_val (pe_callB call_isi (by rfl) T.z_isinstance (by decide +kernel) (pa_cons (pv 0) (pa_cons (pe_bltn (v := .ty "str") (by rfl) T.z_str (by decide +kernel) rfl) pa_nil)))))
        (pw_or (pt_cmpR op_eq (pv 0) pe_str (nomark _)) (pw_or1 (pt_cmpR op_ne (pe_ix ix_str (pv 0) pe_int (fun _ _ => rfl)) pe_str (nomark _)))))) (pss_one (ps_ret pe_bl)) pss_nil)
      (pss_cons (ps_if (pt_cmpR op_eq (pv 0) pe_str (nomark _)) (pss_one (ps_ret pe_bl)) pss_nil)
      (pss_cons (ps_set (i := 1) sc_law_is_text.nd rfl (.inl rfl) (pe_split (pe_slice sl_str (pv 0) (po_some pe_int) po_none) pe_str))
      (pss_cons (ps_set (i := 2) sc_law_is_text.nd rfl (.inr rfl) pe_str)
      (pss_cons (ps_if (PW.pt (pw_or (pt_cmpR op_gt (pe_callB call_len_seq (by rfl) T.z_len PySem.boot_len (pa_cons (pv 1) pa_nil)) pe_int (nomark _))
          (pw_or1 (pt_cmpR (op_neD hr.units) (pe_lc (own := [("_law_part", 3)]) (g := gName 3) rfl sc_law_is_text.nd (pi_list (pv 1)) (blkOk_by (N := ["_law_thing", "_law_parts", "_law_signs", "_law_part", "_law_sign"]) (sc := defScope s_law_is_text) (by decide +kernel)) (fun _ _ _ _ _ => pg_name (i := 3) sc_law_is_text.nd rfl (Or.inl rfl))
            (fun _ _ _ _ _ => pts_one (pt_not (pt_chain op_le op_le pe_int (pe_callB call_len_str (by rfl) T.z_len PySem.boot_len (pa_cons (pv 3) pa_nil)) pe_int))) (fun _ _ _ _ _ => pv 3)) (pe_lst pa_nil) (nomark _))))) (pss_one (ps_ret pe_bl)) pss_nil)
      (pss_one (ps_ret (pe_cmpR (op_eqD hr.units) (pe_lc (own := [("_law_sign", 4)]) (g := gName 4) rfl sc_law_is_text.nd (pi_str (pe_join pe_str (pv 1))) (blkOk_by (N := ["_law_thing", "_law_parts", "_law_signs", "_law_part", "_law_sign"]) (sc := defScope s_law_is_text) (by decide +kernel)) (fun _ _ _ _ _ => pg_name (i := 4) sc_law_is_text.nd rfl (Or.inl rfl))
            (fun _ _ _ _ _ => pts_one (pt_cmpR op_notIn_sign (pv 4) (pv 2) rfl)) (fun _ _ _ _ _ => pv 4)) (pe_lst pa_nil) (nomark _)))))))), ?_⟩
    rcases ht with ⟨z, rfl, hz, rfl⟩ | ⟨rfl, t, h1, h2⟩
    · have hz2 := (hsz z rfl).1
      have hzl : z.length ≤ sizeLine := sz (by omega)
      refine ⟨_, rfl, .str z, .ty "str", .type "str", .type "str", true, rfl, .ty "str", .base (.str z), kit_self, true, rfl, iteF ?_⟩
      refine ⟨_, rfl, rfl, _, rfl, ?_⟩
      cases hl : tl z with
      | nil =>
        have e : z = "" := ext_tl (by rw [hl]; decide +kernel)
        have e2 : isTx z = false := by rw [e]; decide +kernel
        rw [e2] at k
        exact iteT' (by rw [e]; decide +kernel) (k H (Same.refl H))
      | cons c r =>
        have ne : V.str z ≠ V.str "" := fun e => by
          have e : z = "" := by injection e
          rw [e] at hl
          have : tl ("" : Str) = [] := by decide +kernel
          rw [this] at hl
          cases hl
        refine iteF' (decide_eq_false ne) ?_
        refine ⟨_, rfl, z, 0, c, rfl, rfl, hzl, atI_nat (j := 0) (by show (tl z)[0]? = _; rw [hl]; rfl), rfl, _, rfl, ?_⟩
        by_cases hc : c = 47
        · subst hc
          refine iteF' (by decide +kernel) ?_
          refine ⟨_, rfl, rfl, _, rfl, ?_⟩
          by_cases hs : z = "/"
          · have e2 : isTx z = true := by rw [hs]; decide +kernel
            rw [e2] at k
            exact iteT' (by rw [hs]; decide +kernel) (k H (Same.refl H))
          · refine iteF' (decide_eq_false fun e => hs (by injection e)) ?_
            have hn : namesIn z = (spt r).map Sx := by
              unfold namesIn
              rw [if_neg hs, hl]
              rfl
            have ec : cutS z (some 1) none = Sx r := by
              have := cut_from z 1
              rw [hl] at this
              exact this
            refine ⟨_, rfl, _, rfl, z, rfl, hzl, ⟨_, rfl⟩, _, _, rfl, rfl, by decide +kernel, ?_, fun p hp => ?_⟩
            · rw [ec, Sx_len]
              have : z.length = (tl z).length := len_tl z
              rw [hl, List.length_cons] at this
              exact sz (by omega)
            rw [ec, split_spt, ← hn]
            have s1 := Same.new (o := .lst ((namesIn z).map V.str)) hp
            have jb := (spt_back r.length r (Nat.le_refl _)).1
            have sub : ∀ {ps : List (List Nat)} {q : List Nat}, q ∈ ps → q.length ≤ (joinL [47] ps).length ∧ ∀ c ∈ q, c ∈ joinL [47] ps := by
              intro ps
              induction ps with
              | nil => intro q h; exact (List.not_mem_nil h).elim
              | cons a ps ih =>
                intro q h
                cases ps with
                | nil => rw [List.mem_singleton.mp h]; exact ⟨Nat.le_refl _, fun c hc => hc⟩
                | cons a2 ps2 =>
                  show q.length ≤ (a ++ ([47] ++ joinL [47] (a2 :: ps2))).length ∧ ∀ c ∈ q, c ∈ a ++ ([47] ++ joinL [47] (a2 :: ps2))
                  rcases List.mem_cons.mp h with rfl | h
                  · exact ⟨by rw [List.length_append]; omega, fun c hc => List.mem_append_left _ hc⟩
                  · obtain ⟨i1, i2⟩ := ih h
                    exact ⟨by rw [List.length_append, List.length_append]; omega, fun c hc => List.mem_append_right _ (List.mem_append_right _ (i2 c hc))⟩
            have smz := hsz z rfl
            have plc : ∀ n ∈ namesIn z, n.length ≤ 10000 ∧ ∀ c ∈ tl n, c < 200 := fun n hn1 => by
              rw [hn] at hn1
              obtain ⟨q, hq, rfl⟩ := List.mem_map.mp hn1
              obtain ⟨i1, i2⟩ := sub hq
              rw [jb] at i1 i2
              have := len_tl z
              rw [hl, List.length_cons] at this
              exact ⟨by rw [Sx_len]; omega, fun c hc => smz.2 c (by rw [hl]; exact List.mem_cons_of_mem _ (i2 c hc))⟩
            have pl : ∀ n ∈ namesIn z, n.length ≤ 10000 := fun n h => (plc n h).1
            have oks : Oks (namesIn z) := fun n h => by
              unfold PyData.strOk
              rw [← Array.all_toList, List.all_eq_true]
              intro c hc
              exact decide_eq_true (by have := (plc n h).2 c hc; omega)
            refine ⟨_, rfl, p, _, rfl, .inl (SqL.of upd_same), _, _, rfl, rfl, _, rfl, ?_⟩
            by_cases h8 : (namesIn z).length ≤ 8
            · refine iteF' (decide_eq_false (by rw [List.length_map]; omega)) ?_
              refine ⟨_, rfl, p, rfl, ⟨_, SqL.of upd_same⟩, fun D hD => ?_⟩
              refine lc_flt (walk_list (K := K) (a := p) (xs := (namesIn z).map V.str)) (fun i v H' => ∃ n, (namesIn z)[i]? = some n ∧ v = .str n) (fun i => match (namesIn z)[i]? with | some n => !(decide (1 ≤ n.length) && decide (n.length ≤ 8)) | none => false) hD (fun _ _ _ _ _ _ _ h => h) (fun H' s' => SqL.of (s' _ _ upd_same)) (by rw [List.length_map]; exact szl (by omega)) ?_ g_name_mono ?_
              · rintro i x H9 H8 hi s8 ⟨rfl, hx⟩
                rw [List.getElem?_map] at hx
                obtain ⟨n, hn', rfl⟩ := Option.map_eq_some_iff.mp hx
                refine ⟨Same.refl _, rfl, Same.refl _, fun Q' hQ => ?_⟩
                have hQ := hQ H8 (Same.refl _) (fun _ Q'' h => ⟨_, rfl, h _ _ (Same.refl _) ⟨n, hn', rfl⟩⟩)
                rw [hn'] at hQ
                dsimp only at hQ
                have hnl : n.length ≤ sizeLine := sz (by have := pl n (List.mem_of_getElem? hn'); omega)
                refine ⟨_, rfl, n, rfl, hnl, 1, _, rfl, rfl, _, rfl, ?_⟩
                by_cases h1 : 1 ≤ n.length
                · rw [if_pos (decide_eq_true (by omega))]
                  refine ⟨_, _, rfl, rfl, _, rfl, ?_⟩
                  have e : decide ((n.length : Int) ≤ 8) = decide (n.length ≤ 8) := by rw [Bool.eq_iff_iff, decide_eq_true_eq, decide_eq_true_eq]; omega
                  rw [decide_eq_true h1, Bool.true_and] at hQ
                  rw [e]
                  exact hQ
                · rw [if_neg (by rw [decide_eq_true_eq]; omega)]
                  rw [decide_eq_false h1, Bool.false_and] at hQ
                  exact ⟨_, rfl, hQ⟩
              · intro H9 ys s9 e9 hl9 hy9
                have el : ∀ v ∈ ys, ∃ n ∈ namesIn z, v = V.str n := fun v hv => by
                  obtain ⟨j, hj⟩ := List.mem_iff_getElem?.mp hv
                  have hjl := (List.getElem?_eq_some_iff.mp hj).1
                  obtain ⟨n, g1, g2⟩ := hy9 j _ v (List.getElem?_eq_getElem (by omega)) hj
                  exact ⟨n, List.mem_of_getElem? g1, g2⟩
                obtain ⟨ts, rfl, hts⟩ : ∃ ts : List Str, ys = ts.map V.str ∧ ∀ t ∈ ts, t ∈ namesIn z := by
                  clear e9 hl9 hy9
                  induction ys with
                  | nil => exact ⟨[], rfl, fun _ h => (List.not_mem_nil h).elim⟩
                  | cons a as ih =>
                    obtain ⟨ts, e1, e2⟩ := ih fun v hv => el v (List.mem_cons_of_mem _ hv)
                    obtain ⟨n, n1, n2⟩ := el a (by simp)
                    refine ⟨n :: ts, by rw [n2, e1]; rfl, fun t ht => ?_⟩
                    rcases List.mem_cons.mp ht with rfl | ht
                    · exact n1
                    · exact e2 t ht
                refine ⟨Nat.zero_le _, fun q hq => ?_⟩
                have s10 := Same.new (o := .lst []) hq
                refine c_neLS (fun t ht => oks t (hts t ht)) (SqL.of (s10 _ _ e9)) (SqL.of upd_same) ⟨_, rfl, ?_⟩
                have s19 := (s1.trans s9).trans s10
                rw [List.length_map] at hl9
                cases ts with
                | cons t ts' =>
                  refine iteT' rfl ?_
                  have e2 : isTx z = false := by
                    obtain ⟨i, hi⟩ : ∃ i, i ∈ (List.range ((namesIn z).map V.str).length).filter (fun i => match (namesIn z)[i]? with | some n => !(decide (1 ≤ n.length) && decide (n.length ≤ 8)) | none => false) :=
                      List.exists_mem_of_length_pos (by rw [← hl9]; simp)
                    have hb := (List.mem_filter.mp hi).2
                    cases hg : (namesIn z)[i]? with
                    | none => rw [hg] at hb; cases hb
                    | some n =>
                      rw [hg] at hb
                      have hb : (!(decide (1 ≤ n.length) && decide (n.length ≤ 8))) = true := hb
                      have hnm : isNm n = false := by
                        unfold isNm
                        rw [Bool.not_eq_true'] at hb
                        rw [hb, Bool.false_and]
                      have ha : (namesIn z).all isNm = false := by
                        rw [List.all_eq_false]
                        exact ⟨n, List.mem_of_getElem? hg, by rw [hnm]; exact Bool.false_ne_true⟩
                      unfold isTx
                      rw [ha, Bool.and_false]
                  rw [e2] at k
                  exact k _ s19
                | nil =>
                  refine iteF' rfl ?_
                  have good8 : ∀ n ∈ namesIn z, 1 ≤ n.length ∧ n.length ≤ 8 := fun n hn1 => by
                    obtain ⟨i, hi⟩ := List.mem_iff_getElem?.mp hn1
                    have hil := (List.getElem?_eq_some_iff.mp hi).1
                    have he := List.length_eq_zero_iff.mp hl9.symm
                    by_cases hb : (decide (1 ≤ n.length) && decide (n.length ≤ 8)) = true
                    · simpa using hb
                    · have : i ∈ (List.range ((namesIn z).map V.str).length).filter (fun i => match (namesIn z)[i]? with | some n => !(decide (1 ≤ n.length) && decide (n.length ≤ 8)) | none => false) :=
                        List.mem_filter.mpr ⟨List.mem_range.mpr (by rw [List.length_map]; exact hil), by rw [hi]; show (!(decide (1 ≤ n.length) && decide (n.length ≤ 8))) = true; rw [Bool.eq_false_iff.mpr hb]; rfl⟩
                      rw [he] at this
                      exact (List.not_mem_nil this).elim
                  have hsum : ((namesIn z).map (·.length)).sum ≤ 8 * (namesIn z).length := sum_sm (k := 8) fun n hn1 => ⟨(good8 n hn1).2, (plc n hn1).2⟩
                  have hjn := Sm.join (k := 8) (y := "") ⟨by decide +kernel, by decide +kernel⟩ (ys := namesIn z) fun n hn1 => ⟨(good8 n hn1).2, (plc n hn1).2⟩
                  have e0 : ("" : Str).length = 0 := by decide +kernel
                  have hP := s10 _ _ (s9 _ _ upd_same)
                  refine ⟨⟨_, rfl⟩, _, rfl, _, p, namesIn z, rfl, rfl, .inl (SqL.of hP), by rw [e0]; omega, _, rfl, fun D2 hD2 => ?_⟩
                  obtain ⟨J, hJ⟩ : ∃ J, J = Txt.join "" (namesIn z) := ⟨_, rfl⟩
                  rw [← hJ] at hjn ⊢
                  refine lc_flt walk_str (fun i v H' => ∃ c, (tl J)[i]? = some c ∧ c ∉ tl sgn ∧ v = .str (Sx [c])) (fun i => match (tl J)[i]? with | some c => !decide (c ∈ tl sgn) | none => false) hD2 (fun _ _ _ _ _ _ _ h => h) (fun _ _ => trivial) (by show J.length < sizeLine; exact szl (by have := hjn.1; omega)) ?_ g_name_mono ?_
                  · rintro i x H11 H12 hi s12 ⟨rfl, c, hc, rfl⟩
                    have hc : (tl J)[i]? = some c := by rw [← hc]; exact Array.getElem?_toList
                    refine ⟨Same.refl _, rfl, Same.refl _, fun Q' hQ => ?_⟩
                    refine ⟨_, rfl, _, rfl, c, sgn, rfl, rfl, _, rfl, ?_⟩
                    have hQ := hQ _ (Same.refl _) (fun hb Q'' h => ⟨_, rfl, h _ _ (Same.refl _) ⟨c, hc, by rw [hc] at hb; simpa using hb, rfl⟩⟩)
                    rw [hc] at hQ
                    exact hQ
                  · intro H13 ys s13 e13 hl13 hy13
                    have el2 : ∀ v ∈ ys, ∃ c ∈ tl J, v = V.str (Sx [c]) := fun v hv => by
                      obtain ⟨j, hj⟩ := List.mem_iff_getElem?.mp hv
                      have hjl := (List.getElem?_eq_some_iff.mp hj).1
                      obtain ⟨c, g1, _, g2⟩ := hy13 j _ v (List.getElem?_eq_getElem (by omega)) hj
                      exact ⟨c, List.mem_of_getElem? g1, g2⟩
                    obtain ⟨cs, rfl, hcs⟩ : ∃ cs : List Nat, ys = (cs.map fun c => Sx [c]).map V.str ∧ ∀ c ∈ cs, c ∈ tl J := by
                      clear e13 hl13 hy13
                      induction ys with
                      | nil => exact ⟨[], rfl, fun _ h => (List.not_mem_nil h).elim⟩
                      | cons a as ih =>
                        obtain ⟨ts, e1, e2⟩ := ih fun v hv => el2 v (List.mem_cons_of_mem _ hv)
                        obtain ⟨n, n1, n2⟩ := el2 a (by simp)
                        refine ⟨n :: ts, by rw [n2, e1]; rfl, fun t ht => ?_⟩
                        rcases List.mem_cons.mp ht with rfl | ht
                        · exact n1
                        · exact e2 t ht
                    refine ⟨Nat.zero_le _, fun q2 hq2 => ?_⟩
                    have s14 := Same.new (o := .lst []) hq2
                    refine c_eqLS (ns := cs.map fun c => Sx [c]) (fun t ht => ?_) (SqL.of (s14 _ _ e13)) (SqL.of upd_same) ?_
                    · obtain ⟨c, hc, rfl⟩ := List.mem_map.mp ht
                      unfold PyData.strOk
                      rw [← Array.all_toList, List.all_eq_true]
                      intro d hd
                      have hd : d ∈ [c] := hd
                      rw [List.mem_singleton.mp hd]
                      exact decide_eq_true (by have := hjn.2 c (hcs c hc); omega)
                    · have key : isTx z = (cs.map fun c => Sx [c]).isEmpty := by
                        have hJ2 : tl J = joinL [] ((namesIn z).map tl) := by
                          rw [hJ, join_eq, tl_join]
                          rw [show tl ("" : Str) = [] by decide +kernel]
                        have e1 : isTx z = (namesIn z).all isNm := by
                          unfold isTx
                          rw [hl, decide_eq_true h8, Bool.and_true]
                          rfl
                        rw [List.length_map, List.length_map] at hl13
                        rw [e1]
                        cases cs with
                        | nil =>
                          have he := List.length_eq_zero_iff.mp hl13.symm
                          show (namesIn z).all isNm = true
                          rw [List.all_eq_true]
                          intro n hn1
                          refine isNm_iff.mpr ⟨(good8 n hn1).1, (good8 n hn1).2, fun c hc => ?_⟩
                          have hcJ : c ∈ tl J := by rw [hJ2]; exact joinL_in (List.mem_map.mpr ⟨n, hn1, rfl⟩) hc
                          obtain ⟨i, hi⟩ := List.mem_iff_getElem?.mp hcJ
                          have hil := (List.getElem?_eq_some_iff.mp hi).1
                          by_cases hs2 : c ∈ tl sgn
                          · exact hs2
                          · have hin : i ∈ ([] : List Nat) := by
                              rw [← he]
                              refine List.mem_filter.mpr ⟨List.mem_range.mpr ?_, ?_⟩
                              · show i < J.length
                                rw [len_tl]; exact hil
                              · rw [hi]
                                show (!decide (c ∈ tl sgn)) = true
                                rw [decide_eq_false hs2]; rfl
                            exact (List.not_mem_nil hin).elim
                        | cons c cs' =>
                          show (namesIn z).all isNm = false
                          obtain ⟨c', g1, g2, _⟩ := hy13 0 _ (V.str (Sx [c])) (List.getElem?_eq_getElem (by rw [← hl13]; simp)) rfl
                          have hcJ : c' ∈ tl J := List.mem_of_getElem? g1
                          rw [hJ2] at hcJ
                          rcases joinL_out hcJ with h | ⟨q, hq, h⟩
                          · exact (List.not_mem_nil h).elim
                          · obtain ⟨n, hn1, rfl⟩ := List.mem_map.mp hq
                            rw [List.all_eq_false]
                            exact ⟨n, hn1, fun hnm => g2 ((isNm_iff.mp hnm).2.2 c' h)⟩
                      rw [← key]
                      exact k _ ((s19.trans s13).trans s14)
            · have e2 : isTx z = false := by unfold isTx; rw [decide_eq_false h8, Bool.and_false, Bool.false_and]
              rw [e2] at k
              exact iteT' (decide_eq_true (by rw [List.length_map]; omega)) (k _ s1)
        · have e2 : isTx z = false := by
            unfold isTx
            rw [hl, decide_eq_false (by simpa using hc), Bool.false_and, Bool.false_and]
          rw [e2] at k
          refine iteT' ?_ (k H (Same.refl H))
          have nv : V.str ⟨#[c]⟩ ≠ V.str "/" := fun e => hc (by
            have e : (⟨#[c]⟩ : Str) = "/" := by injection e
            have h : [c] = [47] := (congrArg tl e).trans slash_tl
            simpa using h)
          rw [decide_eq_false nv]
          rfl
    · exact ⟨_, rfl, x, .ty "str", t, .type "str", false, rfl, .ty "str", h1, h2, false, rfl, iteT (k H (Same.refl H))⟩
end
end NK

namespace NK
open PySem PySem.Spec PyProof.Rows L2 NA TL
theorem txt_back {z : Str} (h : isTx z = true) : txt (namesIn z) = z := by
  have h1 : (tl z).take 1 = [47] := by
    unfold isTx at h
    simp only [Bool.and_eq_true, decide_eq_true_eq] at h
    exact h.1.1
  apply ext_tl
  rw [txt_tl]
  have e0 : tl z = 47 :: (tl z).drop 1 := by
    cases hz : tl z with
    | nil => rw [hz] at h1; simp at h1
    | cons c r =>
      rw [hz] at h1
      have : c = 47 := by simpa using h1
      rw [this]; rfl
  unfold namesIn
  by_cases hs : z = "/"
  · rw [if_pos hs, hs, slash_tl]; rfl
  · rw [if_neg hs, List.map_map, show (tl ∘ Sx) = id from rfl, List.map_id, (spt_back _ _ (Nat.le_refl _)).1, ← e0]
theorem kit_ty {K : PySem.W.Frag} {a b : String} {r : Bool} (h : PySem.W.kitOne K (.type a) (.type b) = some r) : PySem.W.kitOne K (.type a) (.type b) = some r := h
section
variable {P : Program} {w : World} {K : PySem.W.Frag} {mg : Str → Option Value} {base : Heap} {A : Ad}
theorem Tx.textP (T : Tx P K mg A) : PropOf K A.c_Place "text" A.p_Place_text A.f_Place_text := ⟨T.at_Place_text, T.ge_Place_text, T.tk_Place_text, T.rc_Place_text⟩
theorem Tx.namesP (T : Tx P K mg A) : PropOf K A.c_Place "names" A.p_Place_names A.f_Place_names := ⟨T.at_Place_names, T.ge_Place_names, T.tk_Place_names, T.rc_Place_names⟩
def sp_lawis (A : Ad) : Sp := fun vs H Q _ => ∃ (l a : Addr) (z : Str), vs = [.ref l, .str z] ∧ H l = some (.lst [.ref a]) ∧ Pl A H a (namesIn z) ∧ isTx z = true ∧ z.length ≤ 100000 ∧ ∀ H', Same H H' → Q (.bl true) H'
theorem ok_lawis (T : Tx P K mg A) : FnR P w K mg base CX0 4 A.f_law_is (sp_lawis A) := by
  refine fnr T.F_law_is sc_law_is (fun _ _ _ _ _ _ us hl => match us, hl with | [_, _], _ => rfl) (fun vs H Q E h => ?_) (fun cdv A' outer s H vs Q E hr h => ?_)
  · obtain ⟨l, a, z, rfl, _⟩ := h; rfl
  · obtain ⟨l, a, z, rfl, hl, pa, hz, hlen, k⟩ := h
    refine ⟨_, pss_cons (ps_if (PW.pt (pw_or (pt_not (pt_val (pe_callB call_isi (by rfl) T.z_isinstance (by decide +kernel) (pa_cons (pv 0) (pa_cons (pe_bltn (v := .ty "list") (by rfl) T.z_list (by decide +kernel) rfl) pa_nil)))))
        (pw_or1 (pt_not (pt_val (pe_callB call_isi (by rfl) T.z_isinstance (by decide +kernel) (pa_cons (pe_ix ix_list (pv 0) pe_int (fun _ _ => rfl)) (pa_cons (pe_glob (v := .ref A.c_Place) (by rfl) T.mg_Place rfl) pa_nil)))))))) (pss_one (ps_ret pe_bl)) pss_nil)
      (pss_jn (ps_set (i := 2) sc_law_is.nd rfl (.inl rfl) (pe_ifExp (pt_cmpR op_ne (pv 1) pe_str (nomark _)) (pe_callTy call_tuple_of (by rfl) T.z_tuple (by decide +kernel) (pa_cons (pe_split (pe_slice sl_str (pv 1) (po_some pe_int) po_none) pe_str) pa_nil)) (pe_tup pa_nil)))
      (pss_one (ps_ret (pe_and (pe_cmpR op_eq (pe_prp (pe_ix ix_list (pv 0) pe_int (fun _ _ => rfl)) T.cl T.textP (ok_text T) (hr.mono (by decide)) noErr) (pv 1) (nomark _))
        (pe_one (pe_cmpR (op_eqD hr.units) (pe_prp (pe_ix ix_list (pv 0) pe_int (fun _ _ => rfl)) T.cl T.namesP (ok_names T) (hr.mono (by decide)) noErr) (pv 2) (nomark _))))))), ?_⟩
    obtain ⟨dx, fs, ea⟩ := pa.ins
    refine ⟨_, rfl, .ref l, .ty "list", .type "list", .type "list", true, rfl, .ty "list", .base (.lst hl), kit_self, true, rfl, iteF ?_⟩
    refine ⟨_, rfl, l, _, _, _, rfl, rfl, SqL.of hl, rfl, .ref a, .ref A.c_Place, .ref A.c_Place, .ref A.c_Place, true, rfl, .own _, T.tyP ea, kit_self, true, rfl, iteF ?_⟩
    refine ⟨fun σ' H' => ∃ t, σ' = [some (.ref l), some (.str z), some (.ref t)] ∧ Same H H' ∧ H' t = some (.tup ((namesIn z).map V.str)), ?_, ?_⟩
    · refine s_set ⟨_, rfl, rfl, _, rfl, ?_⟩
      by_cases hs : z = "/"
      · refine iteF' (by rw [hs]; decide +kernel) ⟨sz (by show 0 ≤ 1000000; omega), fun p hp => ⟨p, rfl, Same.new hp, ?_⟩⟩
        rw [upd_same, hs]
        rfl
      · refine iteT' (by
          have : V.str z ≠ V.str "/" := fun e => hs (by injection e)
          simp [this]) ?_
        have hn : namesIn z = (spt ((tl z).drop 1)).map Sx := by unfold namesIn; rw [if_neg hs]
        refine ⟨_, rfl, _, rfl, z, rfl, sz (by omega), ⟨_, rfl⟩, _, _, rfl, rfl, by decide +kernel, ?_, fun p hp => ?_⟩
        · rw [show (some (1 : Int)) = some ((1 : Nat) : Int) from rfl, cut_from z 1, Sx_len, List.length_drop, ← len_tl]
          exact sz (by omega)
        rw [show (some (1 : Int)) = some ((1 : Nat) : Int) from rfl, cut_from z 1, split_spt, ← hn] at *
        refine ⟨p, _, rfl, .inl ⟨SqL.of upd_same, fun q hq => ⟨q, rfl, (Same.new hp).trans (Same.new hq), upd_same⟩⟩⟩
    · rintro σ' H' ⟨t, rfl, s1, ht⟩
      have hl1 := s1 _ _ hl
      have pa1 := pa.same s1
      have ea1 := s1 _ _ ea
      refine ⟨_, rfl, l, _, _, _, rfl, rfl, SqL.of hl1, rfl, a, dx, fs, rfl, ea1, a, _, rfl, pa1, ?_⟩
      refine ⟨_, rfl, rfl, _, rfl, iteT' (decide_eq_true (by rw [txt_back hz])) ?_⟩
      refine ⟨_, rfl, l, _, _, _, rfl, rfl, SqL.of hl1, rfl, a, dx, fs, rfl, ea1, a, _, rfl, pa1, fun t2 h2 => ⟨_, rfl, ?_⟩⟩
      refine c_eqT pa1.good.oks pa1.good.oks (SqT.of h2) (SqT.of ht) ?_
      rw [decide_eq_true rfl]
      exact k H' s1
end
end NK

namespace NK
open PySem PySem.Spec PyProof.Rows L2 NA TL LamX
/-- a tracked list changed leaves the tables -/
theorem tabs_mut {T : List (Addr × Str)} {H H' : Hp} {l : Addr} {xs : List V} (hl : H l = some (.lst xs)) (e : Sam l H H') (t : Tabs T H) : Tabs T H' := fun p hp => by
  obtain ⟨ps, h1, h2, h3⟩ := t p hp
  have ne : ∀ {b : Addr} {o : HO}, H b = some o → (∀ xs, o ≠ .lst xs) → b ≠ l := fun {b o} h n z => by
    rw [z, hl] at h
    exact n xs (Option.some.inj h).symm
  refine ⟨ps, e _ _ (ne h1 fun _ z => nomatch z) h1, h2, fun pos cv hc => ?_⟩
  obtain ⟨c, e1, e2⟩ := h3 pos cv hc
  exact ⟨c, e1, e _ _ (ne e2 fun _ z => nomatch z) e2⟩
theorem Pl.extN {A : Ad} {H H' : Hp} {a : Addr} {ns : List Str} (h : Pl A H a ns) (e : ExtN H H') : Pl A H' a ns := by
  obtain ⟨g, dx, t, h1, h2⟩ := h
  exact ⟨g, dx, t, e _ _ h1 (fun _ z => nomatch z), e _ _ h2 (fun _ z => nomatch z)⟩
/-- what the law asks about -/
inductive Odd (H : Hp) : V → PyData → Prop
  | non : Odd H .non .none
  | bl (b : Bool) : Odd H (.bl b) (.bool b)
  | int {i : Int} : (i = 0 ∨ i = 7) → Odd H (.int i) (.int i)
  | str {z : Str} : Sm 10000 z → Odd H (.str z) (.str z)
  | lst0 {a : Addr} : H a = some (.lst []) → a ≠ sysModules → Odd H (.ref a) (.list [])
  | lst1 {a : Addr} {z : Str} : H a = some (.lst [.str z]) → a ≠ sysModules → Sm 10000 z → Odd H (.ref a) (.list [.str z])
  | tup1 {a : Addr} {z : Str} : H a = some (.tup [.str z]) → Sm 10000 z → Odd H (.ref a) (.tuple [.str z])
  | dic0 {a : Addr} : H a = some (.dK []) → Odd H (.ref a) (.dict [])
  | dic1 {a : Addr} {z : Str} : H a = some (.dK [(.inr z, .str z)]) → Sm 10000 z → Odd H (.ref a) (.dict [(.str z, .str z)])
theorem Odd.map {H H' : Hp} {x : V} {d : PyData} (h : Odd H x d) (e : ∀ a o, x = .ref a → H a = some o → (∀ ps, o ≠ .tbl ps) → H' a = some o) : Odd H' x d := by
  cases h with
  | non => exact .non
  | bl b => exact .bl b
  | int h => exact .int h
  | str h => exact .str h
  | lst0 h n => exact .lst0 (e _ _ rfl h fun _ z => nomatch z) n
  | lst1 h n z => exact .lst1 (e _ _ rfl h fun _ z => nomatch z) n z
  | tup1 h z => exact .tup1 (e _ _ rfl h fun _ z => nomatch z) z
  | dic0 h => exact .dic0 (e _ _ rfl h fun _ z => nomatch z)
  | dic1 h z => exact .dic1 (e _ _ rfl h fun _ z => nomatch z) z
theorem Odd.ext {H H' : Hp} {x : V} {d : PyData} (h : Odd H x d) (e : ExtN H H') : Odd H' x d := h.map fun a o _ => e a o
theorem Odd.dq {K : PySem.W.Frag} {H : Hp} {x : V} {d : PyData} (h : Odd H x d) : Dq K H x d := by
  cases h with
  | non => exact .non
  | bl b => exact .bl b
  | int h => exact .int _
  | str h => exact .str _
  | lst0 h n => exact .lst h n .nil
  | lst1 h n z => exact .lst h n (.cons (.str _) .nil)
  | tup1 h z => exact .tup h (.cons (.str _) .nil)
  | dic0 h => exact .dic0 h
  | dic1 h z => exact .dic1 h
theorem Sm.short {n : Nat} {z : Str} (h : Sm n z) : (PyData.str z).leavesShort 13 = true := by
  simp only [PyData.leavesShort, List.all_eq_true, decide_eq_true_eq]
  intro c hc
  have := h.2 c hc
  exact Nat.lt_trans this (by decide)
theorem Odd.fit {H : Hp} {x : V} {d : PyData} (h : Odd H x d) : d.leavesShort 13 = true ∧ d.bulk ≤ 30000 ∧ d.showable = true ∧ d.depth ≤ 1 := by
  have sz' : ∀ {z : Str}, Sm 10000 z → z.cps.size ≤ 10000 := fun h => h.1
  cases h with
  | non => exact ⟨rfl, by simp [PyData.bulk], rfl, by simp [PyData.depth]⟩
  | bl b => exact ⟨rfl, by simp [PyData.bulk], rfl, by simp [PyData.depth]⟩
  | int h => rcases h with rfl | rfl <;> exact ⟨by decide +kernel, by simp [PyData.bulk], by decide +kernel, by simp [PyData.depth]⟩
  | str h => exact ⟨h.short, by have := sz' h; simp only [PyData.bulk]; omega, rfl, by simp [PyData.depth]⟩
  | lst0 h n => exact ⟨rfl, by simp [PyData.bulk, PyData.bulkAll], rfl, by simp [PyData.depth, PyData.depthAll]⟩
  | lst1 h n z => exact ⟨by simp only [PyData.leavesShort, PyData.leavesShortAll, Bool.and_true]; exact z.short, by have := sz' z; simp only [PyData.bulk, PyData.bulkAll]; omega, rfl, by simp [PyData.depth, PyData.depthAll]⟩
  | tup1 h z => exact ⟨by simp only [PyData.leavesShort, PyData.leavesShortAll, Bool.and_true]; exact z.short, by have := sz' z; simp only [PyData.bulk, PyData.bulkAll]; omega, rfl, by simp [PyData.depth, PyData.depthAll]⟩
  | dic0 h => exact ⟨rfl, by simp [PyData.bulk, PyData.bulkKv], rfl, by simp [PyData.depth, PyData.depthKv]⟩
  | dic1 h z => exact ⟨by simp only [PyData.leavesShort, PyData.leavesShortKv, Bool.and_true, Bool.and_self]; exact z.short, by have := sz' z; simp only [PyData.bulk, PyData.bulkKv]; omega, rfl, by simp [PyData.depth, PyData.depthKv]⟩
section
variable {P : Program} {w : World} {K : PySem.W.Frag} {mg : Str → Option Value} {base : Heap} {A : Ad}
theorem Odd.isP (T : Tx P K mg A) {H : Hp} {x : V} {d : PyData} (h : Odd H x d) : IsP A K H x false := by
  cases h with
  | non => exact ⟨_, .base .non, kit_sub rfl T.ic_Place T.ty_Place T.suNoneType_Place⟩
  | bl b => exact ⟨_, .base (.bl b), kit_sub rfl T.ic_Place T.ty_Place T.subool_Place⟩
  | int h => exact ⟨_, .base (.int _), kit_sub rfl T.ic_Place T.ty_Place T.suint_Place⟩
  | str h => exact ⟨_, .base (.str _), T.kSC⟩
  | lst0 h n => exact ⟨_, .base (.lst h), kit_sub rfl T.ic_Place T.ty_Place T.sulist_Place⟩
  | lst1 h n z => exact ⟨_, .base (.lst h), kit_sub rfl T.ic_Place T.ty_Place T.sulist_Place⟩
  | tup1 h z => exact ⟨_, .base (.tup h), kit_sub rfl T.ic_Place T.ty_Place T.sutuple_Place⟩
  | dic0 h => exact ⟨_, .base (.dK h), kit_sub rfl T.ic_Place T.ty_Place T.sudict_Place⟩
  | dic1 h z => exact ⟨_, .base (.dK h), kit_sub rfl T.ic_Place T.ty_Place T.sudict_Place⟩
theorem kitS {K : PySem.W.Frag} : PySem.W.kitOne K (.type "NoneType") (.type "str") = some false ∧ PySem.W.kitOne K (.type "bool") (.type "str") = some false ∧ PySem.W.kitOne K (.type "int") (.type "str") = some false ∧ PySem.W.kitOne K (.type "list") (.type "str") = some false ∧
    PySem.W.kitOne K (.type "tuple") (.type "str") = some false ∧ PySem.W.kitOne K (.type "dict") (.type "str") = some false := ⟨rfl, rfl, rfl, rfl, rfl, rfl⟩
/-- is it the text of a place -/
def isT : V → Bool
  | .str z => isTx z
  | _ => false
theorem Odd.txv {H : Hp} {x : V} {d : PyData} (h : Odd H x d) : TxV K H x (isT x) := by
  obtain ⟨k1, k2, k3, k4, k5, k6⟩ := kitS (K := K)
  cases h with
  | non => exact .inr ⟨rfl, _, .base .non, k1⟩
  | bl b => exact .inr ⟨rfl, _, .base (.bl b), k2⟩
  | int h => exact .inr ⟨rfl, _, .base (.int _), k3⟩
  | str h => exact .inl ⟨_, rfl, by have := h.1; omega, rfl⟩
  | lst0 h n => exact .inr ⟨rfl, _, .base (.lst h), k4⟩
  | lst1 h n z => exact .inr ⟨rfl, _, .base (.lst h), k4⟩
  | tup1 h z => exact .inr ⟨rfl, _, .base (.tup h), k5⟩
  | dic0 h => exact .inr ⟨rfl, _, .base (.dK h), k6⟩
  | dic1 h z => exact .inr ⟨rfl, _, .base (.dK h), k6⟩
theorem isT_str {x : V} (h : isT x = true) : ∃ z, x = .str z ∧ isTx z = true := by
  cases x with
  | str z => exact ⟨z, rfl, h⟩
  | _ => cases h
/-- what was heard of x -/
def Hd (A : Ad) (x : V) (H : Hp) (q : Addr) : Prop := (isT x = true → ∃ z a, x = .str z ∧ H q = some (.lst [.ref a]) ∧ Pl A H a (namesIn z)) ∧ (isT x = false → H q = some (.tup [.str "place", x]))
theorem Hd.map {x : V} {H H' : Hp} {q l : Addr} {xs : List V} (h : Hd A x H q) (hl : H l = some (.lst xs)) (hq : q ≠ l) (e : Sam l H H') : Hd A x H' q := by
  refine ⟨fun z => ?_, fun z => e _ _ hq (h.2 z)⟩
  obtain ⟨t, a, e1, e2, e3⟩ := h.1 z
  exact ⟨t, a, e1, e _ _ hq e2, e3.sam hl e⟩
theorem Hd.ext {x : V} {H H' : Hp} {q : Addr} (h : Hd A x H q) (e : ExtN H H') : Hd A x H' q := by
  refine ⟨fun z => ?_, fun z => e _ _ (h.2 z) (fun _ z => nomatch z)⟩
  obtain ⟨t, a, e1, e2, e3⟩ := h.1 z
  exact ⟨t, a, e1, e _ _ e2 (fun _ z => nomatch z), e3.extN e⟩
theorem Hd.some {x : V} {H : Hp} {q : Addr} (h : Hd A x H q) : ∃ o, H q = some o := by
  cases b : isT x with
  | true => obtain ⟨_, _, _, e, _⟩ := h.1 b; exact ⟨_, e⟩
  | false => exact ⟨_, h.2 b⟩
theorem v_heard {x : V} {t : XK → TE} {σ : L2.St} {H : Hp} {Q : VK} (hT : Tabs (Tb A) H)
    (h : ∀ H1, ExtN H H1 → ∀ (E1 : XK) (Q1 : VK), (isT x = true → ∀ z, x = .str z → RetP A H1 (namesIn z) Q1) → (isT x = false → ErrP A H1 x E1) → t E1 σ H1 Q1)
    (k : ∀ q H', ExtN H H' → Tabs (Tb A) H' → (∀ b o, H b = some o → (∀ ps, o ≠ .tbl ps) → b ≠ q) → Hd A x H' q → Q (.ref q) H') : tLam (Tb A) (TTh A) t σ H Q := by
  refine ⟨hT, fun H1 e1 t1 => ?_⟩
  have fin : ∀ q H', Same H1 H' → H1 q = none → Hd A x H' q → Q (.ref q) H' := fun q H' s1 hq hd =>
    k q H' (e1.trans (.of s1)) (t1.ext s1) (fun b o hb hn => ne_of_none (e1 b o hb hn) hq) hd
  refine ⟨fun cls d H' => isT x = false ∧ cls = .ref A.c_BadPlace ∧ ∃ H2 dd, Same H1 H2 ∧ H2 dd = none ∧ d = some dd ∧ H' = upd H2 dd (.xd [("value", x)]), fun v H' => ∃ z a, isT x = true ∧ x = .str z ∧ v = .ref a ∧ Same H1 H' ∧ Pl A H' a (namesIn z), ?_, ?_, ?_⟩
  · refine h H1 e1 _ _ (fun b z e a H' ha s1 pa => ⟨z, a, b, e, rfl, s1, pa⟩) (fun b H' d s1 hd => ⟨b, rfl, H', d, s1, hd, rfl, rfl⟩)
  · rintro v H' ⟨z, a, b, e, rfl, s1, pa⟩ p hp
    refine fin p _ (s1.trans (Same.new hp)) (s1.free hp) ⟨fun _ => ⟨z, a, e, upd_same, pa.same (Same.new hp)⟩, fun z => by rw [b] at z; cases z⟩
  · rintro cls d H' ⟨b, rfl, H2, dd, s1, hd, rfl, rfl⟩
    refine ⟨rfl, dd, x, rfl, upd_same, fun a p ha hp => ?_⟩
    have s2 : Same H1 (upd (upd H2 dd (.xd [("value", x)])) a (HeldO (.ref A.c_BadPlace) (some dd) a)) := (s1.trans (Same.new hd)).trans (Same.new ha)
    exact fin p _ (s2.trans (Same.new hp)) (s2.free hp) ⟨(fun z => by rw [b] at z; cases z), fun _ => upd_same⟩
theorem Tx.inS (T : Tx P K mg A) : Spc K A.c_Place "__contains__" A.f_Place_contains := ⟨T.at_Place_contains, T.fn_Place_contains⟩
theorem v_mk0 {H : Hp} {Q : VK} {E : XK} {σ : L2.St} (k : RetP A H [] Q) : StX.tMakeR A.c_Place (sp_init A) E tNil σ H Q := mk_pl (ns := []) good_nil k
/-- the pair that is heard of what is no text of a place -/
theorem dq_pair {H : Hp} {x : V} {d : PyData} {q : Addr} (o : Odd H x d) (h : H q = some (.tup [.str "place", x])) : Dq K H (.ref q) (.tuple [.str "place", d]) := .tup h (.cons (.str _) (.cons o.dq .nil))
theorem fit_pair {H : Hp} {x : V} {d : PyData} (o : Odd H x d) : (PyData.list [.tuple [.str "place", d], .tuple [.str "place", d]]).showable = true ∧ (PyData.list [.tuple [.str "place", d], .tuple [.str "place", d]]).depth ≤ 40 ∧
    (PyData.list [.tuple [.str "place", d], .tuple [.str "place", d]]).shown.length ≤ sizeLine := by
  obtain ⟨h1, h2, h3, h4⟩ := o.fit
  have e1 : (PyData.str "place").leavesShort 13 = true := by decide +kernel
  have e2 : (PyData.str "place").bulk = 5 := by decide +kernel
  refine ⟨?_, ?_, PyData.shown_fits_bulk (B := 13) (by decide) (by decide) ?_ ?_⟩
  · simp only [PyData.showable, PyData.showableAll, h3, Bool.and_true]
  · simp only [PyData.depth, PyData.depthAll]; omega
  · simp only [PyData.leavesShort, PyData.leavesShortAll, h1, Bool.and_true]
    exact e1
  · simp only [PyData.bulk, PyData.bulkAll] at e2 ⊢; omega
def sp_right (A : Ad) : Sp := fun vs H Q _ => ∃ x d, vs = [x] ∧ Odd H x d ∧ Tabs (Tb A) H ∧ ∀ H', ExtN H H' → Tabs (Tb A) H' → Q (.bl true) H'
theorem ok_right (T : Tx P K mg A) (TB : LamX.TabB base mg A.k_law_right A.t_law_right) : FnG P w K mg base CX0 10 A.f_law_right (sp_right A) := by
  refine fng T.FK_law_right sc_law_right (fun _ _ _ _ _ _ us hl => match us, hl with | [_], _ => rfl) (fun vs H Q E h => ?_) (fun A' outer s H vs Q E hr hg h => ?_)
  · obtain ⟨x, d, rfl, _⟩ := h; rfl
  · obtain ⟨x, d, rfl, ho, hT, k⟩ := h
    have hu : ∀ p ∈ Tb A, p.1 = A.t_law_right → p.2 = ("_law_right.<locals>.<lambda>" : Str) := fun p hp e => by
      simp only [List.mem_cons, List.not_mem_nil, or_false] at hp
      rcases hp with rfl | rfl
      · rfl
      · exact (T.nn_law_right_law e.symm).elim
    refine ⟨_, pss_cons (ps_set (i := 1) sc_law_right.nd rfl (.inl rfl) (pe_lstN (pa_cons (pe_heard (k := 5) T (by rfl) TB rfl List.mem_cons_self hu (hr.mono (by decide)) (LamX.lamS_by (sc := defScope s_law_right) (by decide +kernel)) rfl (fun _ _ _ _ _ => rfl)
      (fun _ _ _ _ _ _ _ hr' => pe_cmethK (pe_glob (v := .ref A.c_Place) (by rfl) T.mg_Place rfl) T.rdP T.readC (ok_readK T) (hr'.mono (by decide)) passLam (pk_cons (pv 0) pk_nil))) pa_nil)))
    (pss_cons (ps_expr (pe_bm PySem.F.plainAttrs_list PySem.F.slot_list_append PySem.F.type_list_append mt_append (pv 1) (pa_cons (pe_heard (k := 5) T (by rfl) TB rfl List.mem_cons_self hu (hr.mono (by decide)) (LamX.lamS_by (sc := defScope s_law_right) (by decide +kernel)) rfl (fun _ _ _ _ _ => rfl)
      (fun _ _ _ _ _ _ _ hr' => pe_smeth (pe_glob (v := .ref A.c_Place) (by rfl) T.mg_Place rfl) T.rdP T.ofS (ok_of T) (hr'.mono (by decide)) passLam (pa_cons (pv 0) pa_nil))) pa_nil)))
    (pss_cons (ps_if (pt_val (pe_cl (ok_lis T) (hr.mono (by decide)) (by rfl) T.mg_law_is_text T.kp_law_is_text pass0 (pa_cons (pv 0) pa_nil)))
        (pss_one (ps_ret (pe_and (pe_cl (ok_lawis T) (hr.mono (by decide)) (by rfl) T.mg_law_is T.kp_law_is pass0 (pa_cons (pe_ix ix_list (pv 1) pe_int (fun _ _ => rfl)) (pa_cons (pv 0) pa_nil)))
          (pe_and (pe_cl (ok_lawis T) (hr.mono (by decide)) (by rfl) T.mg_law_is T.kp_law_is pass0 (pa_cons (pe_ix ix_list (pv 1) pe_int (fun _ _ => rfl)) (pa_cons (pv 0) pa_nil)))
          (pe_one (pe_cmpR (op_inC T.inS (ok_contains T) (hr.mono (by decide)) pass0) (pv 0) (pe_mk0 T.mkP (ok_init T) (hr.mono (by decide)) (by rfl) T.mg_Place pass0) rfl)))))) pss_nil)
    (pss_one (ps_ret (pe_and (pe_cmpR op_eq (pe_callB (call_reprD hg hr.units) (by rfl) T.z_repr (by decide +kernel) (pa_cons (pv 1) pa_nil))
        (pe_callB (call_reprD hg hr.units) (by rfl) T.z_repr (by decide +kernel) (pa_cons (pe_lstN (pa_cons (pe_tup (pa_cons pe_str (pa_cons (pv 0) pa_nil))) (pa_cons (pe_tup (pa_cons pe_str (pa_cons (pv 0) pa_nil))) pa_nil))) pa_nil)) (nomark _))
      (pe_one (pe_cmpR (op_notInC T.inS (ok_contains T) (hr.mono (by decide)) pass0) (pv 0) (pe_mk0 T.mkP (ok_init T) (hr.mono (by decide)) (by rfl) T.mg_Place pass0) rfl))))))), ?_⟩
    refine q_set (v_heard (x := x) hT (fun H1 e1 E1 Q1 q1 q2 => ?_) fun q1 H1 e1 t1 f1 d1 => ?_)
    · exact ⟨rfl, _, rfl, rfl, x, _, rfl, (ho.ext e1).txv, fun z e b => q1 b z e, q2⟩
    refine ⟨sz (by show 1 ≤ 1000000; omega), fun l hl hls => ?_⟩
    have s2 := Same.new (o := .lst [V.ref q1]) hl
    have d2 := d1.ext (.of s2)
    have nq1 : q1 ≠ l := by
      obtain ⟨o, e⟩ := d1.some
      exact ne_of_none e hl
    have e2 : ExtN H (upd H1 l (.lst [V.ref q1])) := e1.trans (.of s2)
    have t2 := t1.ext s2
    have hl2 : upd H1 l (.lst [V.ref q1]) l = some (.lst [V.ref q1]) := upd_same
    have nlH : ∀ b o, H b = some o → (∀ ps, o ≠ .tbl ps) → b ≠ l := fun b o hb hn => ne_of_none (e1 b o hb hn) hl
    generalize upd H1 l (.lst [V.ref q1]) = H2 at s2 d2 e2 t2 hl2 ⊢
    refine ⟨_, rfl, .inl ⟨rfl, _, SqL.of hl2⟩, v_heard (x := x) t2 (fun H3 e3 E1 Q1 q1 q2 => ?_) fun q2 H3 e3 t3 f3 d3 => ?_⟩
    · have o3 := (ho.ext e2).ext e3
      exact ⟨rfl, _, rfl, x, false, isT x, rfl, o3.isP T, (fun z => nomatch z), fun _ => o3.txv, fun z e b _ => q1 b z e, fun _ => q2⟩
    have hl3 := e3 _ _ hl2 (fun _ z => nomatch z)
    have nq2 : q2 ≠ l := (f3 l _ hl2 (fun _ z => nomatch z)).symm
    refine ⟨l, _, .ref q2, rfl, rfl, hl3, szl (by show 1 ≤ 1000000; omega), ?_⟩
    have sm : Sam l H3 (upd H3 l (.lst ([V.ref q1] ++ [V.ref q2]))) := Sam.upd (Sam.refl H3)
    have hl4 : upd H3 l (.lst ([V.ref q1] ++ [V.ref q2])) l = some (.lst [V.ref q1, V.ref q2]) := upd_same
    have t4 := tabs_mut hl3 sm t3
    have da := (d2.ext e3).map hl3 nq1 sm
    have db := d3.map hl3 nq2 sm
    have e4 : ExtN H (upd H3 l (.lst ([V.ref q1] ++ [V.ref q2]))) := fun b o hb hn => by
      rw [upd_ne (nlH b o hb hn)]
      exact (e2.trans e3) b o hb hn
    generalize upd H3 l (.lst ([V.ref q1] ++ [V.ref q2])) = H4 at hl4 t4 da db e4 ⊢
    have o4 := ho.ext e4
    refine ⟨_, rfl, x, _, rfl, o4.txv, (fun z e => by subst e; cases o4 with | str h => exact h), fun H5 s5 => ⟨_, rfl, ?_⟩⟩
    have hl5 := s5 _ _ hl4
    have da := da.ext (.of s5)
    have db := db.ext (.of s5)
    have o5 := o4.ext (.of s5)
    have e5 := e4.trans (.of s5)
    have t5 := t4.ext s5
    cases b : isT x with
    | true =>
      refine iteT ?_
      obtain ⟨z, a1, ex, h1, p1⟩ := da.1 b
      obtain ⟨z', a2, ex', h2, p2⟩ := db.1 b
      rw [ex] at ex'
      cases ex'
      subst ex
      have hsm : Sm 10000 z := by cases o5 with | str h => exact h
      have hlen : z.length ≤ 100000 := by have := hsm.1; omega
      refine ⟨_, rfl, l, _, _, _, rfl, rfl, SqL.of hl5, rfl, _, rfl, q1, a1, z, rfl, h1, p1, b, hlen, fun H6 s6 => ⟨_, rfl, iteT ?_⟩⟩
      refine ⟨_, rfl, l, _, _, _, rfl, rfl, SqL.of (s6 _ _ hl5), rfl, _, rfl, q2, a2, z, rfl, s6 _ _ h2, p2.same s6, b, hlen, fun H7 s7 => ⟨_, rfl, iteT ?_⟩⟩
      refine ⟨_, rfl, v_mk0 fun y H8 hy s8 p8 => ?_⟩
      obtain ⟨dx, fs, ey⟩ := p8.ins
      have o8 := o5.ext (.of ((s6.trans s7).trans s8))
      refine ⟨y, dx, fs, rfl, ey, y, .str z, [], rfl, p8, .inr ⟨o8.isP T, .inl ⟨z, rfl, hlen, fun H9 s9 => ⟨_, rfl, ?_⟩⟩⟩⟩
      have e9 : Same H5 H9 := ((s6.trans s7).trans s8).trans s9
      have ei : (isTx z && decide ((namesIn z).take ([] : List Str).length = [])) = true := by
        rw [show isTx z = true from b]; simp
      rw [ei]
      exact k H9 (e5.trans (.of e9)) (t5.ext e9)
    | false =>
      refine iteF ?_
      have h1 := da.2 b
      have h2 := db.2 b
      obtain ⟨f1, f2, f3⟩ := fit_pair o5
      refine ⟨_, rfl, l, _, rfl, .lst hl5 hls (.cons (dq_pair o5 h1) (.cons (dq_pair o5 h2) .nil)), f1, f2, f3, ?_⟩
      refine ⟨_, rfl, sz (by show 2 ≤ 1000000; omega), fun u1 hu1 => ⟨_, rfl, sz (by show 2 ≤ 1000000; omega), fun u2 hu2 => ⟨sz (by show 2 ≤ 1000000; omega), fun m hm hms => ?_⟩⟩⟩
      have g1 := Same.new (o := .tup [V.str "place", x]) hu1
      have g2 := Same.new (o := .tup [V.str "place", x]) hu2
      have g3 := Same.new (o := .lst [V.ref u1, V.ref u2]) hm
      have g := (g1.trans g2).trans g3
      have o6 := o5.ext (.of g)
      refine ⟨m, _, rfl, .lst upd_same hms (.cons (dq_pair o6 (g3 _ _ (g2 _ _ upd_same))) (.cons (dq_pair o6 (g3 _ _ upd_same)) .nil)), f1, f2, f3, ?_⟩
      refine ⟨rfl, _, rfl, iteT' (decide_eq_true rfl) ?_⟩
      refine ⟨_, rfl, v_mk0 fun y H8 hy s8 p8 => ?_⟩
      obtain ⟨dx, fs, ey⟩ := p8.ins
      have o8 := o6.ext (.of s8)
      refine ⟨y, dx, fs, rfl, ey, y, x, [], rfl, p8, .inr ⟨o8.isP T, ?_⟩⟩
      have fin : ∀ H9, Same H8 H9 → Q (.bl true) H9 := fun H9 s9 => by
        have e9 : Same H5 H9 := (g.trans s8).trans s9
        exact k H9 (e5.trans (.of e9)) (t5.ext e9)
      rcases o8.txv (K := K) with ⟨z, rfl, hz, ez⟩ | ⟨_, t, ty, kt⟩
      · refine .inl ⟨z, rfl, hz, fun H9 s9 => ⟨_, rfl, ?_⟩⟩
        rw [show isTx z = false from b]
        exact fin H9 s9
      · exact .inr ⟨⟨t, ty, kt⟩, fun H9 s9 => ⟨_, rfl, fin H9 s9⟩⟩
end
end NK

namespace NK
open PySem PySem.Spec PyProof.Rows L2 NA TL LamX
theorem passF {X : Cx} : Passes (L2.CX X.prog X.w) X (fun _ _ _ => False) := passes_call LamX.takes0 (fun _ _ _ _ h => h)
theorem kit_subT {K : PySem.W.Frag} {C : Addr} {b : Bool} (h : PySem.W.subIn K (.ref C) (.type "str") = some b) : PySem.W.kitOne K (.ref C) (.type "str") = some b := by
  unfold PySem.W.kitOne
  rw [if_neg (by simp)]
  show (if PySem.W.kitMeta "str" = true then PySem.W.subIn K (.ref C) (.type "str") else none) = some b
  rw [if_pos (by decide +kernel), h]
theorem Pen.extN {L : Addr} {H H' : Hp} {pn : Addr} {b : Nat} (h : Pen L H pn b) (e : ExtN H H') : Pen L H' pn b := by
  obtain ⟨ns, a, r, h1, h2, h3⟩ := h
  exact ⟨ns, a, r, e _ _ h1 (fun _ z => nomatch z), e _ _ h2 (fun _ z => nomatch z), h3⟩
section
variable {P : Program} {w : World} {K : PySem.W.Frag} {mg : Str → Option Value} {base : Heap} {A : Ad}
theorem Tx.eqS (T : Tx P K mg A) : Spc K A.c_Place "__eq__" A.f_Place_eq := ⟨T.at_Place_eq, T.fn_Place_eq⟩
theorem Tx.neS (T : Tx P K mg A) : NeC K A.c_Place := ⟨T.ob_Place, T.ne_Place⟩
theorem v_eq {H : Hp} {a b : Addr} {ns ms : List Str} {Q : VK} {E : XK} {neg : Bool} (h : Pl A H a ns) (h' : Pl A H b ms) (k : Q (.bl (if neg then !decide (ns = ms) else decide (ns = ms))) H) : rEqC A.c_Place (sp_eq A) E neg (.ref a) (.ref b) H Q := by
  obtain ⟨dx, fs, e⟩ := h.ins
  obtain ⟨dy, gs, e'⟩ := h'.ins
  exact ⟨a, dx, fs, b, dy, gs, rfl, rfl, e, e', a, b, ns, ms, rfl, h, h', _, rfl, k⟩
def spLaw (A : Ad) (K : PySem.W.Frag) : Sp := fun vs H Q _ => ∃ (a : Addr) (ns : List Int), vs = [.ref a] ∧ SqL K H a (ns.map V.int) ∧ ns.length ≤ 63 ∧ Tabs (Tb A) H ∧ ∀ H', Q (.bl true) H'
theorem ok_law (T : Tx P K mg A) (TB : LamX.TabB base mg A.k_law_right A.t_law_right) (TB2 : LamX.TabB base mg A.k_law A.t_law) : FnG P w K mg base CX0 11 A.f_law (spLaw A K) := by
  refine fng T.FK_law sc_law (fun _ _ _ _ _ _ us hl => match us, hl with | [_], _ => rfl) (fun vs H Q E h => ?_) (fun A' outer s H vs Q E hr hg h => ?_)
  · obtain ⟨a, ns, rfl, _⟩ := h; rfl
  · obtain ⟨a, ns, rfl, hS, hns, hT, k⟩ := h
    have hu : ∀ p ∈ Tb A, p.1 = A.t_law → p.2 = ("law.<locals>.<lambda>" : Str) := fun p hp e => by
      simp only [List.mem_cons, List.not_mem_nil, or_false] at hp
      rcases hp with rfl | rfl
      · exact (T.nn_law_right_law e).elim
      · rfl
    have r1 : Room 1 _ := hr.mono (by decide)
    have r2 : Room 2 _ := hr.mono (by decide)
    have r3 : Room 3 _ := hr.mono (by decide)
    have r4 : Room 4 _ := hr.mono (by decide)
    have r7 : Room 7 _ := hr.mono (by decide)
    refine ⟨_, pss_cons (ps_set (i := 1) sc_law.nd rfl (.inl rfl) (pe_cl (ok_pen T) r1 (by rfl) T.mg_law_pen T.kp_law_pen pass0 (pa_cons (pv 0) pa_nil)))
      (pss_jn (ps_for PassesOwn.never rfl (pi_range1 (by rfl) T.z_range (pa_cons pe_int pa_nil)) (pg_name (i := 2) sc_law.nd rfl (.inl rfl))
        (pss_cons (ps_set (i := 3) sc_law.nd rfl (.inl rfl) (pe_cl (ok_ltext T) r3 (by rfl) T.mg_law_text T.kp_law_text pass0 (pa_cons (pv 1) pa_nil)))
        (pss_jn (ps_for PassesOwn.never rfl (pi_range1 (by rfl) T.z_range (pa_cons (pe_cl (ok_draw T) r1 (by rfl) T.mg_law_draw T.kp_law_draw pass0 (pa_cons (pv 1) (pa_cons pe_int pa_nil))) pa_nil)) (pg_name (i := 4) sc_law.nd rfl (.inl rfl))
          (pss_one (ps_set (i := 3) sc_law.nd rfl (.inl rfl) (pe_cl (ok_spoiled T) r3 (by rfl) T.mg_law_spoiled T.kp_law_spoiled pass0 (pa_cons (pv 1) (pa_cons (pv 3) pa_nil))))))
        (pss_cons (ps_if (pt_not (pt_val (pe_clG (ok_right T TB) hr hg (by rfl) T.mg_law_right T.kp_law_right pass0 (pa_cons (pv 3) pa_nil)))) (pss_one (ps_ret pe_bl)) pss_nil)
        (pss_jn (ps_set (i := 5) sc_law.nd rfl (.inl rfl) (pe_cl (ok_pick T) r2 (by rfl) T.mg_law_pick T.kp_law_pick pass0 (pa_cons (pv 1) (pa_cons (pe_lst
            (pa_cons pe_non (pa_cons pe_bl (pa_cons pe_bl (pa_cons pe_int (pa_cons pe_int (pa_cons (pe_lstN (pa_cons (pv 3) pa_nil)) (pa_cons (pe_tup (pa_cons (pv 3) pa_nil)) (pa_cons pe_dnewK
            (pa_cons (pe_disp (pps_cons (pv 3) (pv 3) pps_nil) (by rfl) (by rfl) (by simp) (by decide)) (pa_cons (pe_lstN pa_nil) (pa_cons pe_str (pa_cons pe_str (pa_cons pe_str (pa_cons pe_str pa_nil))))))))))))))) pa_nil))))
        (pss_one (ps_if (pt_not (pt_val (pe_clG (ok_right T TB) hr hg (by rfl) T.mg_law_right T.kp_law_right pass0 (pa_cons (pv 5) pa_nil)))) (pss_one (ps_ret pe_bl)) pss_nil)))))))
      (pss_jn (ps_set (i := 6) sc_law.nd rfl (.inr rfl) (ClX.pe_cmeth (pe_glob (v := .ref A.c_Place) (by rfl) T.mg_Place rfl) T.rdP T.readC (ok_read T) r4 passF (pa_cons (pe_op op_add_str pe_str
          (pe_cl (ok_pick T) r2 (by rfl) T.mg_law_pick T.kp_law_pick pass0 (pa_cons (pv 1) (pa_cons (pe_lst (pa_cons pe_str (pa_cons pe_str (pa_cons pe_str pa_nil)))) pa_nil)))) pa_nil)))
      (pss_cons (ps_if (PW.pt (pw_or (pt_cmpR (op_neC T.eqS T.neS (ok_eq T) r2 pass0) (pe_smeth (pe_glob (v := .ref A.c_Place) (by rfl) T.mg_Place rfl) T.rdP T.ofS (ok_of T) r4 passF (pa_cons (pv 6) pa_nil)) (pv 6) (nomark _))
          (pw_or (pt_cmpR op_ne (pe_prp (pe_smethK (pe_glob (v := .ref A.c_Place) (by rfl) T.mg_Place rfl) T.rdP T.ofS (ok_ofK T) r4 passF (pk_cons (pv 6) pk_nil)) T.cl T.textP (ok_text T) r3 noErr) (pe_prp (pv 6) T.cl T.textP (ok_text T) r3 noErr) (nomark _))
          (pw_or1 (pt_cmpR (op_notInC T.inS (ok_contains T) r3 pass0) (pv 6) (pe_mk0 T.mkP (ok_init T) r3 (by rfl) T.mg_Place pass0) rfl))))) (pss_one (ps_ret pe_bl)) pss_nil)
      (pss_one (ps_ret (pe_cmpR op_eq (pe_callB (call_reprPO T.reprS (ok_repr T) r4 hg pass0) (by rfl) T.z_repr (by decide +kernel) (pa_cons (pe_heard (k := 5) T (by rfl) TB2 rfl (List.mem_cons_of_mem _ List.mem_cons_self) hu r7 (LamX.lamS_by (sc := defScope s_law) (by decide +kernel)) rfl (fun _ _ _ _ _ => rfl)
          (fun _ _ _ _ _ _ _ hr' => ClX.pe_cmeth (pe_glob (v := .ref A.c_Place) (by rfl) T.mg_Place rfl) T.rdP T.readC (ok_read T) (hr'.mono (by decide)) passLam (pa_cons (pv 6) pa_nil))) pa_nil))
        (pe_callB (call_reprPO T.reprS (ok_repr T) r4 hg pass0) (by rfl) T.z_repr (by decide +kernel) (pa_cons (pe_tup (pa_cons pe_str (pa_cons (pv 6) pa_nil))) pa_nil)) (nomark _))))))), ?_⟩
    refine ⟨_, rfl, a, ns, rfl, hS, fun pn L H1 hpn s1 pen1 => ?_⟩
    have t1 := hT.ext s1
    refine ⟨fun σ' H' => ∃ v2 v3 v4 v5 v6, σ' = [some (.ref a), some (.ref pn), v2, v3, v4, v5, v6] ∧ Pen L H' pn 10 ∧ Tabs (Tb A) H', ?_, ?_⟩
    · refine ⟨_, rfl, by decide, by decide, for_range (lo := 0) (n := 12) (fun i σ H' => ∃ v2 v3 v4 v5 v6, σ = [some (.ref a), some (.ref pn), v2, v3, v4, v5, v6] ∧ Pen L H' pn (10 + 108 * (12 - i)) ∧ Tabs (Tb A) H') ⟨_, _, _, _, _, rfl, pen1.less (by omega), t1⟩ ?_ (fun σ H' h => h)⟩
      rintro i σ H0 hi ⟨v2, v3, v4, v5, v6, rfl, pen0, t0⟩
      obtain ⟨c, hc⟩ : ∃ c, c = 10 + 108 * (12 - (i + 1)) := ⟨_, rfl⟩
      have pen0 : Pen L H0 pn (c + 8 + 100) := pen0.less (by omega)
      obtain ⟨xs0, hp0⟩ := pen0.lst
      refine ⟨_, rfl, pn, L, c + 8, rfl, pen0, fun z H2 sm e2 pen2 => ?_⟩
      have t2 := tabs_mut hp0 e2 t0
      obtain ⟨xs2, hp2⟩ := pen2.lst
      refine ⟨fun σ' H' => ∃ z w4, σ' = [some (.ref a), some (.ref pn), some (.int (0 + i)), some (.str z), w4, v5, v6] ∧ Pen L H' pn (c + 1) ∧ Tabs (Tb A) H' ∧ Sm 10000 z, ?_, ?_⟩
      · refine ⟨_, rfl, pn, L, 3, c + 7, rfl, pen2, by decide, by decide, fun d H3 hd e3 pen3 => ?_⟩
        have t3 := tabs_mut hp2 e3 t2
        refine ⟨_, rfl, by omega, by omega, for_range (lo := 0) (n := (d : Int).toNat) (fun j σ H' => ∃ z w4, σ = [some (.ref a), some (.ref pn), some (.int (0 + i)), some (.str z), w4, v5, v6] ∧ Pen L H' pn (c + 1 + 3 * (2 - j)) ∧ Tabs (Tb A) H' ∧ Sm (200 * 4 ^ j) z) ⟨z, v4, rfl, pen3, t3, sm⟩ ?_ ?_⟩
        · rintro j σ H4 hj ⟨z, w4, rfl, pen4, t4, sm⟩
          have hj2 : j < 2 := by omega
          obtain ⟨xs4, hp4⟩ := pen4.lst
          have hb : 200 * 4 ^ j ≤ 5000 := by
            match j, hj2 with
            | 0, _ => decide
            | 1, _ => decide
          refine ⟨_, rfl, _, rfl, pn, L, z, _, c + 1 + 3 * (2 - (j + 1)), rfl, pen4.less (by omega), sm, hb, fun z' H5 sm' e5 pen5 => ?_⟩
          refine ⟨z', _, rfl, pen5, tabs_mut hp4 e5 t4, sm'.mono ?_⟩
          have h1 : 1 ≤ 4 ^ j := Nat.one_le_pow _ _ (by decide)
          rw [Nat.pow_succ]
          omega
        · rintro σ H4 ⟨z, w4, rfl, pen4, t4, sm⟩
          have hd2 : d ≤ 2 := by omega
          refine ⟨z, w4, rfl, pen4.less (by omega), t4, sm.mono ?_⟩
          match d, hd2 with
          | 0, _ => decide
          | 1, _ => decide
          | 2, _ => decide
      · rintro σ H3 ⟨z, w4, rfl, pen3, t3, sm⟩
        refine ⟨_, rfl, .str z, .str z, rfl, .str sm, t3, fun H4 e4 t4 => ⟨_, rfl, iteF' rfl ?_⟩⟩
        have pen4 := pen3.extN e4
        obtain ⟨xs4, hp4⟩ := pen4.lst
        refine ⟨fun σ' H' => ∃ x d, σ' = [some (.ref a), some (.ref pn), some (.int (0 + i)), some (.str z), w4, some x, v6] ∧ Pen L H' pn c ∧ Tabs (Tb A) H' ∧ Odd H' x d, ?_, ?_⟩
        · refine s_set ⟨_, rfl, _, rfl, sz (by show 1 ≤ 1000000; omega), fun p1 h1 m1 => ⟨_, rfl, sz (by show 1 ≤ 1000000; omega), fun p2 h2 => fun p3 h3 => fun p4 h4 => ⟨_, rfl, _, rfl, upd_same, [(.inr z, .str z)], rfl, (by show 1 ≤ 15; omega), sz (by show 0 ≤ 1000000; omega), fun p5 h5 m5 => ⟨sz (by show 14 ≤ 1000000; omega), fun p6 h6 => ?_⟩⟩⟩⟩
          have a1 := Same.new (o := .lst [V.str z]) h1
          have a2 := Same.new (o := .tup [V.str z]) h2
          have a3 := Same.new (o := .dK []) h3
          have a4 := Same.mut (o := .dK (mergeK [] [(.inr z, .str z)])) (Same.new (o := .dK []) h4) h4
          have a5 := Same.new (o := .lst []) h5
          have a6 := Same.new (o := .lst [V.non, .bl true, .bl false, .int 0, .int 7, .ref p1, .ref p2, .ref p3, .ref p4, .ref p5, .str "", .str "//", .str "a", .str "/a/"]) h6
          have a15 := (((a1.trans a2).trans a3).trans a4).trans a5
          have n1 : p1 ≠ pn := (ne_of_none hp4 h1).symm
          have n2 : p2 ≠ pn := (ne_of_none (a1 _ _ hp4) h2).symm
          have n3 : p3 ≠ pn := (ne_of_none ((a1.trans a2) _ _ hp4) h3).symm
          have n4 : p4 ≠ pn := (ne_of_none (((a1.trans a2).trans a3) _ _ hp4) h4).symm
          have n5 : p5 ≠ pn := (ne_of_none ((((a1.trans a2).trans a3).trans a4) _ _ hp4) h5).symm
          have n6 : p6 ≠ pn := (ne_of_none (a15 _ _ hp4) h6).symm
          have hp6 := (a15.trans a6) _ _ hp4
          refine ⟨pn, L, p6, _, c, rfl, pen4.same (a15.trans a6), upd_same, n6, by show 1 ≤ 14; omega, by show 14 ≤ 100000; omega, fun v H5 hv e5 pen5 => ?_⟩
          have t5 := tabs_mut hp6 e5 (t4.ext (a15.trans a6))
          have fin : ∀ x d, Odd H5 x d → ∃ x' d, [some (.ref a), some (.ref pn), some (.int (0 + i)), some (.str z), w4, some x, v6] = [some (V.ref a), some (.ref pn), some (.int (0 + i)), some (.str z), w4, some x', v6] ∧ Pen L H5 pn c ∧ Tabs (Tb A) H5 ∧ Odd H5 x' d :=
            fun x d o => ⟨x, d, rfl, pen5, t5, o⟩
          simp only [List.mem_cons, List.not_mem_nil, or_false] at hv
          rcases hv with rfl | rfl | rfl | rfl | rfl | rfl | rfl | rfl | rfl | rfl | rfl | rfl | rfl | rfl
          · exact fin _ _ .non
          · exact fin _ _ (.bl _)
          · exact fin _ _ (.bl _)
          · exact fin _ _ (.int (.inl rfl))
          · exact fin _ _ (.int (.inr rfl))
          · exact fin _ _ (.lst1 (e5 _ _ n1 (a6 _ _ (a5 _ _ (a4 _ _ (a3 _ _ (a2 _ _ upd_same)))))) m1 sm)
          · exact fin _ _ (.tup1 (e5 _ _ n2 (a6 _ _ (a5 _ _ (a4 _ _ (a3 _ _ upd_same))))) sm)
          · exact fin _ _ (.dic0 (e5 _ _ n3 (a6 _ _ (a5 _ _ (a4 _ _ upd_same)))))
          · exact fin _ _ (.dic1 (e5 _ _ n4 (a6 _ _ (a5 _ _ (by rw [upd_same]; rfl)))) sm)
          · exact fin _ _ (.lst0 (e5 _ _ n5 (a6 _ _ upd_same)) m5)
          · exact fin _ _ (.str ⟨by decide +kernel, by decide +kernel⟩)
          · exact fin _ _ (.str ⟨by decide +kernel, by decide +kernel⟩)
          · exact fin _ _ (.str ⟨by decide +kernel, by decide +kernel⟩)
          · exact fin _ _ (.str ⟨by decide +kernel, by decide +kernel⟩)
        · rintro σ H5 ⟨x, d, rfl, pen5, t5, o⟩
          refine ⟨_, rfl, x, d, rfl, o, t5, fun H6 e6 t6 => ⟨_, rfl, iteF' rfl ?_⟩⟩
          exact ⟨_, _, _, _, _, rfl, hc ▸ pen5.extN e6, t6⟩
    · rintro σ' H2 ⟨v2, v3, v4, v5, v6, rfl, pen2, t2⟩
      obtain ⟨xs2, hp2⟩ := pen2.lst
      refine ⟨fun σ' H' => ∃ x ns, σ' = [some (.ref a), some (.ref pn), v2, v3, v4, v5, some (.ref x)] ∧ Pl A H' x ns ∧ Tabs (Tb A) H', ?_, ?_⟩
      · refine s_set ⟨rfl, _, rfl, sz (by show 3 ≤ 1000000; omega), fun p1 h1 => ?_⟩
        have a1 := Same.new (o := .lst [V.str "c", .str "0", .str "abcdefgh"]) h1
        have n1 : p1 ≠ pn := (ne_of_none hp2 h1).symm
        refine ⟨pn, L, p1, _, 9, rfl, pen2.same a1, upd_same, n1, by show 1 ≤ 3; omega, by show 3 ≤ 100000; omega, fun v H3 hv e3 pen3 => ?_⟩
        have t3 := tabs_mut (a1 _ _ hp2) e3 (t2.ext a1)
        obtain ⟨z, rfl, hz, hx⟩ : ∃ z : Str, v = .str z ∧ z.length ≤ 8 ∧ isTx ("/a/b9/" ++ z) = true := by
          simp only [List.mem_cons, List.not_mem_nil, or_false] at hv
          rcases hv with rfl | rfl | rfl
          · exact ⟨_, rfl, by decide +kernel, by decide +kernel⟩
          · exact ⟨_, rfl, by decide +kernel, by decide +kernel⟩
          · exact ⟨_, rfl, by decide +kernel, by decide +kernel⟩
        have l6 : ("/a/b9/" : Str).length = 6 := by decide +kernel
        refine ⟨_, _, rfl, rfl, sz (by rw [l6]; omega), .str ("/a/b9/" ++ z), true, rfl, .inl ⟨_, rfl, by rw [strLen_append, l6]; omega, hx.symm⟩, fun z' e _ x H4 hx' s4 p4 => ?_, fun z => by cases z⟩
        exact ⟨x, _, rfl, p4, t3.ext s4⟩
      · rintro σ' H3 ⟨x, ns, rfl, px, t3⟩
        obtain ⟨dx, fx, ex⟩ := px.ins
        have isP : ∀ {H : Hp} {ns : List Str}, Pl A H x ns → IsP A K H (.ref x) true := fun p => by
          obtain ⟨dx, fx, ex⟩ := p.ins
          exact ⟨_, T.tyP ex, kit_self⟩
        refine ⟨rfl, _, rfl, .ref x, true, false, rfl, isP px, fun _ => ?_, (fun z => nomatch z), (fun z e => nomatch e), (fun z => nomatch z)⟩
        refine ⟨_, rfl, v_eq px px ⟨_, rfl, iteF' (by simp) ?_⟩⟩
        refine ⟨rfl, _, rfl, rfl, .ref x, true, false, rfl, isP px, fun _ => ?_, (fun z => nomatch z), (fun z e => nomatch e), (fun z => nomatch z)⟩
        refine ⟨x, dx, fx, rfl, ex, x, ns, rfl, px, _, rfl, x, dx, fx, rfl, ex, x, ns, rfl, px, rfl, _, rfl, iteF' (by simp) ?_⟩
        refine ⟨_, rfl, v_mk0 fun y H4 hy s4 p4 => ?_⟩
        obtain ⟨dy, fy, ey⟩ := p4.ins
        refine ⟨y, dy, fy, rfl, ey, y, .ref x, [], rfl, p4, .inl ⟨x, ns, rfl, px.same s4, fun H5 s5 => ⟨_, rfl, _, rfl, iteF' (by simp) ?_⟩⟩⟩
        have px5 := (px.same s4).same s5
        have t5 := (t3.ext s4).ext s5
        refine v_heard (x := .ref x) t5 (fun H6 e6 E1 Q1 q1 q2 => ?_) fun q H6 e6 t6 f6 d6 => ?_
        · obtain ⟨dz, fz, ez⟩ := (px5.extN e6).ins
          exact ⟨rfl, _, rfl, .ref x, false, rfl, .inr ⟨rfl, _, T.tyP ez, kit_subT T.sustr_Place⟩, (fun z e => nomatch e), fun _ => q2 rfl⟩
        · have h6 := d6.2 rfl
          have px6 := px5.extN e6
          obtain ⟨dz, fz, ez⟩ := px6.ins
          have hl := rt_len px6.good
          have e1 : ("Place(" : Str).length = 6 := by decide +kernel
          have e2 : (")" : Str).length = 1 := by decide +kernel
          have hm : ("Place(" ++ reprText (txt ns) ++ ")" : Str).length ≤ 1000000 := by rw [strLen_append, strLen_append, e1, e2]; omega
          refine ⟨q, "place", x, dz, fz, rfl, h6, by decide +kernel, ez, x, ns, rfl, px6, _, rfl, hm, ?_⟩
          refine ⟨_, rfl, sz (by show 2 ≤ 1000000; omega), fun u hu => ?_⟩
          have a7 := Same.new (o := .tup [V.str "place", .ref x]) hu
          refine ⟨u, "place", x, dz, fz, rfl, upd_same, by decide +kernel, a7 _ _ ez, x, ns, rfl, px6.same a7, _, rfl, hm, ?_⟩
          refine ⟨rfl, ?_⟩
          rw [decide_eq_true rfl]
          exact k _
end
end NK

namespace NK
open PySem PySem.Spec PyProof.Rows L2 NA LamX
/-- what the law's row needs of the text -/
def LawG (l : PySem.W.OpenLaw) (w : World) (K : PySem.W.Frag) (mg : Str → Option Value) (fa : Addr) (h : Heap) : Prop :=
  ∃ (cs : List (Addr × Addr)) (sp : Sp), (∀ p ∈ cs, h.get? p.2 = some { cls := .none, data := .fields #[] }) ∧ (∀ p ∈ cs, K.lookup p.2 = none) ∧ (∀ p ∈ cs, PySem.W.codeHdIn K p.1 p.2 = true) ∧
    (∀ (H : Hp) (a : Addr) (ns : List Int), ns.length ≤ 63 → (∀ z ∈ ns, Builtin.Int.intBits z ≤ 1048576) → (∀ p ∈ cs, H p.2 = some (.tbl #[])) → SqL K H a (ns.map V.int) → sp [.ref a] H (fun v _ => v = .bl true) fun _ _ _ => False) ∧
    ∀ base : Heap, K.In base → base.Ns mainGlobals mg → (∀ p ∈ cs, LamX.TabB base mg p.1 p.2) → FnG l.prog w K mg base CX0 11 fa sp
theorem all_mk {l : PySem.W.OpenLaw} {w : World} {K : PySem.W.Frag} {mg : Str → Option Value} {fa : Addr} {h : Heap} {A : Ad} (hfa : mg "law" = some (.ref fa)) (T : Tx l.prog K mg A)
    (h1 : h.get? A.t_law_right = some (PySem.W.tabObj #[])) (h2 : h.get? A.t_law = some (PySem.W.tabObj #[])) : LawG l w K mg fa h := by
  have e : fa = A.f_law := by
    have := hfa.symm.trans T.mg_law
    injection this with h
    injection h
  subst e
  have two : ∀ {p : Addr × Addr}, p ∈ [(A.k_law_right, A.t_law_right), (A.k_law, A.t_law)] → p = (A.k_law_right, A.t_law_right) ∨ p = (A.k_law, A.t_law) := fun {p} hp => by
    simpa only [List.mem_cons, List.not_mem_nil, or_false] using hp
  refine ⟨[(A.k_law_right, A.t_law_right), (A.k_law, A.t_law)], spLaw A K, fun p hp => ?_, fun p hp => ?_, fun p hp => ?_, fun H a ns hl hb hT hS => ?_, fun base hK hN hT => ?_⟩
  · rcases two hp with rfl | rfl
    · exact h1
    · exact h2
  · rcases two hp with rfl | rfl
    · exact T.nt_law_right
    · exact T.nt_law
  · rcases two hp with rfl | rfl
    · exact T.ch_law_right
    · exact T.ch_law
  · refine ⟨a, ns, rfl, hS, hl, fun p hp => ?_, fun _ => rfl⟩
    simp only [List.mem_cons, List.not_mem_nil, or_false] at hp
    rcases hp with rfl | rfl
    · exact TabS.nil (hT (A.k_law_right, A.t_law_right) (by simp))
    · exact TabS.nil (hT (A.k_law, A.t_law) (by simp))
  · exact ok_law T (hT (A.k_law_right, A.t_law_right) (by simp)) (hT (A.k_law, A.t_law) (by simp))
theorem walk {l : PySem.W.OpenLaw} {q : Program} {loose : List Str} {XP : (Str → Option Value) → Heap → Prop} {YP : World → Heap → Prop} {d : DefRec} {K : Params → PySem.W.Frag} (hn : l.most = some 63) (hdf : d.params.defaults = [])
    (hY : ∀ (w : World) (h : Heap), YP w h → (K w.params).In h)
    (F : ∀ (w : World) (mg : Str → Option Value) (fa : Addr) (h : Heap), YP w h → (K w.params).In h → h.Ns mainGlobals mg → mg d.name = some (.ref fa) → LawG l w (K w.params) mg fa h) :
    PySem.W.WalkO q loose XP YP l.row.toRowW d [] (fun f vs => PySem.call f vs) :=
  walk_G (n := 63) (k := 11) hn (by decide) hdf ⟨rfl, by decide, by decide⟩ hY F
end NK
open PySem PySem.W PyProof.Rows in
set_option maxRecDepth 100000 in
set_option maxHeartbeats 0 in
theorem PySem.Challenge.cw_nearestsays_k02_texts_of_places_read_holds : PySem.Challenge.rw_nearestsays_k02_texts_of_places_read.Holds := by
  w_on; o_law; k_head; (case hw => w_witness2)
  k_fill
  refine NK.walk (l := PySem.Challenge.rw_nearestsays_k02_texts_of_places_read) rfl rfl (fun w h Y => PySem.W.km_in_of Y) ?F
  case F =>
    intro w mg fa h Y KX G hmg
    refine' NK.all_mk hmg (NK.tx_mk KX G ?mg_Place ?pg_Place ?hd_Place ?po_Place ?sa_Place ?mk_Place ?kc_Place ?sf_Place ?ca_Place ?cn_Place ?ct_Place ?cm_Place ?ob_Place ?ne_Place ?rd_Place ?ga_Place ?np_Place ?ic_Place ?ty_Place ?most_Place ?ra_Place ?su_Place ?suNoneType_Place ?subool_Place ?suint_Place ?sulist_Place ?sutuple_Place ?sudict_Place ?sustr_Place ?mg_TableError ?ga_TableError ?gg_TableError ?be_TableError ?hd_TableError ?ca_TableError ?ob_TableError ?ic_TableError ?ty_TableError ?mg_BadPlace ?ga_BadPlace ?gg_BadPlace ?be_BadPlace ?hd_BadPlace ?ca_BadPlace ?ob_BadPlace ?ic_BadPlace ?ty_BadPlace ?xa_BadPlace_init ?xb_BadPlace_init ?xc_BadPlace_init ?xd_BadPlace_init ?xe_BadPlace_init ?xf_BadPlace_init ?xg_BadPlace_init ?xh_BadPlace_init ?xi_BadPlace_init ?xj_BadPlace_init ?xk_BadPlace_init ?xl_BadPlace_init ?xm_BadPlace_init ?xn_BadPlace_init ?xo_BadPlace_init ?xp_BadPlace_init ?xq_BadPlace_init ?xr_BadPlace_init ?xs_BadPlace_init ?xt_BadPlace_init ?xu_BadPlace_init ?mg_is_name ?fn_is_name ?l_is_name ?cc_is_name ?kk_is_name ?kp_is_name ?mg_is_text ?fn_is_text ?l_is_text ?cc_is_text ?kk_is_text ?kp_is_text ?mg_names_in ?fn_names_in ?l_names_in ?cc_names_in ?kk_names_in ?kp_names_in ?mg_text_of ?fn_text_of ?l_text_of ?cc_text_of ?kk_text_of ?kp_text_of ?at_Place_init ?fn_Place_init ?l_Place_init ?cc_Place_init ?kk_Place_init ?kp_Place_init ?at_Place_read ?rc_Place_read ?fi_Place_read ?fn_Place_read ?l_Place_read ?cc_Place_read ?kk_Place_read ?kp_Place_read ?at_Place_of ?rc_Place_of ?fi_Place_of ?fn_Place_of ?l_Place_of ?cc_Place_of ?kk_Place_of ?kp_Place_of ?at_Place_names ?ge_Place_names ?tk_Place_names ?rc_Place_names ?fn_Place_names ?l_Place_names ?cc_Place_names ?kk_Place_names ?kp_Place_names ?at_Place_text ?ge_Place_text ?tk_Place_text ?rc_Place_text ?fn_Place_text ?l_Place_text ?cc_Place_text ?kk_Place_text ?kp_Place_text ?at_Place_contains ?fn_Place_contains ?l_Place_contains ?cc_Place_contains ?kk_Place_contains ?kp_Place_contains ?at_Place_len ?fn_Place_len ?l_Place_len ?cc_Place_len ?kk_Place_len ?kp_Place_len ?at_Place_bool ?fn_Place_bool ?l_Place_bool ?cc_Place_bool ?kk_Place_bool ?kp_Place_bool ?at_Place_str ?fn_Place_str ?l_Place_str ?cc_Place_str ?kk_Place_str ?kp_Place_str ?at_Place_repr ?fn_Place_repr ?l_Place_repr ?cc_Place_repr ?kk_Place_repr ?kp_Place_repr ?at_Place_eq ?fn_Place_eq ?l_Place_eq ?cc_Place_eq ?kk_Place_eq ?kp_Place_eq ?mg_law_pen ?fn_law_pen ?l_law_pen ?cc_law_pen ?kk_law_pen ?kp_law_pen ?mg_law_draw ?fn_law_draw ?l_law_draw ?cc_law_draw ?kk_law_draw ?kp_law_draw ?mg_law_pick ?fn_law_pick ?l_law_pick ?cc_law_pick ?kk_law_pick ?kp_law_pick ?mg_law_text ?fn_law_text ?l_law_text ?cc_law_text ?kk_law_text ?kp_law_text ?mg_law_spoiled ?fn_law_spoiled ?l_law_spoiled ?cc_law_spoiled ?kk_law_spoiled ?kp_law_spoiled ?mg_law_is_text ?fn_law_is_text ?l_law_is_text ?cc_law_is_text ?kk_law_is_text ?kp_law_is_text ?mg_law_heard ?fn_law_heard ?l_law_heard ?cc_law_heard ?kk_law_heard ?kp_law_heard ?mg_law_is ?fn_law_is ?l_law_is ?cc_law_is ?kk_law_is ?kp_law_is ?mg_law_right ?fn_law_right ?l_law_right ?cc_law_right ?kk_law_right ?kp_law_right ?mg_law ?fn_law ?l_law ?cc_law ?kk_law ?kp_law ?lK_law_right ?cK_law_right ?kC_law_right ?tC_law_right ?hC_law_right ?nt_law_right ?lK_law ?cK_law ?kC_law ?tC_law ?hC_law ?nt_law ?nn_law_right_law ?k_SIGNS ?k_LONGEST_NAME ?k_MOST_NAMES ?z_abs ?z_all ?z_bool ?z_int ?z_isinstance ?z_len ?z_list ?z_range ?z_repr ?z_str ?z_super ?z_tuple ?tb_BadPlace ?nv_BadPlace) ?tb_law_right ?tb_law
    (case mg_Place => k_is)
    (case pg_Place => k_is)
    (case hd_Place => k_is)
    (case po_Place => k_is)
    (case sa_Place => k_is)
    (case mk_Place => k_is)
    (case kc_Place => k_is)
    (case sf_Place => k_is)
    (case ca_Place => k_is)
    (case cn_Place => k_is)
    (case ct_Place => k_is)
    (case cm_Place => k_is)
    (case ob_Place => k_is)
    (case ne_Place => k_is)
    (case rd_Place => k_is)
    (case ga_Place => k_is)
    (case np_Place => k_is)
    (case ic_Place => k_is)
    (case ty_Place => k_is)
    (case most_Place => k_is)
    (case ra_Place => k_is)
    (case su_Place => k_is)
    (case suNoneType_Place => k_is)
    (case subool_Place => k_is)
    (case suint_Place => k_is)
    (case sulist_Place => k_is)
    (case sutuple_Place => k_is)
    (case sudict_Place => k_is)
    (case sustr_Place => k_is)
    (case mg_TableError => k_is)
    (case ga_TableError => k_is)
    (case gg_TableError => k_is)
    (case be_TableError => k_is)
    (case hd_TableError => k_is)
    (case ca_TableError => k_is)
    (case ob_TableError => k_is)
    (case ic_TableError => k_is)
    (case ty_TableError => k_is)
    (case mg_BadPlace => k_is)
    (case ga_BadPlace => k_is)
    (case gg_BadPlace => k_is)
    (case be_BadPlace => k_is)
    (case hd_BadPlace => k_is)
    (case ca_BadPlace => k_is)
    (case ob_BadPlace => k_is)
    (case ic_BadPlace => k_is)
    (case ty_BadPlace => k_is)
    (case xa_BadPlace_init => k_is)
    (case xb_BadPlace_init => rfl)
    (case xc_BadPlace_init => k_is)
    (case xd_BadPlace_init => k_is)
    (case xe_BadPlace_init => k_is)
    (case xf_BadPlace_init => k_is)
    (case xg_BadPlace_init => k_is)
    (case xh_BadPlace_init => k_is)
    (case xi_BadPlace_init => k_is)
    (case xj_BadPlace_init => k_is)
    (case xk_BadPlace_init => ks_is)
    (case xl_BadPlace_init => k_is)
    (case xm_BadPlace_init => k_is)
    (case xn_BadPlace_init => k_is)
    (case xo_BadPlace_init => first | rfl | decide +kernel)
    (case xp_BadPlace_init => k_is)
    (case xq_BadPlace_init => k_is)
    (case xr_BadPlace_init => k_is)
    (case xs_BadPlace_init => k_is)
    (case xt_BadPlace_init => rfl)
    (case xu_BadPlace_init => first | rfl | decide +kernel)
    (case mg_is_name => k_is)
    (case fn_is_name => k_is)
    (case l_is_name => k_is)
    (case cc_is_name => k_is)
    (case kk_is_name => k_is)
    (case kp_is_name => k_is)
    (case mg_is_text => k_is)
    (case fn_is_text => k_is)
    (case l_is_text => k_is)
    (case cc_is_text => k_is)
    (case kk_is_text => k_is)
    (case kp_is_text => k_is)
    (case mg_names_in => k_is)
    (case fn_names_in => k_is)
    (case l_names_in => k_is)
    (case cc_names_in => k_is)
    (case kk_names_in => k_is)
    (case kp_names_in => k_is)
    (case mg_text_of => k_is)
    (case fn_text_of => k_is)
    (case l_text_of => k_is)
    (case cc_text_of => k_is)
    (case kk_text_of => k_is)
    (case kp_text_of => k_is)
    (case at_Place_init => k_is)
    (case fn_Place_init => k_is)
    (case l_Place_init => k_is)
    (case cc_Place_init => k_is)
    (case kk_Place_init => k_is)
    (case kp_Place_init => k_is)
    (case at_Place_read => k_is)
    (case rc_Place_read => k_is)
    (case fi_Place_read => k_is)
    (case fn_Place_read => k_is)
    (case l_Place_read => k_is)
    (case cc_Place_read => k_is)
    (case kk_Place_read => k_is)
    (case kp_Place_read => k_is)
    (case at_Place_of => k_is)
    (case rc_Place_of => k_is)
    (case fi_Place_of => k_is)
    (case fn_Place_of => k_is)
    (case l_Place_of => k_is)
    (case cc_Place_of => k_is)
    (case kk_Place_of => k_is)
    (case kp_Place_of => k_is)
    (case at_Place_names => k_is)
    (case ge_Place_names => k_is)
    (case tk_Place_names => k_is)
    (case rc_Place_names => k_is)
    (case fn_Place_names => k_is)
    (case l_Place_names => k_is)
    (case cc_Place_names => k_is)
    (case kk_Place_names => k_is)
    (case kp_Place_names => k_is)
    (case at_Place_text => k_is)
    (case ge_Place_text => k_is)
    (case tk_Place_text => k_is)
    (case rc_Place_text => k_is)
    (case fn_Place_text => k_is)
    (case l_Place_text => k_is)
    (case cc_Place_text => k_is)
    (case kk_Place_text => k_is)
    (case kp_Place_text => k_is)
    (case at_Place_contains => k_is)
    (case fn_Place_contains => k_is)
    (case l_Place_contains => k_is)
    (case cc_Place_contains => k_is)
    (case kk_Place_contains => k_is)
    (case kp_Place_contains => k_is)
    (case at_Place_len => k_is)
    (case fn_Place_len => k_is)
    (case l_Place_len => k_is)
    (case cc_Place_len => k_is)
    (case kk_Place_len => k_is)
    (case kp_Place_len => k_is)
    (case at_Place_bool => k_is)
    (case fn_Place_bool => k_is)
    (case l_Place_bool => k_is)
    (case cc_Place_bool => k_is)
    (case kk_Place_bool => k_is)
    (case kp_Place_bool => k_is)
    (case at_Place_str => k_is)
    (case fn_Place_str => k_is)
    (case l_Place_str => k_is)
    (case cc_Place_str => k_is)
    (case kk_Place_str => k_is)
    (case kp_Place_str => k_is)
    (case at_Place_repr => k_is)
    (case fn_Place_repr => k_is)
    (case l_Place_repr => k_is)
    (case cc_Place_repr => k_is)
    (case kk_Place_repr => k_is)
    (case kp_Place_repr => k_is)
    (case at_Place_eq => k_is)
    (case fn_Place_eq => k_is)
    (case l_Place_eq => k_is)
    (case cc_Place_eq => k_is)
    (case kk_Place_eq => k_is)
    (case kp_Place_eq => k_is)
    (case mg_law_pen => k_is)
    (case fn_law_pen => k_is)
    (case l_law_pen => k_is)
    (case cc_law_pen => k_is)
    (case kk_law_pen => k_is)
    (case kp_law_pen => k_is)
    (case mg_law_draw => k_is)
    (case fn_law_draw => k_is)
    (case l_law_draw => k_is)
    (case cc_law_draw => k_is)
    (case kk_law_draw => k_is)
    (case kp_law_draw => k_is)
    (case mg_law_pick => k_is)
    (case fn_law_pick => k_is)
    (case l_law_pick => k_is)
    (case cc_law_pick => k_is)
    (case kk_law_pick => k_is)
    (case kp_law_pick => k_is)
    (case mg_law_text => k_is)
    (case fn_law_text => k_is)
    (case l_law_text => k_is)
    (case cc_law_text => k_is)
    (case kk_law_text => k_is)
    (case kp_law_text => k_is)
    (case mg_law_spoiled => k_is)
    (case fn_law_spoiled => k_is)
    (case l_law_spoiled => k_is)
    (case cc_law_spoiled => k_is)
    (case kk_law_spoiled => k_is)
    (case kp_law_spoiled => k_is)
    (case mg_law_is_text => k_is)
    (case fn_law_is_text => k_is)
    (case l_law_is_text => k_is)
    (case cc_law_is_text => k_is)
    (case kk_law_is_text => k_is)
    (case kp_law_is_text => k_is)
    (case mg_law_heard => k_is)
    (case fn_law_heard => k_is)
    (case l_law_heard => k_is)
    (case cc_law_heard => k_is)
    (case kk_law_heard => k_is)
    (case kp_law_heard => k_is)
    (case mg_law_is => k_is)
    (case fn_law_is => k_is)
    (case l_law_is => k_is)
    (case cc_law_is => k_is)
    (case kk_law_is => k_is)
    (case kp_law_is => k_is)
    (case mg_law_right => k_is)
    (case fn_law_right => k_is)
    (case l_law_right => k_is)
    (case cc_law_right => k_is)
    (case kk_law_right => k_is)
    (case kp_law_right => k_is)
    (case mg_law => k_is)
    (case fn_law => k_is)
    (case l_law => k_is)
    (case cc_law => k_is)
    (case kk_law => k_is)
    (case kp_law => k_is)
    (case lK_law_right => k_is)
    (case cK_law_right => k_is)
    (case kC_law_right => k_is)
    (case tC_law_right => rfl)
    (case hC_law_right => first | kernel_rfl | rfl | decide +kernel)
    (case nt_law_right => first | k_is | kernel_rfl)
    (case lK_law => k_is)
    (case cK_law => k_is)
    (case kC_law => k_is)
    (case tC_law => rfl)
    (case hC_law => first | kernel_rfl | rfl | decide +kernel)
    (case nt_law => first | k_is | kernel_rfl)
    (case nn_law_right_law => decide)
    (case k_SIGNS => k_is)
    (case k_LONGEST_NAME => k_is)
    (case k_MOST_NAMES => k_is)
    (case z_abs => k_is)
    (case z_all => k_is)
    (case z_bool => k_is)
    (case z_int => k_is)
    (case z_isinstance => k_is)
    (case z_len => k_is)
    (case z_list => k_is)
    (case z_range => k_is)
    (case z_repr => k_is)
    (case z_str => k_is)
    (case z_super => k_is)
    (case z_tuple => k_is)
    (case tb_BadPlace => k_is)
    (case nv_BadPlace => k_is)
    (case tb_law_right => exact PySem.W.km_tabs_of Y _ (by first | decide | simp))
    (case tb_law => exact PySem.W.km_tabs_of Y _ (by first | decide | simp))

