import PyProof.Rows.All
import Wide.All
import OpenK.AllK
import Wide.FinOn
import HandS.ForMost
import HandS.Star
import HandS.Property
import HandS.ClsMeth
import HandS.OwnEq
import HandS.SlotsOwn
import HandS.TupAny
import HandS.IsInst
import HandS.Defaults
import KE.KOpsOwn
import PyProof.InstEq
import HandS.Walk
import KE.LtData
import HandS.Records
import HandS.Style
import KE.KExcSuper
import HandS.ExcInit
import HandS.Exc
import HandS.ExcField
import HandS.ExcIs
import HandS.Lambda
import HandS.EndTab
import HandS.ExcValue
import KE.KExcIs
import HandS.WordsExc
import PyProof.ReprRoads
import KE.KCallOwn
import HandS.FStr
import PyProof.EqKinds
import HandS.Flow
import HandS.Deep
import KE.GoesMore
import PyProof.ReprLen
import HandS.GenList
import HandS.DeepEq
import HandS.More
import KE.KParD
import HandS.ListEq
import PyProof.NeKinds
import HandS.DictComp
import HandS.Set
import HandS.Strs
import PyProof.Rows.SortShellAny
import HandS.DictTup
import KE.KDictPairs
import KE.KDictCopyH
import PyProof.StrOps2
import KE.KRevSl
import PyProof.Rows.StrRev
import PySem.Challenge.RW_nearestsays_k94_table_texts_refused
import HandS.RaiseMore
import PyProof.Rows.StrMeet
set_option Elab.async false
set_option linter.all false
set_option maxRecDepth 100000
set_option maxHeartbeats 4000000
/-! Part A: rules for own classes that the hand layer lacks. -/
namespace NA
open PySem PySem.Spec PyProof.Rows L2

section
variable {prog : Program} {w : World} {A : Around} {E : Value → Shared → Prop} {s : Shared} {K : PySem.W.Frag} {x C L f : Addr} {h0 : Heap} {m : Str → Option Value} {ox : Obj} {od : Option Obj} {b tb : Value}
end

/-! ### over the layer -/
section
variable {X : Cx} {CX : CXT} {pins : List (Addr × Obj)} {σ : L2.St} {H : Hp} {s : Shared} {C f : Addr} {n : Nat} {sp : Sp} {E : XK}
/-- an instance's record -/
theorem inst_of {a dx : Addr} {fs : List (Str × V)} (I : Inv X pins σ H s) (h : H a = some (.ins C dx fs)) : ∃ od, PySem.W.InstAt s.heap a (PySem.W.instObj C dx) C (some od) := by
  obtain ⟨mA, O, _⟩ := ins_get I.hok h
  obtain ⟨od, J, _⟩ := O.look
  exact ⟨od, J⟩
/-- the callee somewhere below the running body -/
theorem run_sub {A : Around} {Q : VK} {us : List Value} {vs : List V} (F : FnR X.prog X.w X.K X.mg X.base CX n f sp) (hr : Room n A) (fr : A.frames = X.A.frames) (hx : Passes CX X E) (I : Inv X pins σ H s) (r : Vals vs us) (h : sp vs H Q E) :
    wpAny (model X.prog X.w) A (call (.ref f) us) (EP X pins σ Q) X.xe s := by
  have e := I.env0
  exact wpAny_call (SlX.run_at F hr ⟨by rw [fr]; exact e.frames, e.mod, e.bs, e.bsz, e.funs, e.frf, e.hok, e.bare⟩ hx I r h)

/-- what the text says of an own special method -/
structure Spc (K : PySem.W.Frag) (C : Addr) (name : Str) (f : Addr) : Prop where
  at_ : PySem.W.findIn K (.ref C) name = some (some (.ref f))
  fn : PySem.W.isFn K (.ref f) = true

structure BinT (K : PySem.W.Frag) (C : Addr) (nm T : String) : Prop where
  r : ∃ rc, PySem.W.findIn K (.ref C) (dunderR nm) = some rc ∧ (rc = none ∨ ∃ g : Addr, rc = some (.ref g))
  t : ∃ fo, PySem.W.findIn K (.type T) (PySem.dunder nm) = some fo
  tr : ∃ ro, PySem.W.findIn K (.type T) (dunderR nm) = some ro
  sub : PySem.W.subIn K (.type T) (.ref C) = some false
theorem notFirst_self {K : PySem.W.Frag} {C : Addr} : PySem.W.notFirst K C (.ref C) = true := by simp [PySem.W.notFirst]
structure NeC (K : PySem.W.Frag) (C : Addr) : Prop where
  ob : PySem.W.subIn K (.ref C) (.type "object") = some true
  ne : PySem.W.findIn K (.ref C) "__ne__" = some (some (.builtin "object.__ne__"))
end
end NA

/-! Part B: short words over the layer. -/
namespace NA
open PySem PySem.Spec PyProof.Rows L2

def FunE (K : PySem.W.Frag) (x qual : Str) (st : Stmt) (f : Addr) : Prop := ∃ fd, Fun K x qual st f fd
section
variable {P : Program} {w : World} {K : PySem.W.Frag} {mg : Str → Option Value} {base : Heap} {CX : CXT} {k : Nat} {f : Addr} {sp : Sp}
theorem fnr_of {fd : FuncData} {ps : List Str} (F : FnOk P w K mg base CX k f fd ps sp) (hb : Binds K fd ps []) : FnR P w K mg base CX k f sp := by
  refine (F.raw hb .nil).imp fun vs H Q E h => ?_
  show sp (vs ++ []) H Q E
  rw [List.append_nil]
  exact h
/-- a def that lets no error out, by its body -/
theorem fnr {x qual : Str} {st : Stmt} {N ps : List Str} (F : FunE K x qual st f) (S : FnScope N ps (defScope st))
    (hb : ∀ (kV doc pm : Value) (an : Option Addr) (cdv ct : Value) (us : List Value), us.length = ps.length → bindArgs (PySem.W.fnOf x qual (defArgs st) (defBody st) (defScope st) .none kV doc pm an cdv ct) ⟨us, []⟩ = pure (ps.zip us))
    (len : ∀ vs H Q E, sp vs H Q E → vs.length = ps.length)
    (hbody : ∀ (cdv : Value) (A : Around) (outer : List Env) (s : Shared) (H : Hp) (vs : List V) (Q : VK) (E : XK), Room k (A.deeper (envOfC qual (defScope st) s.heap.objs.size f cdv)) → sp vs H Q E →
      ∃ t, PSs (cxOf CX0 P w K mg base N qual (defScope st) f cdv A outer s H E).nox (defBody st) t ∧ t { nx := fun _ H' => Q .non H', rt := Q } (start N vs) H) : FnR P w K mg base CX0 (k + 1) f sp := by
  obtain ⟨fd, F⟩ := F
  exact fnr_of (F.ok S len hbody) (F.binds hb)
end

section
variable {P : Program} {w : World} {K : PySem.W.Frag} {mg : Str → Option Value} {base : Heap} {k : Nat} {f : Addr} {sp : Sp}
end
theorem kit_sub {K : PySem.W.Frag} {t : Value} {C : Addr} {b : Bool} (hne : (t == .ref C) = false) (h1 : PySem.W.isClsIn K C = true) (h2 : PySem.W.typeIn K (.ref C) = some (.type "type")) (h3 : PySem.W.subIn K t (.ref C) = some b) : PySem.W.kitOne K t (.ref C) = some b := by
  unfold PySem.W.kitOne
  rw [if_neg (by rw [hne]; exact Bool.false_ne_true)]
  show (if ((PySem.W.clsIn K C).isSome && PySem.W.typeIn K (.ref C) == some (.type "type")) = true then PySem.W.subIn K t (.ref C) else none) = some b
  have h1' : (PySem.W.clsIn K C).isSome = true := h1
  rw [h1', h2, if_pos (by rfl), h3]
theorem kit_self {K : PySem.W.Frag} {t : Value} : PySem.W.kitOne K t t = some true := if_pos (beq_self_eq_true _)

/-! ### calls by positional promises -/
section
variable {X : Cx} {CX : CXT} {k i : Nat} {f C : Addr} {sp : Sp} {E : XK} {x m : Str} {e o : Expr} {es : List Expr} {te ta : TE} {t : TA} {p sp_ pos apos : Pos}
/-- f(e, ..) -/
def tCl (sp : Sp) (E : XK) (t : TA) : TE := fun σ H Q => t σ H fun vs H1 => sp vs H1 Q E
theorem pe_cl (F : FnR X.prog X.w X.K X.mg X.base CX k f sp) (hr : Room k X.A) (hg : Gl X x) (hm : X.mg x = some (.ref f)) (hk : PySem.W.keepIn X.K (.ref f) = true) (hx : Passes CX X E)
    (ha : PA X (e :: es) t) (hdb : (x == ("__debug__" : Str)) = false := by decide) (he : starEach (e :: es) X.env = (false, eval e X.env) :: starEach es X.env := by rfl) (hpl : (backTo pos (starEach es X.env)).any (·.1) = false := by rfl) :
    PE X (.Call (.Name x p) (e :: es) [] pos) (tCl sp E t) := by
  refine ⟨fun pins s σ H Q I h => ?_⟩
  refine wpAny_Call_Name_kw (ld_glob I hg hm ?_ hdb)
  refine PySem.W.callWith_K (h₀ := X.base) I.ok.mod.kin hk (thn (ha.run pos pins s σ H _ I h) fun us s1 ⟨vs, H1, I1, r, q⟩ => ⟨I1.kIn, ?_⟩) he hpl
  exact wpAny_call (run_fnR F hr hx I1 r q)
/-- e.f, a property -/
def tPrp (C : Addr) (sp : Sp) (E : XK) (ta : TE) : TE := fun σ H Q => ta σ H fun x H1 => ∃ a dx fs, x = .ref a ∧ H1 a = some (.ins C dx fs) ∧ sp [.ref a] H1 Q E
theorem pe_prp {g q : Addr} (he : PE X e ta) (c : Cls X.K C) (hp : PropOf X.K C m q g) (F : FnR X.prog X.w X.K X.mg X.base CX k g sp) (hr : Room (k + 1) X.A)
    (hx : ∀ (H : Hp) (s : Shared) (e : Value) (s' : Shared), CX X.stack H s E e s' → False)
    (hab : attributeBase e m X.env (eval e X.env) = eval e X.env := by rfl) : PE X (.Attribute e m pos) (tPrp C sp E ta) := by
  refine ⟨fun pins s σ H Q I h => ?_⟩
  refine attr_of hab (thn (he.run pins s σ H _ I h) fun u s1 ⟨x, H1, I1, rx, a, dx, fs, ex, ea, q⟩ => ?_)
  subst ex
  obtain rfl : u = Value.ref a := rx
  obtain ⟨mA, O, _⟩ := ins_get I1.hok ea
  obtain ⟨od, J, _⟩ := O.look
  obtain ⟨rest, hrec⟩ := hp.rec_
  have hc : (PySem.W.clsIn X.K C).isSome = true := by
    obtain ⟨cd, hc, _⟩ := PySem.W.any_some c.hd
    rw [hc]
    rfl
  have I2 := I1.tok (s1.toks + 1)
  refine PySem.W.get_bind I1.kIn J (PySem.W.plainGet_of (c.get m)).1 (PySem.W.findObj_data hc hp.at_ hp.get hp.tak) (PySem.W.plainGet_of (c.get m)).2 (wpAny_call (PySem.W.prop_get (s := { s1 with toks := s1.toks + 1 }) I1.kIn hrec ?_))
  refine codeAny_mono (F X.A.in1 X.stack { s1 with toks := s1.toks + 1 } H1 [.ref a] [.ref a] Q E hr.in1 I2.env0.in1 (.cons rfl .nil) q) fun r s' hq => ?_
  cases r with
  | error er => exact (hx _ _ _ _ hq).elim
  | ok fl =>
    cases fl with
    | ret u =>
      obtain ⟨v, H', I3, rv, q3⟩ := I2.after hq
      exact wpAny_of_eq (PySem.W.handedOut_of (handed_of rv)) ⟨v, H', I3, rv, q3⟩
    | next => exact False.elim hq
    | brk => exact False.elim hq
    | cont => exact False.elim hq
end
theorem noErr {X : Cx} : ∀ (H : Hp) (s : Shared) (e : Value) (s' : Shared), CX0 X.stack H s E0 e s' → False := fun _ _ _ _ h => h

/-! ### o.m(k = v, ..) -/
/-- a promise by n positional values and the keywords ks, in the order of the parameters -/
def FnK (P : Program) (w : World) (K : PySem.W.Frag) (mg : Str → Option Value) (base : Heap) (CX : CXT) (k : Nat) (f : Addr) (n : Nat) (ks : List Str) (sp : Sp) : Prop :=
  ∀ (A : Around) (outer : List Env) (s : Shared) (H : Hp) (us ws : List Value) (vs : List V) (Q : VK) (E : XK), Room k A → Env0 P w K mg base A outer s H → us.length = n → ws.length = ks.length → Vals vs (us ++ ws) → sp vs H Q E →
    codeAny (model P w) A (.call (.ref f) ⟨us, ks.zip ws⟩) (CR CX outer P w H s Q E) s
section
variable {P : Program} {w : World} {K : PySem.W.Frag} {mg : Str → Option Value} {base : Heap} {CX : CXT} {k : Nat} {f : Addr} {sp : Sp}
theorem fnk_of {fd : FuncData} {ps ks : List Str} {n : Nat} (F : FnOk P w K mg base CX k f fd ps sp) (hb : ∀ (us ws : List Value), us.length = n → ws.length = ks.length → bindArgs fd ⟨us, ks.zip ws⟩ = pure (ps.zip (us ++ ws))) : FnK P w K mg base CX k f n ks sp := by
  intro A outer s H us ws vs Q E hr e0 h1 h2 r hs
  exact F.run A outer s H ⟨us, ks.zip ws⟩ (us ++ ws) vs Q E hr e0 (.of_eq (hb us ws h1 h2)) r hs
/-- from the def: its promise by position, and by some keywords -/
theorem fnrk {x qual : Str} {st : Stmt} {N ps ks : List Str} {n : Nat} (F : FunE K x qual st f) (S : FnScope N ps (defScope st))
    (hk : ∀ (kV doc pm : Value) (an : Option Addr) (cdv ct : Value) (us ws : List Value), us.length = n → ws.length = ks.length → bindArgs (PySem.W.fnOf x qual (defArgs st) (defBody st) (defScope st) .none kV doc pm an cdv ct) ⟨us, ks.zip ws⟩ = pure (ps.zip (us ++ ws)))
    (len : ∀ vs H Q E, sp vs H Q E → vs.length = ps.length)
    (hbody : ∀ (cdv : Value) (A : Around) (outer : List Env) (s : Shared) (H : Hp) (vs : List V) (Q : VK) (E : XK), Room k (A.deeper (envOfC qual (defScope st) s.heap.objs.size f cdv)) → sp vs H Q E →
      ∃ t, PSs (cxOf CX0 P w K mg base N qual (defScope st) f cdv A outer s H E).nox (defBody st) t ∧ t { nx := fun _ H' => Q .non H', rt := Q } (start N vs) H) : FnK P w K mg base CX0 (k + 1) f n ks sp := by
  obtain ⟨fd, F⟩ := F
  obtain ⟨oc, od, kV, doc, pm, an, cdv, ct, osl, e, lk, hcd⟩ := id F.ex
  refine fnk_of (F.ok S len hbody) fun us ws h1 h2 => ?_
  rw [e]
  exact hk kV doc pm an cdv ct us ws h1 h2
end
section
variable {X : Cx} {CX : CXT} {k n : Nat} {f C : Addr} {sp : Sp} {E : XK} {m : Str} {ks : List Str} {o : Expr} {kws : List Keyword} {ta : TE} {t tk : TA} {pos apos : Pos}
end
end NA

/-! Part C: rules for sequences that the hand layer lacks. -/
namespace NA
open PySem PySem.Spec PyProof.Rows L2

/-! ### x in list, by an own == -/
section
variable {prog : Program} {w : World} {A : Around} {R : Result → Shared → Prop}
end
section
variable {prog : Program} {w : World} {A : Around} {E : Value → Shared → Prop} {s : Shared}
end
section
variable {X : Cx} {CX : CXT} {C f : Addr} {n : Nat} {sp : Sp} {E : XK}
end

theorem eqv_str (a b : Str) : PyData.eqv (.str a) (.str b) = decide (a = b) := by
  rw [PyData.eqv]
  by_cases h : a = b
  · subst h; simp
  · rw [decide_eq_false h]; simpa using h
theorem depth_strs : ∀ ns : List Str, PyData.depthAll (ns.map PyData.str) ≤ 1
  | [] => by simp [PyData.depthAll]
  | a :: as => by
    have := depth_strs as
    simp only [List.map_cons, PyData.depthAll, PyData.depth]
    omega
theorem dp_strs {K : PySem.W.Frag} {H : Hp} : ∀ ns : List Str, DpAll K H (ns.map V.str) (ns.map PyData.str)
  | [] => .nil
  | a :: as => .cons (.str a) (dp_strs as)
end NA

/-! Part D: heaps that grow, comprehensions by what each turn gives. -/
namespace NA
open PySem PySem.Spec PyProof.Rows L2

theorem Same.new {H : Hp} {p : Addr} {o : HO} (h : H p = none) : Same H (upd H p o) := fun a u e => by
  rw [upd_ne (ne_of_none e h)]
  exact e
theorem Same.mut {H H' : Hp} {p : Addr} {o : HO} (e : Same H H') (h : H p = none) : Same H (upd H' p o) := fun a u ha => by
  rw [upd_ne (ne_of_none ha h)]
  exact e a u ha
theorem Same.rd {H H' : Hp} {a : Addr} {u : HO} (e : Same H H') (h : Rd H a u) : Rd H' a u := by
  rcases h with h | ⟨o, h⟩
  · exact Or.inl (e a _ h)
  · exact Or.inr ⟨o, e a _ h⟩
theorem Same.tup {K : PySem.W.Frag} {H H' : Hp} {a : Addr} {xs : List V} (e : Same H H') (h : SqT K H a xs) : SqT K H' a xs := by
  rcases h with h | h
  · exact Or.inl (Same.rd e h)
  · exact Or.inr h
/-- all but the object at p is as it was -/
def Sam (p : Addr) (H H' : Hp) : Prop := ∀ a o, a ≠ p → H a = some o → H' a = some o
theorem Sam.refl {p : Addr} (H : Hp) : Sam p H H := fun _ _ _ h => h
theorem Sam.of {p : Addr} {H H' : Hp} (e : Same H H') : Sam p H H' := fun a o _ h => e a o h
theorem Sam.trans {p : Addr} {H H1 H2 : Hp} (a : Sam p H H1) (b : Sam p H1 H2) : Sam p H H2 := fun c o n h => b c o n (a c o n h)
theorem Sam.upd {p : Addr} {H H' : Hp} {o : HO} (e : Sam p H H') : Sam p H (L2.upd H' p o) := fun a u n h => by
  rw [upd_ne n]
  exact e a u n h
theorem Sam.new {p q : Addr} {H H' : Hp} {o : HO} (e : Sam p H H') (h : H' q = none) : Sam p H (L2.upd H' q o) := fun a u n ha => by
  rw [upd_ne (ne_of_none (e a u n ha) h)]
  exact e a u n ha
theorem Sam.mut {p q : Addr} {H H' : Hp} {o : HO} (e : Sam p H H') (h : H q = none) : Sam p H (L2.upd H' q o) := fun a u n ha => by
  rw [upd_ne (ne_of_none ha h)]
  exact e a u n ha

/-- a comprehension that only makes things: turn i is kept if b i, and gives what R i tells -/
theorem lc_flt {J : It} {n : Nat} {G : Hp → Prop} {Y : Nat → Hp → V → Hp → Prop} (w : Walk J n G Y) (R : Nat → V → Hp → Prop) (b : Nat → Bool) {g : TG} {tt : TT} {te : TE} {vs : List Nat} {σ : L2.St} {H1 : Hp} {D : Addr} {Qd : Hp → Prop} (hD : H1 D = none)
    (mono : ∀ i v H H' ys, H D = some (.lst ys) → Sam D H H' → R i v H → R i v H') (hG : ∀ H, Same H1 H → G H) (hn : n < sizeLine)
    (hs : ∀ i x H H', i < n → Same H1 H → Y i H x H' → Same H H' ∧ g x (wipe σ vs) H' fun σ2 H2 => wipe σ2 vs = wipe σ vs ∧ Same H' H2 ∧
      ∀ Q : Bool → Hp → Prop, (∀ H3, Same H2 H3 → (b i = true → ∀ Q' : VK, (∀ v H4, Same H3 H4 → R i v H4 → Q' v H4) → te σ2 H3 Q') → Q (b i) H3) → tt σ2 H2 Q)
    (hg : ∀ x σ' H' (Q Q' : L2.St → Hp → Prop), (∀ σ2 H2, Q σ2 H2 → Q' σ2 H2) → g x σ' H' Q → g x σ' H' Q')
    (hd : ∀ H ys, Same H1 H → H D = some (.lst ys) → ys.length = ((List.range n).filter b).length → (∀ (j i : Nat) v, ((List.range n).filter b)[j]? = some i → ys[j]? = some v → R i v H) → Qd H) :
    ∃ W : Nat → Nat → Hp → Prop, (∃ m, W 0 m (upd H1 D (.lst []))) ∧ ∀ i m H, W i m H →
      (J.stop i H ∧ Qd H) ∨ (J.go i H ∧ ∃ Nx : Hp → Prop, (∀ H', Nx H' → ∃ m', m' < m ∧ W (i + 1) m' H') ∧ ∀ x H', J.yld i H x H' → g x (wipe σ vs) H' fun σ2 H2 => wipe σ2 vs = wipe σ vs ∧ tt σ2 H2 fun b H3 =>
        if b = true then te σ2 H3 fun y H4 => ∃ acc, H4 D = some (.lst acc) ∧ acc.length < sizeLine ∧ Nx (upd H4 D (.lst (acc ++ [y]))) else Nx H3) := by
  refine lc_it w (fun i H => Same H1 H ∧ ∃ ys, H D = some (.lst ys) ∧ ys.length = ((List.range i).filter b).length ∧ ∀ (j k : Nat) v, ((List.range i).filter b)[j]? = some k → ys[j]? = some v → R k v H)
    ⟨Same.new hD, [], upd_same, rfl, fun j k v h1 h2 => by simp at h2⟩ (fun i H _ p => hG H p.1) (fun i x H H' hi p y => ?_) (fun H p => ?_)
  · obtain ⟨s1, ys, e1, e2, e3⟩ := p
    obtain ⟨s2, k⟩ := hs i x H H' hi s1 y
    refine hg x _ H' _ _ (fun σ2 H2 q => ?_) k
    obtain ⟨q1, q2, q3⟩ := q
    refine ⟨q1, q3 _ fun H3 s3 kk => ?_⟩
    have s13 : Same H1 H3 := (s1.trans s2).trans (q2.trans s3)
    have sH3 : Same H H3 := s2.trans (q2.trans s3)
    have hl : ((List.range i).filter b).length ≤ i := by
      have h := List.length_filter_le b (List.range i)
      rw [List.length_range] at h
      exact h
    cases hb : b i with
    | true =>
      rw [if_pos rfl]
      refine kk hb _ fun v H4 s4 r => ⟨ys, s4 _ _ (sH3 _ _ e1), by omega, Same.mut (s13.trans s4) hD, _, upd_same, ?_, ?_⟩
      · rw [List.range_succ, List.filter_append, List.length_append, List.length_append, e2]
        simp [hb]
      · intro j m v' h1 h2
        have hD4 : H4 D = some (.lst ys) := s4 _ _ (sH3 _ _ e1)
        have eF : (List.range (i + 1)).filter b = (List.range i).filter b ++ [i] := by
          rw [List.range_succ, List.filter_append]
          simp [hb]
        rw [eF] at h1
        by_cases hj : j < ys.length
        · rw [List.getElem?_append_left (by omega)] at h1
          rw [List.getElem?_append_left hj] at h2
          exact mono m v' H _ ys e1 (Sam.upd (Sam.of (sH3.trans s4))) (e3 j m v' h1 h2)
        · have hj2 : j = ys.length := by
            have := (List.getElem?_eq_some_iff.mp h2).1
            rw [List.length_append, List.length_singleton] at this
            omega
          rw [List.getElem?_append_right (by omega)] at h1 h2
          have z1 : j - ((List.range i).filter b).length = 0 := by omega
          have z2 : j - ys.length = 0 := by omega
          rw [z1] at h1
          rw [z2] at h2
          have hm : i = m := by simpa using h1
          have hv : v = v' := by simpa using h2
          subst hm hv
          exact mono _ _ _ _ ys hD4 (Sam.upd (Sam.refl H4)) r
    | false =>
      rw [if_neg (by decide)]
      have eF : (List.range (i + 1)).filter b = (List.range i).filter b := by
        rw [List.range_succ, List.filter_append]
        simp [hb]
      refine ⟨s13, ys, sH3 _ _ e1, by rw [eF]; exact e2, ?_⟩
      rw [eF]
      exact fun j m v' h1 h2 => mono m v' H H3 ys e1 (Sam.of sH3) (e3 j m v' h1 h2)
  · obtain ⟨s1, ys, e1, e2, e3⟩ := p
    exact hd H ys s1 e1 e2 e3
/-- .. each turn kept -/
theorem lc_all {J : It} {n : Nat} {G : Hp → Prop} {Y : Nat → Hp → V → Hp → Prop} (w : Walk J n G Y) (R : Nat → V → Hp → Prop) {g : TG} {te : TE} {vs : List Nat} {σ : L2.St} {H1 : Hp} {D : Addr} {Qd : Hp → Prop} (hD : H1 D = none)
    (mono : ∀ i v H H' ys, H D = some (.lst ys) → Sam D H H' → R i v H → R i v H') (hG : ∀ H, Same H1 H → G H) (hn : n < sizeLine)
    (hs : ∀ i x H H', i < n → Same H1 H → Y i H x H' → Same H H' ∧ g x (wipe σ vs) H' fun σ2 H2 => wipe σ2 vs = wipe σ vs ∧ Same H' H2 ∧ ∀ Q' : VK, (∀ v H4, Same H2 H4 → R i v H4 → Q' v H4) → te σ2 H2 Q')
    (hg : ∀ x σ' H' (Q Q' : L2.St → Hp → Prop), (∀ σ2 H2, Q σ2 H2 → Q' σ2 H2) → g x σ' H' Q → g x σ' H' Q')
    (hd : ∀ H ys, Same H1 H → H D = some (.lst ys) → ys.length = n → (∀ (i : Nat) v, ys[i]? = some v → R i v H) → Qd H) :
    ∃ W : Nat → Nat → Hp → Prop, (∃ m, W 0 m (upd H1 D (.lst []))) ∧ ∀ i m H, W i m H →
      (J.stop i H ∧ Qd H) ∨ (J.go i H ∧ ∃ Nx : Hp → Prop, (∀ H', Nx H' → ∃ m', m' < m ∧ W (i + 1) m' H') ∧ ∀ x H', J.yld i H x H' → g x (wipe σ vs) H' fun σ2 H2 => wipe σ2 vs = wipe σ vs ∧ tYes σ2 H2 fun b H3 =>
        if b = true then te σ2 H3 fun y H4 => ∃ acc, H4 D = some (.lst acc) ∧ acc.length < sizeLine ∧ Nx (upd H4 D (.lst (acc ++ [y]))) else Nx H3) := by
  have ef : (List.range n).filter (fun _ => true) = List.range n := by simp
  refine lc_flt w R (fun _ => true) hD mono hG hn (fun i x H H' hi s y => ?_) hg (fun H ys s e1 e2 e3 => ?_)
  · obtain ⟨s2, k⟩ := hs i x H H' hi s y
    refine ⟨s2, hg x _ H' _ _ (fun σ2 H2 q => ?_) k⟩
    obtain ⟨q1, q2, q3⟩ := q
    exact ⟨q1, q2, fun Q hQ => hQ H2 (Same.refl H2) fun _ => q3⟩
  · rw [ef] at e2 e3
    have hl : ys.length = n := by rw [e2, List.length_range]
    refine hd H ys s e1 hl fun i v h => e3 i i v ?_ h
    have := (List.getElem?_eq_some_iff.mp h).1
    rw [List.getElem?_range (by omega)]
theorem g_name_mono {i : Nat} : ∀ x σ' H' (Q Q' : L2.St → Hp → Prop), (∀ σ2 H2, Q σ2 H2 → Q' σ2 H2) → gName i x σ' H' Q → gName i x σ' H' Q' := fun _ _ _ _ _ h q => h _ _ q
/-- the new list is told by a function -/
theorem list_fn {n : Nat} {f : Nat → V} {ys : List V} (hl : ys.length = n) (h : ∀ (i : Nat) v, ys[i]? = some v → v = f i) : ys = (List.range n).map f := by
  apply List.ext_getElem?
  intro i
  by_cases hi : i < n
  · have : ys[i]? = some ys[i] := List.getElem?_eq_getElem (by omega)
    rw [this, List.getElem?_map, List.getElem?_range hi]
    exact congrArg some (h i _ this)
  · rw [List.getElem?_eq_none (by omega), List.getElem?_eq_none (by simp; omega)]
theorem range_getD {α : Type} (l : List α) (d : α) : (List.range l.length).map (fun i => l.getD i d) = l := by
  apply List.ext_getElem?
  intro i
  by_cases hi : i < l.length
  · rw [List.getElem?_map, List.getElem?_range hi, List.getElem?_eq_getElem hi]
    simp [List.getD_eq_getElem?_getD, List.getElem?_eq_getElem hi]
  · rw [List.getElem?_eq_none (by simp; omega), List.getElem?_eq_none (by omega)]
theorem range_map {α β : Type} (l : List α) (d : α) (f : α → β) : (List.range l.length).map (fun i => f (l.getD i d)) = l.map f := by
  have h := congrArg (List.map f) (range_getD l d)
  rw [List.map_map] at h
  exact h
/-- a if c else b, both written -/
theorem ite_c {a b : V} {c : Bool} {K : VK} {σ : L2.St} {H : Hp} (h : K (if c = true then a else b) H) : if c = true then tC a σ H K else tC b σ H K := by
  cases c
  · exact h
  · exact h
theorem iteT' {c : Bool} {A B : Prop} (e : c = true) (h : A) : if c = true then A else B := by rw [if_pos e]; exact h
theorem iteF' {c : Bool} {A B : Prop} (e : c = false) (h : B) : if c = true then A else B := by rw [e, if_neg (by decide)]; exact h
theorem sz {n : Nat} (h : n ≤ 1000000) : n ≤ sizeLine := Nat.le_trans h (by decide)
theorem szl {n : Nat} (h : n ≤ 1000000) : n < sizeLine := Nat.lt_of_le_of_lt h (by decide)
end NA

/-! Part E: tuples of texts, at the level of values. -/
namespace NA
open PySem PySem.Spec PyProof.Rows L2
abbrev Oks (ns : List Str) : Prop := ∀ n ∈ ns, PyData.strOk n = true
theorem canLay_strs : ∀ ns : List Str, Oks ns → PyData.canLayAll0 (ns.map PyData.str) = true
  | [], _ => by simp [PyData.canLayAll0]
  | a :: as, h => by
    simp only [List.map_cons, PyData.canLayAll0, PyData.canLay0, canLay_strs as fun n hn => h n (List.mem_cons_of_mem _ hn), h a (List.mem_cons_self ..), Bool.and_self]
theorem eqvAll_strs : ∀ ns ms : List Str, PyData.eqvAll (ns.map PyData.str) (ms.map PyData.str) = decide (ns = ms)
  | [], [] => by simp [PyData.eqvAll]
  | [], _ :: _ => by simp [PyData.eqvAll]
  | _ :: _, [] => by simp [PyData.eqvAll]
  | a :: as, b :: bs => by
    simp only [List.map_cons, PyData.eqvAll, eqv_str, eqvAll_strs as bs]
    by_cases h1 : a = b <;> by_cases h2 : as = bs <;> simp [h1, h2]
section
variable {K : PySem.W.Frag} {H : Hp} {p q : Addr} {ns ms : List Str} {xs : List V} {Q : VK}
/-- t[:k], t[:-1] -/
theorem c_slT {k : Nat} (h : SqT K H p xs) (hk : k ≤ xs.length) (q : ∀ r H', Same H H' → SqT K H' r (xs.take k) → Q (.ref r) H') : rSlA K (.ref p) none (some (k : Int)) H Q := by
  have e : HT.sIx xs.length xs.length (some (k : Int)) = k := by rw [HT.sIx_nat, Nat.min_eq_left hk]
  refine ⟨p, xs, rfl, h, fun hw => ?_, fun _ r hr => ?_⟩
  · rw [e] at hw
    refine q p H (Same.refl H) ?_
    rw [hw.2, List.take_length]
    exact h
  · refine q r _ (Same.new hr) (SqT.of ?_)
    rw [upd_same]
    unfold cutV
    rw [e, HT.sIx_none, List.drop_zero, Nat.sub_zero]
end
/-- a statement, then the rest, with a word between them -/
def tJn (t u : TS) : TS := fun D σ H => ∃ Mid : L2.St → Hp → Prop, t { D with nx := Mid } σ H ∧ ∀ σ' H', Mid σ' H' → u D σ' H'
theorem pss_jn {X : Cx} {st : Stmt} {rest : List Stmt} {t u : TS} (h1 : PS X st t) (h2 : PSs X rest u) : PSs X (st :: rest) (tJn t u) := by
  refine ⟨fun pins s σ H D I h => ?_⟩
  obtain ⟨Mid, hm, hu⟩ := h
  refine wpAny_execs_cons (thn (h1.run pins s σ H { D with nx := Mid } I hm) fun f s1 q => ?_)
  cases f with
  | next =>
    obtain ⟨σ', H', I', q⟩ := q
    exact h2.run pins s1 σ' H' D I' (hu σ' H' q)
  | ret v => exact q
  | brk => exact q
  | cont => exact q
section
variable {te : TE} {u : TS} {D : Ends} {σ : L2.St} {H : Hp} {i : Nat}
end
end NA

/-! Part F: own errors over ValueError whose __init__ says super().__init__(text), then self.f = p. -/
namespace NA
open PySem PySem.Spec PyProof.Rows L2
abbrev erFd (qual : Str) (params : Arguments) (body : List Stmt) (scope : Scope) (cc : Addr) (kV doc pm : Value) (an : Option Addr) (cdv ct : Value) : FuncData :=
  { PySem.W.fnOf "__init__" qual params body scope .none kV doc pm an cdv ct with closure := [("__class__", cc)] }
/-- the text of such an __init__ -/
def ErT (body : List Stmt) (txt f par : Str) : Prop := ∃ (p0 p1 p2 p3 p4 p5 p6 p7 p8 p9 : Pos) (j : Nat),
  body = [.Expr (.Call (.Attribute (.Call (.Name "super" p0) [] [] p1) "__init__" p2) [.Constant (.str txt) j p3] [] p4) p5, .Assign [.Attribute (.Name "self" p6) f p7] (.Name par p8) p9] ∧
  ∀ env : Env, ∃ pl : Sem Bool, eval (.Call (.Attribute (.Call (.Name "super" p0) [] [] p1) "__init__" p2) [.Constant (.str txt) j p3] [] p4) env = (do
    let ov ← attributeBase (.Call (.Name "super" p0) [] [] p1) "__init__" env (eval (.Call (.Name "super" p0) [] [] p1) env)
    standAt p2.atName
    let (f, first) ← holding [ov] (getMethod ov "__init__" pl)
    callWith p4 f first (backTo p4 (starEach [.Constant (.str txt) j p3] env)) [])
structure ErC (P : Program) (K : PySem.W.Frag) (mg : Str → Option Value) (C fI : Addr) (f par : Str) (st : Stmt) : Prop where
  ox : OexC K C
  init : PySem.W.findIn K (.ref C) "__init__" = some (some (.ref fI))
  ity : PySem.W.typeIn K (.ref fI) = some (.type "function")
  nof : PySem.W.findIn K (.ref C) f = some none
  opq : PySem.W.nsIn K cStatics "thirdparty.any" = some none
  sup : PySem.W.ks_superIn K C C "__init__" = some (some (.builtin "ValueError.__init__"))
  ve : PySem.W.subIn K (.ref C) (.type "ValueError") = some true
  slf : PySem.W.mroIn K C (.ref C) = some true
  ns : mg "super" = none
  top : (P.main.scope.names.lookup ("super" : Str)).isSome = false
  fn : ∃ (qual : Str) (cc cd : Addr) (kV doc pm ct oc : Value) (od an : Option Addr) (osl : Array (Option Value)), K.lookup fI = some ⟨oc, od, .func (erFd qual (defArgs st) (defBody st) (defScope st) cc kV doc pm an (.ref cd) ct), osl⟩ ∧ PySem.W.codeIn K (.ref cd) qual = true ∧
    (∃ (o : Value) (d : Option Addr) (sl : Array (Option Value)), K.lookup cc = some ⟨o, d, .cell (some (.ref C)), sl⟩) ∧
    ∃ (o : Value) (d : Option Addr) (vs : Array Value) (sl : Array (Option Value)) (file : Str) (tf : Tok), K.lookup cd = some ⟨o, d, .fields vs, sl⟩ ∧ vs[2]? = some (.str file tf) ∧ ((P.main.file : Str) == file) = true
  txt : ∃ t : Str, t.length ≤ 1000 ∧ ErT (defBody st) t f par
  hd : ((defArgs st).posonlyargs ++ (defArgs st).args).head?.map (·.arg) = some "self"
  kind : (defScope st).kind = .function
  co : (defScope st).isCoroutine = false
  gen : (defScope st).isGenerator = false
  l0 : (defScope st).names.lookup ("self" : Str) = some .local
  l1 : (defScope st).names.lookup par = some .local
  ls : (defScope st).names.lookup ("super" : Str) = some .globalImplicit
  lc : (defScope st).names.lookup ("__class__" : Str) = some .free
  fre : ∀ y ∈ (defScope st).names, y.2 = .free → y.1 = "__class__"
  noc : ∀ y ∈ (defScope st).names, y.2 ≠ .cell
  ne : par ≠ "self"
  pd : (par == ("__debug__" : Str)) = false
  pc : (par == ("__classdict__" : Str)) = false
  bnd : ∀ (qual : Str) (cc : Addr) (kV doc pm : Value) (an : Option Addr) (cdv ct x y : Value), bindArgs (erFd qual (defArgs st) (defBody st) (defScope st) cc kV doc pm an cdv ct) ⟨[x, y], []⟩ = pure ([("self", x), (par, y)] : List (Str × Value))
/-- the context of the __init__ -/
def erCx (P : Program) (w : World) (K : PySem.W.Frag) (mg : Str → Option Value) (base : Heap) (N : List Str) (fd : FuncData) (f : Addr) (A : Around) (outer : List Env) (s : Shared) (H : Hp) (xe : Value → Shared → Prop) : Cx where
  prog := P
  w := w
  K := K
  mg := mg
  base := base
  A := A.deeper (callEnv fd s.heap.objs.size f)
  N := N
  s_0 := s
  H_0 := H
  env := callEnv fd s.heap.objs.size f
  outer := outer
  stack := callEnv fd s.heap.objs.size f :: outer
  ex := []
  fn := fun _ => false
  calm := true
  pn := []
  xe := xe
section
variable {P : Program} {w : World} {K : PySem.W.Frag} {mg : Str → Option Value} {base : Heap} {C fI : Addr} {f par : Str} {st : Stmt}
theorem er_start {A : Around} {outer : List Env} {s : Shared} {H : Hp} {xe : Value → Shared → Prop} {qual : Str} {cc : Addr} {kV doc pm ct cdv u : Value} {an : Option Addr} {a : Addr} {v : V} {h1 : Heap} {tk : Nat}
    (R : ErC P K mg C fI f par st) (hcc : ∃ (o : Value) (d : Option Addr) (sl : Array (Option Value)), K.lookup cc = some ⟨o, d, .cell (some (.ref C)), sl⟩) (e0 : Env0 P w K mg base A outer s H) (hd : A.handled = none)
    (hns : h1.Ns s.heap.objs.size fun y => ([("self", Value.ref a), (par, u)] : List (Str × Value)).reverse.lookup y) (kp : ∀ b o, s.heap.get? b = some o → h1.get? b = some o) (rv : RelV v u) :
    Inv (erCx P w K mg base ["self", par] (erFd qual (defArgs st) (defBody st) (defScope st) cc kV doc pm an cdv ct) fI A outer s H xe) [] [some (.ref a), some v] H { s with heap := h1, toks := tk } := by
  obtain ⟨o, d, sl, hc⟩ := hcc
  have bc := e0.bs _ _ (e0.mod.kin _ _ hc)
  have one : ∀ {y : Str} {c : Addr}, ([("__class__", cc)] : List (Str × Addr)).lookup y = some c → y = "__class__" ∧ c = cc := fun {y c} e => by
    have := PySem.mem_of_lookup e
    simp only [List.mem_singleton, Prod.mk.injEq] at this
    exact this
  refine ⟨⟨e0.mod, R.kind, rfl, rfl, Nat.le_refl _, fun y z c e1 e2 => (one e1).1.trans (one e2).1.symm, fun y hy => ?_, fun y c z _ => ?_, fun _ => hd, Around.frames_deeper e0.frames, .inr ⟨rfl, rfl⟩, (fun b z => (List.not_mem_nil (show b ∈ ([] : List Addr) from z)).elim), e0.bs, e0.bsz, (fun b _ _ z => (List.not_mem_nil (show b ∈ ([] : List Addr) from z)).elim), (fun b z => (List.not_mem_nil (show b ∈ ([] : List Addr) from z)).elim), e0.funs, e0.frf⟩,
    rfl, e0.bare, Un.kept kp, ⟨_, hns, fun i y v' e1 e2 e3 => ?_⟩, fun y c e => ?_, e0.hok.fresh (Nat.le_refl _), fun y c e => ?_, (fun q hq => (List.not_mem_nil (show q ∈ ([] : List (Addr × Obj)) from hq)).elim), e0.hok.kept kp, rfl⟩
  · refine ⟨cc, ?_⟩
    have hy : (defScope st).names.lookup y = some .cell ∨ (defScope st).names.lookup y = some .free := hy
    rcases hy with k | k
    · exact (R.noc _ (PySem.mem_of_lookup k) rfl).elim
    · have e : y = "__class__" := R.fre _ (PySem.mem_of_lookup k) rfl
      rw [e]
      rfl
  · exact (Bool.false_ne_true (show false = true from z)).elim
  · have e1 : (["self", par] : List Str)[i]? = some y := e1
    match i, e1, e2 with
    | 0, e1, e2 =>
      have ey : "self" = y := by simpa using e1
      have ev : V.ref a = v' := by simpa using e2
      subst ey ev
      refine ⟨.ref a, rfl, .inl ⟨R.l0, ?_⟩⟩
      show ([(par, u), ("self", Value.ref a)] : List (Str × Value)).lookup ("self" : Str) = _
      rw [List.lookup_cons, show (("self" : Str) == par) = false from beq_eq_false_iff_ne.mpr (Ne.symm R.ne)]
      rfl
    | 1, e1, e2 =>
      have ey : par = y := by simpa using e1
      have ev : v = v' := by simpa using e2
      subst ey ev
      refine ⟨u, rv, .inl ⟨R.l1, ?_⟩⟩
      show ([(par, u), ("self", Value.ref a)] : List (Str × Value)).lookup par = _
      rw [List.lookup_cons, show (par == par) = true from beq_self_eq_true par]
    | n + 2, e1, e2 => simp at e2
  · obtain ⟨rfl, rfl⟩ := one e
    exact ⟨_, _, kp _ _ bc.1, rfl⟩
  · obtain ⟨rfl, rfl⟩ := one e
    exact bc.2
/-- the bound ValueError.__init__, called -/
theorem er_call {A : Around} {E : Value → Shared → Prop} {h : Heap} {g : Array GenState} {d : Drawn} {t : Nat} {os : OsState} {u e t0 : Addr} {rest : List Value} {Q : Value → Shared → Prop}
    {nm q : Str} {N : Addr} {bs bm sub : List Value} {hdct ab : Bool} {sn : List Str} {col : Option Bool} {dd : Option Addr} {k0 k1 k2 k3 k5 : Option Value}
    (hC : h.get? C = some (excClassObj nm q C N bs bm hdct sn sub ab col dd k0 k1 k2 k3 k5 "ValueError.__new__")) (he : h.get? e = some (PySem.HandSPX.excO C t0)) (hu : h.get? u = some (PySem.W.kxs_mw "ValueError.__init__" e)) (hz : rest.length ≤ sizeLine)
    (hq : ∀ h' t1, (∀ b o, b ≠ e → h.get? b = some o → h'.get? b = some o) → h'.get? e = some (PySem.HandSPX.excO C t1) → Q .none ⟨h', g, d, t, os⟩) :
    wpAny (model P w) A (call (.ref u) rest) Q E ⟨h, g, d, t, os⟩ := by
  have FB := PySem.F.excBase_ValueError
  refine wpAny_call (codeAny_of_tree (?_ : wpAny _ A.in1 (callAny (.ref u) ⟨rest, []⟩) _ _ _))
  simp only [callAny]
  refine wpAny_bind (wpAny_load hu ?_)
  have hw : (Value.type "method-wrapper" == Value.type "method" || Value.type "method-wrapper" == Value.type "builtin_function_or_method" || Value.type "method-wrapper" == Value.type "method-wrapper") = true := by decide
  simp only [PySem.W.kxs_mw, hw, if_true]
  refine PySem.W.KFB.if_so (by decide) (wpAny_bind (PySem.W.check_bound_init FB.toExcCallFacts hC he rfl ?_))
  refine wpAny_bind (wpAny_pure (wpAny_pure ⟨plainId_quiet FB.init.plain _, codeAny_builtin FB.initEntry ?_⟩))
  exact PySem.W.exc_init_tree (cls := .ref C) (t0 := t0) (dv := none) (c2 := .none) (c3 := .none) (b4 := .bool false) he hz fun h' k e' _ => hq h' _ k e'
def spErr (C : Addr) (f : Str) : Sp := fun vs H Q _ => ∃ a v, vs = [.ref a, v] ∧ H a = some (exo a C none) ∧ ∀ dx, H dx = none → dx ≠ a → Q .non (upd (upd H dx (exd dx [(f, v)])) a (exo a C (some dx)))
theorem ok_err (R : ErC P K mg C fI f par st) : ∃ fd, Binds K fd ["self", par] [] ∧ ∀ base, FnOk P w K mg base CX0 1 fI fd ["self", par] (spErr C f) := by
  obtain ⟨qual, cc, cd, kV, doc, pm, ct, oc, od, an, osl, lk, hcd, hcc, o, d, vs', sl, file, tf, hco, hvs, hfile⟩ := R.fn
  refine ⟨erFd qual (defArgs st) (defBody st) (defScope st) cc kV doc pm an (.ref cd) ct, Binds.all fun us hl => ?_, fun base => ⟨fun vs H Q E h => ?_, fun A outer s H args us vs Q E hr e0 hb hv hs => ?_⟩⟩
  · match us, hl with
    | [x, y], _ => exact R.bnd qual cc kV doc pm an (.ref cd) ct x y
  · obtain ⟨a, v, rfl, _⟩ := h; rfl
  · obtain ⟨a, v, rfl, ha, q⟩ := hs
    obtain ⟨u, rfl, rv⟩ : ∃ u, us = [.ref a, u] ∧ L2.RelV v u := by
      cases hv with
      | cons r1 r2 =>
        cases r2 with
        | cons r3 r4 =>
          cases r4
          cases r1
          exact ⟨_, rfl, r3⟩
    have KX : K.In s.heap := e0.mod.kin.keeps fun b o e => (e0.bs b o e).1
    have lim : s.heap.NoLimit := e0.mod.nolimit.keeps fun b o e => (e0.bs b o e).1
    refine PySem.ks_codeAny_call_defAt hr.depth (KX _ _ lk) rfl lim (PySem.W.codeRec_of KX hcd) rfl hb R.noc (fun x hx => ?_) (fun h1 hns kp => ?_) R.co R.gen R.kind
    · have hx : x ∈ ([("self", Value.ref a), (par, u)] : List (Str × Value)) := hx
      simp only [List.mem_cons, List.not_mem_nil, or_false] at hx
      rcases hx with rfl | rfl
      · exact R.l0
      · exact R.l1
    · obtain ⟨t, ht, p0, p1, p2, p3, p4, p5, p6, p7, p8, p9, j, hbody, hev⟩ := R.txt
      obtain ⟨env, henv⟩ : ∃ env, env = callEnv (erFd qual (defArgs st) (defBody st) (defScope st) cc kV doc pm an (.ref cd) ct) s.heap.objs.size fI := ⟨_, rfl⟩
      have I := er_start (xe := fun _ _ => False) (tk := s.toks + 2) (qual := qual) (kV := kV) (doc := doc) (pm := pm) (an := an) (cdv := .ref cd) (ct := ct) R hcc e0 hr.hd hns kp rv
      have key : ∀ body : List Stmt, body = [.Expr (.Call (.Attribute (.Call (.Name "super" p0) [] [] p1) "__init__" p2) [.Constant (.str t) j p3] [] p4) p5, .Assign [.Attribute (.Name "self" p6) f p7] (.Name par p8) p9] →
          PySem.wpAt (model P w) (A.deeper env) (.func body env) (execs body env) (fun fl s' => CR CX0 outer P w H s Q E (.ok (.ret (match fl with | .ret v => v | _ => .none))) s')
            (fun _ _ => False) { s with heap := h1, toks := s.toks + 2 } := by
        intro body hb
        subst hb
        obtain ⟨oc', dc', slc', hcl⟩ := id hcc
        have hself : ∃ ar : Arg, ((defArgs st).posonlyargs ++ (defArgs st).args).head? = some ar ∧ ar.arg = "self" := by
          have := R.hd
          cases q2 : ((defArgs st).posonlyargs ++ (defArgs st).args).head? with
          | none => rw [q2] at this; cases this
          | some ar => rw [q2] at this; exact ⟨ar, rfl, Option.some.inj this⟩
        obtain ⟨ar, har, earg⟩ := hself
        obtain ⟨nm, qn, N, bs, bm, sn, sub, ab, col, dd, k0, k1, k2, k3, k5, hC, hbm⟩ := R.ox.cls
        have KI : K.In h1 := KX.keeps kp
        have hclC : PySem.W.clsIn K C = some { name := nm, bases := bs, mro := .ref C :: bm, ns := N, qualname := qn, hasDict := true, slotNames := sn, subclasses := sub, abstract := ab, collection := col, hasDel := false } := by
          unfold PySem.W.clsIn
          rw [hC]
        obtain ⟨pl, hpl⟩ := hev env
        have hint : interactive env = false := by
          unfold interactive
          rw [show env.scope.kind = .function by rw [henv]; exact R.kind]
          rfl
        refine PySem.ks_wpAt_execs_cons (PySem.ks_wpAt_Expr_any (PySem.ks_wpAt_MethodCall (pl := pl) (PySem.ks_wpAt_super_base (f := fI) (cc := cd) (ar := ar) (fd := erFd qual (defArgs st) (defBody st) (defScope st) cc kV doc pm an (.ref cd) ct)
          (by rw [henv]; exact R.ls) (by rw [henv]; exact R.lc) (by decide) (by rw [henv]; rfl) (KI _ _ lk) rfl har (by rw [henv]; rfl) (KI _ _ hco) rfl hvs hfile R.top ?_) hpl) hint rfl)
        have hk : env.scope.kind = .function := by rw [henv]; exact R.kind
        obtain ⟨mb, hb1, hb2⟩ := e0.mod.blt
        have bk : ∀ b o, base.get? b = some o → h1.get? b = some o := fun b o e => kp b o (e0.bs b o e).1
        have hL : h1.get? a = _ := (exo_at (e0.hok.kept kp) ha).choose_spec
        obtain ⟨t0, ht0⟩ : ∃ t0, h1.get? a = some (PySem.HandSPX.excO C t0) := ⟨_, hL⟩
        rw [loadName_read hk (by rw [henv]; exact R.ls)]
        refine Calls.loadGlobal_builtin (mg := mg) (mb := mb) (v := .type "super") (by rw [henv]; exact e0.mod.glob.keeps bk) R.ns (by rw [henv]; exact hb1.keeps bk) ((hb2 "super" (by decide)).trans (by kernel_rfl)) ⟨rfl, ?_⟩
        refine wpAny_loadName_free (c := cc) (v := .ref C) hk (by rw [henv]; exact R.lc) (by rw [henv]; rfl) ⟨_, KI _ _ hcl, rfl⟩ ?_
        rw [earg]
        refine wpAny_loadName_local (v := .ref a) hk (by rw [henv]; exact R.l0) (by rw [henv]; exact hns) ?_ ?_
        · show ([(par, u), ("self", Value.ref a)] : List (Str × Value)).lookup ("self" : Str) = _
          rw [List.lookup_cons, show (("self" : Str) == par) = false from beq_eq_false_iff_ne.mpr (Ne.symm R.ne)]
          rfl
        refine PySem.ks_wpAny_isType_cls (KI _ _ hC) rfl ⟨rfl, ?_⟩
        refine PySem.ks_wpAny_call_super (KI _ _ hC) rfl ht0 rfl (fun c z => by cases z) (PySem.W.looks_mroIn KI R.slf) (fun h2 hso k2 => ?_)
        have K2 : K.In h2 := KI.keeps k2
        have J2 : PySem.W.InstAt h2 a (PySem.HandSPX.excO C t0) C none := ⟨k2 _ _ ht0, rfl, rfl, trivial⟩
        have hsup : PySem.W.alongIn K "__init__" (((Value.ref C :: bm).dropWhile (· != .ref C)).drop 1) = some (some (.builtin "ValueError.__init__")) := by
          have := R.sup
          unfold PySem.W.ks_superIn at this
          rw [hclC] at this
          exact this
        refine PySem.W.kxs_getMethod PySem.W.kxs_ValueError hso (PySem.W.looks_opaque K2 R.opq) (l₀ := .ref C :: bm) (fun A Q E s k q => wpAny_bind ((PySem.W.looks_clsIn K2 hclC) A _ E s k (wpAny_pure q))) rfl K2 hsup
          (J2.type.andThen (PySem.W.looks_subIn K2 R.ve)) (PySem.W.ks_ne K2 J2 hclC) (by decide) ?_
        show wpAny _ _ (callWith p4 (.ref h2.objs.size) [] ((false, eval (.Constant (.str t) j p3) env) :: backTo p4 (starEach [] env)) []) _ _ _
        refine PySem.W.kxs_callWith (i := "ValueError.__init__") (x := a) rfl (Calls.evalArgs_plain (Calls.spliced_cons (Calls.Constant_str (Calls.spliced_nil ⟨Heap.get?_push_size _ rfl, ?_⟩))))
        have k3 : ∀ b o, h1.get? b = some o → (h2.push (PySem.W.kxs_mw "ValueError.__init__" a)).get? b = some o := fun b o e => Heap.get?_push_of_some _ (k2 b o e)
        refine er_call (KI.keeps k3 _ _ hC) (k3 _ _ ht0) (Heap.get?_push_size _ rfl) (by show 1 ≤ sizeLine; decide) fun h4 t1 k4 e4 => ?_
        have I3 := (I.kept (h' := h2.push (PySem.W.kxs_mw "ValueError.__init__" a)) (t' := s.toks) k3).write (t' := s.toks + 2 + 1 + 1) (x := a) (e := a) (o := exo a C none) (by rw [ha]; exact True.intro) (.inl rfl) k4 ⟨_, e4⟩ (exo_ok e4)
        have eu : upd H a (exo a C none) = H := by
          funext b
          by_cases hb : b = a
          · rw [hb, upd_same, ha]
          · rw [upd_ne hb]
        rw [eu] at I3
        subst henv
        have hP := pss_one (ps_ost (pos := p9) (p' := p7) (f := f) (pe_var (pos := p6) (i := 0) (X := erCx P w K mg base ["self", par] (erFd qual (defArgs st) (defBody st) (defScope st) cc kV doc pm an (.ref cd) ct) fI A outer s H (fun _ _ => False)) (x := "self") rfl (.inl R.l0)) (pe_var (pos := p8) (i := 1) (x := par) rfl (.inl R.l1) R.pd R.pc))
        refine wpAt_of_wpAny (wpAny_mono (hP.run [] _ _ H { nx := fun _ H' => Q .non H', rt := fun _ _ => False } I3 ⟨v, rfl, .ref a, rfl, a, C, rfl, R.ox, R.nof, .inl ⟨ha, fun dx h1 h2 => q dx h1 h2⟩⟩) (fun fl s' hs => ?_) fun _ _ z => z)
        cases fl with
        | next =>
          obtain ⟨σ', H', J', q'⟩ := hs
          exact ⟨.non, H', J'.os, J'.bare, J'.base, J'.hok, rfl, q'⟩
        | ret u =>
          obtain ⟨_, _, _, _, _, q'⟩ := hs
          exact q'.elim
        | brk =>
          obtain ⟨_, _, _, q'⟩ := hs
          exact q'.elim
        | cont =>
          obtain ⟨_, _, _, q'⟩ := hs
          exact q'.elim
      refine PySem.ks_wpAt_mono (henv ▸ key _ hbody) (fun _ _ x => x) fun _ _ x => x.elim
end
end NA

/-! Part G: a caught error that is kept behind its suite. -/
namespace NA
open PySem PySem.Spec PyProof.Rows L2
def HeldO (cls : Value) (d : Option Addr) (a : Addr) : HO := .ext fun h => ∃ (oe : Obj) (vs : Array Value), h.get? a = some oe ∧ Zc cls d oe ∧ oe.data = .fields vs
theorem held_ok {P : Program} {w : World} {H : Hp} {h : Heap} {a : Addr} {cls : Value} {d : Option Addr} {oe : Obj} {vs : Array Value} (e : h.get? a = some oe) (z : Zc cls d oe) (hd : oe.data = .fields vs) : ObjOk P w H h a (HeldO cls d a) :=
  ⟨⟨oe, vs, e, z, hd⟩, ⟨oe, e⟩, fun h1 h2 ⟨o, v, e1, r⟩ k => ⟨o, v, k o e1, r⟩⟩
section
variable {X : Cx} {pins : List (Addr × Obj)} {σ : L2.St} {H : Hp} {s : Shared}
/-- an object that came since the entry and is not tracked may be tracked from now on -/
theorem inv_hold {a : Addr} {cls : Value} {d : Option Addr} {oe : Obj} {vs : Array Value} (I : Inv X pins σ H s) (h0 : X.s_0.heap.get? a = none) (hn : H a = none) (hp : ∀ p ∈ X.pn ++ pins, p.1 ≠ a) (hl : a ≠ X.env.locals)
    (ho : s.heap.get? a = some oe) (hz : Zc cls d oe) (hd : oe.data = .fields vs) : Inv X pins σ (upd H a (HeldO cls d a)) s := by
  have old : ∀ {b : Addr} {o : Obj}, X.s_0.heap.get? b = some o → b ≠ a := fun {b o} e z => by rw [z, h0] at e; cases e
  have nc : ∀ {y : Str} {c : Addr}, X.env.cells.lookup y = some c → c ≠ a := fun {y c} e z => by
    obtain ⟨v, o, e1, e2⟩ := I.cell y c e
    rw [z, ho] at e1
    cases e1
    rw [hd] at e2
    cases e2
  exact {
    ok := I.ok
    os := I.os
    bare := I.bare
    base := {
      keep := I.base.keep
      slot := I.base.slot
      free := fun b o e n x => by rw [upd_ne (old e)]; exact I.base.free b o e n x
      there := I.base.there
      tups := fun b xs e => by
        have q := I.base.tups b xs e
        rw [upd_ne (ne_of_none q hn)]; exact q
      frzs := fun b o xs e => by
        have q := I.base.frzs b o xs e
        rw [upd_ne (ne_of_none q hn)]; exact q
      tbls := fun b ps e => by
        obtain ⟨m, q⟩ := I.base.tbls b ps e
        exact ⟨m, by rw [upd_ne (ne_of_none q hn)]; exact q⟩ }
    loc := I.loc
    cell := I.cell
    free := by rw [upd_ne (Ne.symm hl)]; exact I.free
    freeC := fun y c e => by rw [upd_ne (nc e)]; exact I.freeC y c e
    pin := fun p hp' => by
      obtain ⟨e1, e2, r⟩ := I.pin p hp'
      exact ⟨e1, by rw [upd_ne (hp p hp')]; exact e2, r⟩
    hok := I.hok.laidN (fun _ _ e => e) hn (held_ok ho hz hd)
    len := I.len }
end
/-- what `except x as n: y = n` wishes: slot i is n's, slot j is y's -/
def wHold (K : PySem.W.Frag) (m : Nat) (c : Value) (i j : Nat) (Wout : WX) (D : Ends) : WX := fun cls d σ H =>
  ∃ b, PySem.W.exmOne K cls c = some b ∧ (b = true → ∀ a, H a = none → σ.length = m → D.nx (((σ.set i (some (.ref a))).set j (some (.ref a))).set i none) (upd H a (HeldO cls d a))) ∧ (b = false → Wout cls d σ H)
section
variable {X : Cx} {x n y : Str} {c : Value} {i j : Nat} {body : List Stmt} {np yp q1 q2 pos pos' : Pos} {tb : WX → TS} {Wout : WX}
/-- the catch -/
theorem hold_catch {pins : List (Addr × Obj)} {D : Ends} {u : Value} {s' : Shared} {xe' : Value → Shared → Prop} (ok : X.Ok) (hs : X.stack = X.env :: X.outer) (hf : X.env.frame = some X.env.locals) (hN : X.N.Nodup) (hi : X.N[i]? = some n) (hj : X.N[j]? = some y) (hln : X.env.kindOf n = some .local) (hly : X.env.kindOf y = some .local)
    (hex : X.ex = []) (hc : Names X x c) (tk : Takes X Wout) (hlen : i < X.N.length) (hdn : (n == ("__debug__" : Str)) = false) (hcn : (n == ("__classdict__" : Str)) = false) (xx : XE (X.tr (X.pn ++ pins) xe') (wHold X.K X.N.length c i j Wout D) u s') :
    wpAny (model X.prog X.w) X.A (noteFrame u X.env) (fun _ s2 => wpAny (model X.prog X.w) X.A (setFlight u none) (fun _ s3 =>
      wpAny (model X.prog X.w) X.A (handleBy u X.env [.ExceptHandler (some (.Name x np)) (some n) [.Assign [.Name y yp] (.Name n q1) q2] pos']) (SP X pins D) X.xe s3) X.xe s2) X.xe s' := by
  obtain ⟨a, B, sI, pins', σ', H', cls, d, rfl, J', nb, up, sky, na, os, ag, b, hb1, hyes, hno⟩ := xx
  have J : Inv X pins σ' H' sI := J'.ofTry ok
  have hfr : X.A.frames = some (X.env :: X.outer) := ok.frames.trans (congrArg some hs)
  refine Sky.land Zc.steady hfr hf (by rw [← hs]; exact sky) fun h3 fl3 up3 => ?_
  have lnd : ∀ h5, HandSPX.FlyingZ B (X.env :: X.outer) a (Zc cls d) h5 → s'.heap.UpToSlots h5 → Inv X pins σ' H' { s' with heap := h5 } := fun h5 fl5 up5 => J.landed nb fl5.1 (up.trans up5) os ag
  have J3 := lnd h3 fl3 up3
  obtain ⟨oe3, vs3, he3, hz3, hd3⟩ := fl3.there
  have nfr : a ∉ frs (X.env :: X.outer) := fun hm => by
    obtain ⟨_, o', e', hnf⟩ := fl3.2.2.1.mem hm
    rw [he3] at e'
    cases e'
    exact hnf _ hd3
  have nL : a ≠ X.env.locals := fun z => nfr (List.mem_filterMap.mpr ⟨X.env, List.mem_cons_self, by rw [hf, z]⟩)
  have nF : a ∉ X.fs := fun hm => nfr (by
    obtain ⟨e, he, q⟩ := List.mem_filterMap.mp hm
    exact List.mem_filterMap.mpr ⟨e, List.mem_cons_of_mem _ he, q⟩)
  -- it came since the entry
  have newI : sI.heap.get? a = none := by
    cases q : sI.heap.get? a with
    | none => rfl
    | some o =>
      have := nb a o q (by rw [hs]; exact nfr)
      rw [fl3.2.1] at this
      cases this
  have new0 : X.s_0.heap.get? a = none := by
    cases q : X.s_0.heap.get? a with
    | none => rfl
    | some o =>
      obtain ⟨o', e'⟩ := J.base.there a o q (by rw [hex]; exact List.not_mem_nil)
      rw [newI] at e'
      cases e'
  have newP : ∀ p ∈ X.pn ++ pins, p.1 ≠ a := fun p hp z => by
    have e := (J.pin p hp).1
    rw [z, newI] at e
    cases e
  have S3 := J3.suite he3 hd3 na nL nF
  refine wpAny_handleBy_cons (codeAny_handlers_test ?_) (by intro q; cases q)
  have LT : PySem.W.Looks (model X.prog X.w) h3 (typeOf (.ref a)) cls := fun _ _ _ _ k q => wpAny_typeOf_ref (k _ _ he3) (hz3.1.symm ▸ q)
  have test : ∀ {Q : Value → Shared → Prop} {E : Value → Shared → Prop}, Q c { s' with heap := h3 } →
      wpAny (model X.prog X.w) (X.A.mark (some (.ref a))) (eval (.Name x np) X.env) Q E { s' with heap := h3 } := fun {Q E} q => by
    obtain ⟨hg, hdbg, hm | ⟨hm, hv, hnn⟩⟩ := hc
    · exact ld_glob (X := X.suite a ((a, oe3) :: (X.pn ++ pins))) S3 hg hm q hdbg
    · exact ld_blt (X := X.suite a ((a, oe3) :: (X.pn ++ pins))) S3 hg hm hv q hnn hdbg
  refine test ((PySem.W.exm_one (M := model X.prog X.w) J3.kIn LT hb1).here ?_)
  cases b with
  | true =>
    refine codeAny_handlers_suite_as (HandSPX.lands_againZ fl3 fun h4 fl4 up4 => ?_)
    obtain ⟨oe4, vs4, he4, hz4, hd4⟩ := fl4.there
    have S4 := (lnd h4 fl4 (up3.trans up4)).suite he4 hd4 na nL nF
    refine store_ok (X := X.suite a ((a, oe4) :: (X.pn ++ pins))) (v := .ref a) S4 hN hi (.inl hln) rfl (fun s5 S5 => ?_) (.inr hln)
    have hP := pss_one (ps_set (pos := q2) (pos' := yp) (X := X.suite a ((a, oe4) :: (X.pn ++ pins))) (i := j) hN hj (.inl hly) (pe_var (i := i) (pos := q1) hi (.inl hln) hdn hcn) rfl (.inr hly))
    have hlt : i < σ'.length := by rw [J.len]; exact hlen
    refine wpAny_mono (hP.run [] s5 _ H' { nx := fun σ6 H6 => σ6 = (σ'.set i (some (.ref a))).set j (some (.ref a)) ∧ H6 = H', rt := fun _ _ => False } S5 ⟨.ref a, by rw [List.getElem?_set_self hlt], rfl, rfl⟩) (fun f s6 hsp => ?_) (fun _ _ z => z.elim)
    cases f with
    | next =>
      obtain ⟨σ6, H6, S6, rfl, rfl⟩ := hsp
      have J6 : Inv X ((a, oe4) :: pins) ((σ'.set i (some (.ref a))).set j (some (.ref a))) H6 s6 :=
        ⟨ok, S6.os, S6.bare, S6.base, S6.loc, S6.cell, S6.free, S6.freeC, fun p hp => S6.pin p (by
          rcases List.mem_append.mp hp with z | z
          · exact List.mem_append_left _ (List.mem_cons_of_mem _ (List.mem_append_left _ z))
          · rcases List.mem_cons.mp z with z | z
            · rw [z]; exact List.mem_append_left _ List.mem_cons_self
            · exact List.mem_append_left _ (List.mem_cons_of_mem _ (List.mem_append_right _ z))), S6.hok, S6.len⟩
      refine gone_ok J6 hN hi hln fun s7 J7 => ?_
      obtain ⟨hget, _⟩ := J7.pin (a, oe4) (List.mem_append_right _ List.mem_cons_self)
      have J8 : Inv X pins (((σ'.set i (some (.ref a))).set j (some (.ref a))).set i none) H6 s7 :=
        ⟨ok, J7.os, J7.bare, J7.base, J7.loc, J7.cell, J7.free, J7.freeC, fun p hp => J7.pin p (by
          rcases List.mem_append.mp hp with z | z
          · exact List.mem_append_left _ z
          · exact List.mem_append_right _ (List.mem_cons_of_mem _ z)), J7.hok, J7.len⟩
      exact ⟨_, _, inv_hold J8 new0 na newP nL hget hz4 hd4, hyes rfl a na J.len⟩
    | brk => obtain ⟨_, _, _, z⟩ := hsp; exact z.elim
    | cont => obtain ⟨_, _, _, z⟩ := hsp; exact z.elim
    | ret u => obtain ⟨_, _, _, _, _, z⟩ := hsp; exact z.elim
  | false =>
    refine wpAny_handleBy_nil ?_
    obtain ⟨k1, k2, k3, oe, vs, T, oT, ts', he, hz, hd, h1, hr⟩ := id fl3
    unfold PySem.passOn
    refine wpAny_bind (wpAny_field he hd h1 ?_)
    rw [if_neg (by simp)]
    have fin : wpAny (model X.prog X.w) X.A (setFlight (.ref a) X.env.frame) (fun _ s4 => wpAny (model X.prog X.w) X.A (throw (.ref a) : Sem Flow) (SP X pins D) X.xe s4) X.xe { s' with heap := h3 } := by
      rw [hf]
      exact HandSPX.setFlight_upZ fl3 fun h4 hh4 up4 => wpAny_throw (tk _ _ ⟨a, B, sI, pins, σ', H', cls, d, rfl, J, nb, (up.trans up3).trans up4, .inr (.inr (by rw [hs]; exact hh4)), na, os, ag, hno rfl⟩)
    first
      | exact wpAny_bind (wpAny_pure (wpAny_bind fin))
      | exact wpAny_bind fin
/-- try: body / except x as n: y = n -/
theorem ps_try_hold (hs : X.stack = X.env :: X.outer) (hf : X.env.frame = some X.env.locals) (hex : X.ex = []) (hN : X.N.Nodup) (hi : X.N[i]? = some n) (hj : X.N[j]? = some y) (hln : X.env.kindOf n = some .local) (hly : X.env.kindOf y = some .local) (hc : Names X x c) (tk : Takes X Wout)
    (hb : ∀ (W : WX) (pn : List (Addr × Obj)) (xe : Value → Shared → Prop), Takes (X.tr pn xe) W → PassesOwn (model X.prog X.w) X.A X.env xe → PSs (X.tr pn xe) body (tb W)) (hdn : (n == ("__debug__" : Str)) = false := by decide) (hcn : (n == ("__classdict__" : Str)) = false := by decide) :
    PS X (.Try body [.ExceptHandler (some (.Name x np)) (some n) [.Assign [.Name y yp] (.Name n q1) q2] pos'] [] [] pos) (fun D σ H => tb (wHold X.K X.N.length c i j Wout D) D σ H) := by
  refine ⟨fun pins s σ H D I h => wpAny_Try_except ?_⟩
  have ok := I.ok
  have hlen : i < X.N.length := (List.getElem?_eq_some_iff.mp hi).1
  have T := hb (wHold X.K X.N.length c i j Wout D) (X.pn ++ pins) (fun e s1 => wpAny (model X.prog X.w) X.A (noteFrame e X.env) (fun _ s2 => wpAny (model X.prog X.w) X.A (setFlight e none) (fun _ s3 =>
      wpAny (model X.prog X.w) X.A (handleBy e X.env [.ExceptHandler (some (.Name x np)) (some n) [.Assign [.Name y yp] (.Name n q1) q2] pos']) (SP X pins D) X.xe s3) X.xe s2) X.xe s1)
    (fun u s' xx => hold_catch ok hs hf hN hi hj hln hly hex hc tk hlen hdn hcn xx) PassesOwn.looking
  refine wpAny_mono (T.run [] s σ H D (I.toTry _) h) (fun f s1 hsp => ?_) (fun _ _ z => z)
  cases f with
  | next =>
    obtain ⟨σ', H', J', q⟩ := hsp
    exact wpAny_execs_nil ⟨σ', H', J'.ofTry ok, q⟩
  | brk =>
    obtain ⟨σ', H', J', q⟩ := hsp
    exact ⟨σ', H', J'.ofTry ok, q⟩
  | cont =>
    obtain ⟨σ', H', J', q⟩ := hsp
    exact ⟨σ', H', J'.ofTry ok, q⟩
  | ret u =>
    obtain ⟨v, σ', H', J', r, q⟩ := hsp
    exact ⟨v, σ', H', J'.ofTry ok, r, q⟩
end
end NA

/-! Part H: errors raised, kept errors looked at, lambdas. -/
namespace NA
open PySem PySem.Spec PyProof.Rows L2
/-! ### raise C(e) -/
abbrev tErr (C : Addr) (f : Str) (te : TE) : L2.St → Hp → XK → Prop := tMkO C (spErr C f) [] (tCons te tNil)
section
variable {X : Cx} {C fI : Addr} {f par x : Str} {st : Stmt} {e : Expr} {te : TE} {p pos : Pos}
theorem pmk_err (R : ErC X.prog X.K X.mg C fI f par st) (hr : Room 2 X.A) (hg : Gl X x) (hm : X.mg x = some (.ref C)) (he : PE X e te)
    (hdb : (x == ("__debug__" : Str)) = false := by decide) (hst : starEach [e] X.env = (false, eval e X.env) :: starEach [] X.env := by rfl) :
    PMk X (.Call (.Name x p) [e] [] pos) (tErr C f te) := by
  obtain ⟨fd, hb, F⟩ := ok_err (w := X.w) R
  exact pmk_oex (X := X) (p := p) (pos := pos) (ds := []) (dvs := []) R.ox R.init R.ity (F X.base) hr hb .nil (fun _ _ _ _ _ _ _ z => z.elim) hg hm (pa_cons he pa_nil hst) hdb hst rfl
theorem v_err {H1 : Hp} {v : V} {Q : XK} (k : ∀ d, H1 d = none → Q (.ref C) (some d) (upd H1 d (.xd [(f, v)]))) :
    ([v] : List V).length ≤ 1000 ∧ ∀ a, H1 a = none → spErr C f (.ref a :: ([v] ++ [])) (upd H1 a (exo a C none))
      (fun v H2 => v = .non ∧ ∃ (d : Addr) (fs : List (Str × V)), H2 a = some (exo a C (some d)) ∧ H2 d = some (exd d fs) ∧ H1 d = none ∧ Q (.ref C) (some d) (upd (del H2 a) d (.xd fs))) (fun _ _ _ => False) := by
  refine ⟨by show 1 ≤ 1000; omega, fun a ha => ⟨a, v, rfl, upd_same, fun dx h1 h2 => ⟨rfl, dx, [(f, v)], upd_same, ?_, ?_, ?_⟩⟩⟩
  · rw [upd_ne h2, upd_same]
  · rw [upd_ne h2] at h1; exact h1
  · rw [upd_ne h2] at h1
    have e : upd (del (upd (upd (upd H1 a (exo a C none)) dx (exd dx [(f, v)])) a (exo a C (some dx))) a) dx (.xd [(f, v)]) = upd H1 dx (.xd [(f, v)]) := by
      funext b
      by_cases hb : b = dx
      · rw [hb, upd_same, upd_same]
      · rw [upd_ne hb, upd_ne hb]
        by_cases hb2 : b = a
        · rw [hb2, del_same, ha]
        · rw [del_ne hb2, upd_ne hb2, upd_ne hb, upd_ne hb2]
    rw [e]
    exact k dx h1
end
/-! ### a kept error: its field, isinstance -/
section
variable {X : Cx} {C : Addr} {e : Expr} {te : TE} {pos : Pos} {n : Str}
def tHeld (C : Addr) (n : Str) (te : TE) : TE := fun σ H Q => te σ H fun x H1 => ∃ (a dd : Addr) (fs : List (Str × V)) (v : V), x = .ref a ∧ H1 a = some (HeldO (.ref C) (some dd) a) ∧ H1 dd = some (.xd fs) ∧ fs.lookup n = some v ∧ Q v H1
theorem held_at {pins : List (Addr × Obj)} {σ : L2.St} {H : Hp} {s : Shared} {a dd : Addr} {fs : List (Str × V)} (I : Inv X pins σ H s) (ha : H a = some (HeldO (.ref C) (some dd) a)) (hd : H dd = some (.xd fs)) :
    ∃ (oe od : Obj) (mA : Str → Option Value), PySem.W.InstAt s.heap a oe C (some od) ∧ (∀ name, PySem.W.lookIn name od = some (mA name)) ∧ ∀ f, RelO (fs.lookup f) (mA f) := by
  obtain ⟨⟨oe, vs, e1, hz, hdat⟩, _, _⟩ := (show ObjOk X.prog X.w H s.heap a (HeldO (.ref C) (some dd) a) from I.hok a _ ha)
  obtain ⟨mA, hns, hr⟩ := (show ObjOk X.prog X.w H s.heap dd (.xd fs) from I.hok dd _ hd)
  obtain ⟨od, ho, hl⟩ := lookIn_ns hns
  exact ⟨oe, od, mA, ⟨e1, hz.1, by unfold PySem.W.notCls; rw [hdat] <;> rfl, by rw [hz.2]; exact ho⟩, hl, hr⟩
theorem pe_held (T : XfC X.K C) (hno : PySem.W.findIn X.K (.ref C) n = some none) (he : PE X e te) (hb : attributeBase e n X.env (eval e X.env) = eval e X.env := by rfl) : PE X (.Attribute e n pos) (tHeld C n te) := by
  refine ⟨fun pins s σ H Q I h => attr_of hb (thn (he.run pins s σ H _ I h) fun u s1 hh => ?_)⟩
  obtain ⟨x, H1, I1, rx, a, dd, fs, v, rfl, ha, hd, l, q⟩ := hh
  obtain rfl : u = Value.ref a := rx
  obtain ⟨oe, od, mA, J, hl, hr⟩ := held_at I1 ha hd
  obtain ⟨u, hu, ru⟩ := RelO.some_of (v := v) (o := mA n) (by rw [← l]; exact hr n)
  exact HandSPX.exc_get I1.kIn J T.ga T.gg T.exC (PySem.W.findObj_own T.hdC hno rfl (by rw [hl, hu])) (handed_of ru) ⟨v, H1, I1.tok _, ru, q⟩
def rIsH (K : PySem.W.Frag) : List V → Hp → VK → Prop := fun xs H Q => ∃ (a D dd : Addr) (fs : List (Str × V)) (c : V) (cv : Value) (b : Bool), xs = [.ref a, c] ∧ ExcC K D ∧ H a = some (HeldO (.ref D) (some dd) a) ∧ H dd = some (.xd fs) ∧ (∀ u, L2.RelV c u → u = cv) ∧ PySem.W.kitOne K (.ref D) cv = some b ∧ Q (.bl b) H
theorem kitx_held {K : PySem.W.Frag} {x D : Addr} (T : ExcC K D) : PySem.W.KitX K (.ref x) (.ref D) (fun h => ∃ ox od, PySem.W.InstAt h x ox D od) where
  ty := fun _ _ _ ⟨_, _, I⟩ => I.type
  it := fun _ _ X _ => by
    obtain ⟨cd, hc, _⟩ := PySem.W.any_some T.hd
    unfold PySem.W.clsIn at hc
    split at hc
    · rename_i ho
      intro A' Q' E' s' k q
      unfold isType loadHead
      exact wpAny_bind (wpAny_loadPart (k _ _ (X _ _ ho)) (wpAny_pure q))
    · cases hc
  ne := fun h tp dd its n sl X htp => by
    obtain ⟨cd, hc, _⟩ := PySem.W.any_some T.hd
    refine Bool.eq_false_iff.mpr fun q => ?_
    have e : D = tp := Value.ref.inj (beq_iff_eq.mp q)
    subst e
    unfold PySem.W.clsIn at hc
    split at hc
    · rename_i ho
      have z := (X _ _ ho).symm.trans htp
      cases z
    · cases hc
  ca := fun {_ _ _ _ _ _} X ⟨ox, od, I⟩ k => by
    obtain ⟨cd, hc, _⟩ := PySem.W.any_some T.hd
    exact PySem.W.kx_classE X I T.hg T.hk T.hs (PySem.W.findObj_dataE (by rw [hc]; rfl) T.ha T.hn T.ht) T.hm k
theorem call_isH : CallR X (.builtin "isinstance") (rIsH X.K) := by
  intro pins s σ H xs us Q I r h
  obtain ⟨a, D, dd, fs, c, cv, b, rfl, T, ha, hd, hcv, e, q⟩ := h
  obtain ⟨u1, u2, rfl, r1, r2⟩ := vals2 r
  cases (show u1 = Value.ref a from r1)
  have ec := hcv _ r2
  subst ec
  obtain ⟨oe, od, mA, J, _, _⟩ := held_at I ha hd
  exact PySem.W.kia_one (kitx_held T) I.kIn ⟨_, _, J⟩ e (fun z => nomatch z) fun tk => ⟨.bl b, H, I.tok tk, rfl, q⟩
end
end NA

/-! Part I: class and static methods by keyword, defs that raise, defs that make lambdas. -/
namespace NA
open PySem PySem.Spec PyProof.Rows L2
section
variable {X : Cx} {CX : CXT} {k n : Nat} {C p g : Addr} {mc : Value} {sp : Sp} {E : XK} {m : Str} {ks : List Str} {o e : Expr} {es : List Expr} {kws : List Keyword} {ta : TE} {t tk : TA} {pos apos : Pos}
/-- C.m(..), m a staticmethod -/
structure SMet (K : PySem.W.Frag) (C : Addr) (mc : Value) (m : Str) (p g : Addr) : Prop where
  at_ : PySem.W.findCls K (.ref C) mc m = some (.get (.builtin "staticmethod.__get__") (.ref p) .none (.ref C))
  rc : ∃ rest, PySem.W.recIn K p "staticmethod" = some (.ref g :: rest)
  kp : PySem.W.keepIn K (.ref g) = true
end
section
variable {P : Program} {w : World} {K : PySem.W.Frag} {mg : Str → Option Value} {base : Heap} {k : Nat} {f : Addr} {sp : Sp}
/-- a def that may raise: its promise, and its promise by keywords -/
theorem fnx {x qual : Str} {st : Stmt} {N ps : List Str} (F : FunE K x qual st f) (S : FnScope N ps (defScope st))
    (hb : ∀ (kV doc pm : Value) (an : Option Addr) (cdv ct : Value) (us : List Value), us.length = ps.length → bindArgs (PySem.W.fnOf x qual (defArgs st) (defBody st) (defScope st) .none kV doc pm an cdv ct) ⟨us, []⟩ = pure (ps.zip us))
    (len : ∀ vs H Q E, sp vs H Q E → vs.length = ps.length)
    (hbody : ∀ (cdv : Value) (A : Around) (outer : List Env) (s : Shared) (H : Hp) (vs : List V) (Q : VK) (E : XK), Room k (A.deeper (envOfC qual (defScope st) s.heap.objs.size f cdv)) → sp vs H Q E →
      ∃ t, PSs (cxOf (L2.CX P w) P w K mg base N qual (defScope st) f cdv A outer s H E) (defBody st) t ∧ t { nx := fun _ H' => Q .non H', rt := Q } (start N vs) H) : FnR P w K mg base (L2.CX P w) (k + 1) f sp := by
  obtain ⟨fd, F⟩ := F
  exact fnr_of (F.okX S len hbody) (F.binds hb)
/-- in such a def, what is wished of an error -/
theorem takesX {N : List Str} {qual : Str} {sc : Scope} {cdv : Value} {A : Around} {outer : List Env} {s : Shared} {H : Hp} {E : XK} : Takes (cxOf (L2.CX P w) P w K mg base N qual sc f cdv A outer s H E) (fun cls d _ H' => E cls d H') :=
  takes_of rfl rfl rfl rfl
end
end NA

/-! The end of a law whose promise is asked only where no repr is under way (guards empty). -/
namespace NA
open PySem PySem.Spec PyProof.Rows L2
/-- a promise where the guards are empty -/
def FnG (P : Program) (w : World) (K : PySem.W.Frag) (mg : Str → Option Value) (base : Heap) (CX : CXT) (k : Nat) (f : Addr) (sp : Sp) : Prop :=
  ∀ (A : Around) (outer : List Env) (s : Shared) (H : Hp) (us : List Value) (vs : List V) (Q : VK) (E : XK), Room k A → A.guards = some [] → Env0 P w K mg base A outer s H → Vals vs us → sp vs H Q E →
    codeAny (model P w) A (.call (.ref f) ⟨us, []⟩) (CR CX outer P w H s Q E) s
/-- the things that stand when the law is called -/
structure Stand (K : PySem.W.Frag) (mg mb : Str → Option Value) (cs : List (Addr × Addr)) (a : Addr) (vs : List Value) (s : Shared) : Prop where
  kin : K.In s.heap
  glob : s.heap.Ns mainGlobals mg
  blt : s.heap.Ns builtinsNs mb
  bb : ∀ x : Str, x ≠ "__name__" → mb x = bootBuiltins x
  lim : s.heap.NoLimit
  tab : ∀ p ∈ cs, s.heap.get? p.2 = some { cls := .none, data := .fields #[] }
  out : ∀ p ∈ cs, K.lookup p.2 = none
  hd : ∀ p ∈ cs, PySem.W.CodeHd s.heap p.1 p.2
  bm : ∃ (b : Addr) (ob : Obj), mg "__builtins__" = some (.ref b) ∧ b ≠ builtinsNs ∧ s.heap.get? b = some ob ∧ ob.cls = .type "module" ∧ ob.dict = some builtinsNs ∧ ob.data = .plain
  arg : s.heap.get? a = some { cls := .type "list", data := .seq vs.toArray }
section
variable {P : Program} {w : World} {K : PySem.W.Frag} {mg mb : Str → Option Value} {cs : List (Addr × Addr)} {a : Addr} {vs : List Value} {s : Shared} {H : Hp}
/-- only the script and the tables are tracked -/
def Few (cs : List (Addr × Addr)) (a : Addr) (H : Hp) : Prop := ∀ b, H b ≠ none → b = a ∨ ∃ p ∈ cs, p.2 = b
theorem Stand.clear (S : Stand K mg mb cs a vs s) (F : Few cs a H) {b : Addr} {o : Obj} (e : s.heap.get? b = some o) (n1 : ∀ us n, o.data ≠ .seq us n) (n2 : o.data ≠ .fields #[]) : H b = none := by
  cases q : H b with
  | none => rfl
  | some u =>
    rcases F b (by rw [q]; intro z; cases z) with rfl | ⟨p, hp, rfl⟩
    · rw [S.arg] at e; cases e; exact (n1 _ _ rfl).elim
    · rw [S.tab p hp] at e; cases e; exact (n2 rfl).elim
theorem Stand.ns (S : Stand K mg mb cs a vs s) (F : Few cs a H) {b : Addr} {m : Str → Option Value} (h : s.heap.Ns b m) : (hidT s.heap H).Ns b m := by
  obtain ⟨o, es, ep, e, d, r⟩ := h
  exact ⟨o, es, ep, hidT_get e (S.clear F e (by rw [d]; intro _ _ z; cases z) (by rw [d]; intro z; cases z)), d, r⟩
theorem Stand.k (S : Stand K mg mb cs a vs s) (F : Few cs a H) (hK : H a ≠ none → K.lookup a = none) : K.In (hidT s.heap H) := by
  intro b o e
  refine hidT_get (S.kin b o e) ?_
  cases q : H b with
  | none => rfl
  | some u =>
    have nn : H b ≠ none := by rw [q]; intro z; cases z
    rcases F b nn with rfl | ⟨p, hp, rfl⟩
    · rw [hK nn] at e; cases e
    · rw [S.out p hp] at e; cases e
theorem Stand.env (S : Stand K mg mb cs a vs s) (F : Few cs a H) (hK : H a ≠ none → K.lookup a = none) (hok : HOk P w H s.heap) (hg : s.gens = #[]) : Env0 P w K mg (hidT s.heap H) callerA [] s H := by
  obtain ⟨mc, l1, l2⟩ := S.lim
  exact { frames := rfl, mod := ⟨S.k F hK, S.ns F S.glob, ⟨mb, S.ns F S.blt, S.bb⟩, ⟨mc, S.ns F l1, l2⟩⟩, bs := fun _ _ e => of_hidT e, bsz := Nat.le_of_eq (hidT_size _ _), funs := trivial, frf := fun b hb => (List.not_mem_nil (show b ∈ ([] : List Addr) from hb)).elim, hok := hok, bare := .of_eq hg }
theorem Stand.tabs (S : Stand K mg mb cs a vs s) (F : Few cs a H) : ∀ p ∈ cs, LamX.TabB (hidT s.heap H) mg p.1 p.2 := by
  intro p hp
  have tp := S.tab p hp
  obtain ⟨og, es, ep, eg, dg, _⟩ := S.glob
  refine { code := ?_, bm := ?_, gP := fun z => ?_ }
  · obtain ⟨o, us, r1, r2, r3, r4, r5, r6, r7, e1, c1, c2, c3, rest⟩ := S.hd p hp
    refine ⟨o, us, r1, r2, r3, r4, r5, r6, r7, hidT_get e1 (S.clear F e1 (by rw [c2]; intro _ _ z; cases z) ?_), c1, c2, c3, rest⟩
    rw [c2]
    intro z
    cases z
    simp at c3
  · obtain ⟨b, ob, b1, b2, b3, b4, b5, b6⟩ := S.bm
    refine ⟨b, ob, b1, b2, fun z => ?_, fun z => ?_, hidT_get b3 (S.clear F b3 (by rw [b6]; intro _ _ z; cases z) (by rw [b6]; intro z; cases z)), b4, b5, b6⟩
    · rw [z, eg] at b3; cases b3; rw [dg] at b6; cases b6
    · rw [z, tp] at b3; cases b3; cases b6
  · rw [z, tp] at eg; cases eg; cases dg
/-- behind the call all is as it was, but the tables, which may have grown -/
theorem Stand.old {s' : Shared} {H' : Hp} (S : Stand K mg mb cs a vs s) (F : Few cs a H) (hT : ∀ p ∈ cs, H p.2 = some (.tbl #[])) (hZ : H a = none ∨ ∃ o xs, H a = some (.frz o (.lst xs))) (hok : HOk P w H s.heap) (hok' : HOk P w H' s'.heap) (un : Un [] [] H H' s.heap s'.heap) : OldK s.heap s'.heap := by
  have kept : ∀ b o, (∀ p ∈ cs, p.2 ≠ b) → s.heap.get? b = some o → s'.heap.get? b = some o := fun b o nb e => by
    have go : H b = none → s'.heap.get? b = some o := fun q => un.keep b o e q List.not_mem_nil List.not_mem_nil
    by_cases q : H b = none
    · exact go q
    · rcases F b q with rfl | ⟨p, hp, z⟩
      · rcases hZ with z | ⟨ob, xs, z⟩
        · exact (q z).elim
        · have e1 := (hok _ _ z).1
          have e2 := (hok' _ _ (un.frzs _ _ _ z)).1
          rw [e] at e1
          cases e1
          exact e2
      · exact (nb p hp z).elim
  have more : ∀ p ∈ cs, ∃ m : Array Value, s'.heap.get? p.2 = some { cls := .none, data := .fields m } := fun p hp => by
    obtain ⟨m, z⟩ := un.tbls p.2 #[] (hT p hp)
    exact ⟨_, hok' _ _ z⟩
  refine ⟨fun b o e => ?_, fun b o e => ?_⟩
  · by_cases hb : ∃ p ∈ cs, p.2 = b
    · obtain ⟨p, hp, rfl⟩ := hb
      obtain ⟨m, hm⟩ := more p hp
      rw [S.tab p hp] at e
      cases e
      refine .inr (.inl ⟨((S.hd p hp).tab (S.tab p hp)).isCodeTable, rfl, #[], m, rfl, ?_⟩)
      rw [Array.empty_append]
      exact hm
    · exact .inl (kept b o (fun p hp z => hb ⟨p, hp, z⟩) e)
  · by_cases hb : ∃ p ∈ cs, p.2 = b
    · obtain ⟨p, hp, rfl⟩ := hb
      obtain ⟨m, hm⟩ := more p hp
      exact ⟨_, hm⟩
    · exact ⟨o, kept b o (fun p hp z => hb ⟨p, hp, z⟩) e⟩
theorem Stand.run {CX : CXT} {k : Nat} {fa : Addr} {sp : Sp} {ns : List Int} (S : Stand K mg mb cs a vs s) (F : Few cs a H) (hT : ∀ p ∈ cs, H p.2 = some (.tbl #[])) (hZ : H a = none ∨ ∃ o xs, H a = some (.frz o (.lst xs))) (hok : HOk P w H s.heap) (hK : H a ≠ none → K.lookup a = none) (hg : s.gens = #[]) (hr : Room k callerA)
    (G : ∀ base : Heap, K.In base → base.Ns mainGlobals mg → (∀ p ∈ cs, LamX.TabB base mg p.1 p.2) → FnG P w K mg base CX k fa sp) (hsp : sp [.ref a] H (fun v _ => v = .bl true) fun _ _ _ => False) (hCX : ∀ e s', CX [] H s (fun _ _ _ => False) e s' → False) :
    codeAny (model P w) callerA (.call (.ref fa) ⟨[.ref a], []⟩) (fun r s' => r = .ok (.ret (.bool true)) ∧ OldK s.heap s'.heap ∧ s'.os = s.os ∧ AllBare s'.gens) s := by
  have R := G (hidT s.heap H) (S.k F hK) (S.ns F S.glob) (S.tabs F) callerA [] s H [.ref a] [.ref a] _ _ hr rfl (S.env F hK hok hg) (.cons rfl .nil) hsp
  refine codeAny_mono R fun r s' h => ?_
  match r, h with
  | .error e, h => exact (hCX e s' h).elim
  | .ok (.ret u), h =>
    obtain ⟨v, H', os, bare, un, hok', rv, q⟩ := h
    have q : v = .bl true := q
    subst q
    cases rv
    exact ⟨rfl, S.old F hT hZ hok hok' un, os, bare⟩
theorem Stand.call {CX : CXT} {k : Nat} {fa : Addr} {sp : Sp} {ns : List Int} (S : Stand K mg mb cs a vs s) (hg : s.gens = #[]) (hi : IntsAre vs ns) (hl : ns.length ≤ sizeLine) (hr : Room k callerA)
    (G : ∀ base : Heap, K.In base → base.Ns mainGlobals mg → (∀ p ∈ cs, LamX.TabB base mg p.1 p.2) → FnG P w K mg base CX k fa sp)
    (hsp : ∀ H : Hp, (∀ p ∈ cs, H p.2 = some (.tbl #[])) → SqL K H a (ns.map V.int) → sp [.ref a] H (fun v _ => v = .bl true) fun _ _ _ => False) (hCX : ∀ H e s', CX [] H s (fun _ _ _ => False) e s' → False) :
    codeAny (model P w) callerA (.call (.ref fa) ⟨[.ref a], []⟩) (fun r s' => r = .ok (.ret (.bool true)) ∧ OldK s.heap s'.heap ∧ s'.os = s.os ∧ AllBare s'.gens) s := by
  have na : ∀ p ∈ cs, p.2 ≠ a := fun p hp z => by
    have e := S.tab p hp
    rw [z, S.arg] at e
    have e' := congrArg (Option.map Obj.data) e
    simp at e'
  have rv := vals_ints hi
  let T : Hp := fun b => if b ∈ cs.map (·.2) then some (.tbl #[]) else none
  have Tin : ∀ p ∈ cs, T p.2 = some (.tbl #[]) := fun p hp => if_pos (List.mem_map.mpr ⟨p, hp, rfl⟩)
  have Tof : ∀ b, T b ≠ none → ∃ p ∈ cs, p.2 = b := fun b h => by
    by_cases hb : b ∈ cs.map (·.2)
    · exact List.mem_map.mp hb
    · exact (h (if_neg hb)).elim
  have Tok : ∀ b u, T b = some u → ObjOk P w T s.heap b u ∧ u = .tbl #[] ∧ ∃ p ∈ cs, p.2 = b := fun b u h => by
    obtain ⟨p, hp, rfl⟩ := Tof b (by rw [h]; intro z; cases z)
    rw [Tin p hp] at h
    cases h
    exact ⟨S.tab p hp, rfl, p, hp, rfl⟩
  have Ta : T a = none := if_neg fun h => by
    obtain ⟨p, hp, z⟩ := List.mem_map.mp h
    exact na p hp z
  cases hk : K.lookup a with
  | some o =>
    have e := S.kin a o hk
    rw [S.arg] at e
    cases e
    refine S.run (H := T) (ns := ns) (fun b h => .inr (Tof b h)) Tin (.inl Ta) (fun b u h => (Tok b u h).1) (fun h => (h Ta).elim) hg hr G (hsp T Tin (.inr ⟨_, vs.toArray, _, hk, rfl, rfl, rfl, ?_, by simpa using rv⟩)) (hCX T)
    rw [List.size_toArray, hi.length]
    exact hl
  | none =>
    let H : Hp := fun b => if b = a then some (.frz { cls := .type "list", data := .seq vs.toArray } (.lst (ns.map V.int))) else T b
    have Ha : H a = some (.frz { cls := .type "list", data := .seq vs.toArray } (.lst (ns.map V.int))) := if_pos rfl
    have Hb : ∀ b, b ≠ a → H b = T b := fun b h => if_neg h
    refine S.run (H := H) (ns := ns) (fun b h => ?_) (fun p hp => by rw [Hb _ (na p hp)]; exact Tin p hp) (.inr ⟨_, _, Ha⟩) (fun b u h => ?_) (fun _ => hk) hg hr G (hsp H (fun p hp => by rw [Hb _ (na p hp)]; exact Tin p hp) (.inl (.inr ⟨_, Ha⟩))) (hCX H)
    · by_cases hb : b = a
      · exact .inl hb
      · rw [Hb b hb] at h; exact .inr (Tof b h)
    · by_cases hb : b = a
      · subst hb
        rw [Ha] at h
        cases h
        exact ⟨S.arg, by rw [List.length_map]; exact hl, vs, _, rv, S.arg⟩
      · rw [Hb b hb] at h
        obtain ⟨_, rfl, p, hp, rfl⟩ := Tok b u h
        exact S.tab p hp
end
/-- the end of a law row -/
theorem walk_G {l : PySem.W.OpenLaw} {n k : Nat} {q : Program} {loose : List Str} {XP : (Str → Option Value) → Heap → Prop} {YP : World → Heap → Prop} {d : DefRec} {K : Params → PySem.W.Frag} (hn : l.most = some n) (hn2 : n ≤ sizeLine) (hdf : d.params.defaults = []) (hr : Room k callerA) (hY : ∀ (w : World) (h : Heap), YP w h → (K w.params).In h)
    (F : ∀ (w : World) (mg : Str → Option Value) (fa : Addr) (h : Heap), YP w h → (K w.params).In h → h.Ns mainGlobals mg → mg d.name = some (.ref fa) →
      ∃ (cs : List (Addr × Addr)) (sp : Sp), (∀ p ∈ cs, h.get? p.2 = some { cls := .none, data := .fields #[] }) ∧ (∀ p ∈ cs, (K w.params).lookup p.2 = none) ∧ (∀ p ∈ cs, PySem.W.codeHdIn (K w.params) p.1 p.2 = true) ∧
        (∀ (H : Hp) (a : Addr) (ns : List Int), ns.length ≤ n → (∀ z ∈ ns, Builtin.Int.intBits z ≤ 1048576) → (∀ p ∈ cs, H p.2 = some (.tbl #[])) → SqL (K w.params) H a (ns.map V.int) → sp [.ref a] H (fun v _ => v = .bl true) fun _ _ _ => False) ∧
        ∀ base : Heap, (K w.params).In base → base.Ns mainGlobals mg → (∀ p ∈ cs, LamX.TabB base mg p.1 p.2) → FnG l.prog w (K w.params) mg base CX0 k fa sp) :
    PySem.W.WalkO q loose XP YP l.row.toRowW d [] (fun f vs => PySem.call f vs) := by
  refine Att.attach_callB hn hdf fun w s₀ s₁ mg mb fa o pm cd doc a vs ns G Y ho hd hcd hmg hobj hints hlen hbits hg => ?_
  have KX := hY w _ Y
  obtain ⟨cs, sp, h1, h2, h3, h4, h5⟩ := F w mg fa _ Y KX G.T.g hmg
  have S : Stand (K w.params) mg mb cs a vs s₁ := ⟨KX, G.T.g, G.T.b, G.T.builtins, G.T.nolimit, h1, h2, fun p hp => PySem.W.codeHd_of_K KX (h3 p hp), G.T.bmain, hobj⟩
  exact S.call hg hints (Nat.le_trans hlen hn2) hr h5 (fun H hT hS => h4 H a ns hlen hbits hT hS) fun _ _ _ z => z
end NA

/-! Part J: defs called where no repr is under way; repr of data. -/
namespace NA
open PySem PySem.Spec PyProof.Rows L2
section
variable {P : Program} {w : World} {K : PySem.W.Frag} {mg : Str → Option Value} {base : Heap} {k : Nat} {f : Addr} {sp : Sp}
end
section
variable {X : Cx} {CX : CXT} {k : Nat} {f : Addr} {sp : Sp} {E : XK} {x : Str} {e : Expr} {es : List Expr} {t : TA} {p pos : Pos}
end
/-! ### data that repr tells, dicts among them -/
mutual
inductive Dq (K : PySem.W.Frag) (H : Hp) : V → PyData → Prop
  | non : Dq K H .non .none
  | bl (b : Bool) : Dq K H (.bl b) (.bool b)
  | int (i : Int) : Dq K H (.int i) (.int i)
  | str (x : Str) : Dq K H (.str x) (.str x)
  | lst {a : Addr} {xs : List V} {ds : List PyData} : H a = some (.lst xs) → a ≠ sysModules → DqAll K H xs ds → Dq K H (.ref a) (.list ds)
  | tup {a : Addr} {xs : List V} {ds : List PyData} : H a = some (.tup xs) → DqAll K H xs ds → Dq K H (.ref a) (.tuple ds)
  | dic0 {a : Addr} : H a = some (.dK []) → Dq K H (.ref a) (.dict [])
  | dic1 {a : Addr} {z y : Str} : H a = some (.dK [(.inr z, .str y)]) → Dq K H (.ref a) (.dict [(.str z, .str y)])
inductive DqAll (K : PySem.W.Frag) (H : Hp) : List V → List PyData → Prop
  | nil : DqAll K H [] []
  | cons {v : V} {vs : List V} {d : PyData} {ds : List PyData} : Dq K H v d → DqAll K H vs ds → DqAll K H (v :: vs) (d :: ds)
end
section
variable {X : Cx} {pins : List (Addr × Obj)} {σ : L2.St} {H : Hp} {s : Shared}
mutual
theorem Dq.reads (I : Inv X pins σ H s) : ∀ (d : PyData) (v : V) (u : Value), Dq X.K H v d → L2.RelV v u → ∃ as, Reads s.heap u d as ∧ sysModules ∉ as
  | .none, _, _, h, r => by cases h; cases r; exact ⟨_, .none, List.not_mem_nil⟩
  | .bool b, _, _, h, r => by cases h; cases r; exact ⟨_, .bool b, List.not_mem_nil⟩
  | .int i, _, _, h, r => by cases h; obtain ⟨t, rfl⟩ := r; exact ⟨_, .int i t, List.not_mem_nil⟩
  | .str x, _, _, h, r => by cases h; obtain ⟨t, rfl⟩ := r; exact ⟨_, .str x t, List.not_mem_nil⟩
  | .list ds, _, u, h, r => by
    cases h with
    | lst e na hs =>
      rename_i a xs
      cases (show u = Value.ref a from r)
      obtain ⟨_, its, n, rv, ho⟩ := (show ObjOk X.prog X.w H s.heap a (.lst xs) from I.hok a _ e)
      obtain ⟨as, ra, nas⟩ := DqAll.reads I ds xs its hs rv
      refine ⟨a :: as, .list ho rfl rfl ra, fun z => ?_⟩
      rcases List.mem_cons.mp z with z | z
      · exact na z.symm
      · exact nas z
  | .tuple ds, _, u, h, r => by
    cases h with
    | tup e hs =>
      rename_i a xs
      cases (show u = Value.ref a from r)
      obtain ⟨_, its, rv, o, ho, hc, n, hn⟩ := (show ObjOk X.prog X.w H s.heap a (.tup xs) from I.hok a _ e)
      obtain ⟨as, ra, nas⟩ := DqAll.reads I ds xs its hs rv
      exact ⟨as, .tuple ho hc hn ra, nas⟩
  | .dict kvs, _, u, h, r => by
    cases h with
    | dic0 e =>
      rename_i a
      cases (show u = Value.ref a from r)
      obtain ⟨_, ns, vs, rv, o, es, ep, ho, hx, hd, hko, hp, hnd⟩ := (show ObjOk X.prog X.w H s.heap a (.dK []) from I.hok a _ e)
      cases rv
      have he : es.toList = [] := by generalize es.toList = l at hp; cases hp; rfl
      refine ⟨_, .dict ho hx.1 hd (as := []) (bs := []) (by rw [he]; exact .nil) (by rw [he]; exact .nil), fun z => ?_⟩
      have z : sysModules ∈ [a] := z
      rw [List.mem_singleton.mp z] at ns
      simp at ns
    | dic1 e =>
      rename_i a z y
      cases (show u = Value.ref a from r)
      obtain ⟨_, ns, vs, rv, o, es, ep, ho, hx, hd, hko, hp, hnd⟩ := (show ObjOk X.prog X.w H s.heap a (.dK [(.inr z, .str y)]) from I.hok a _ e)
      cases rv with
      | cons r1 r2 =>
        cases r2
        rename_i q
        obtain ⟨e1, t2, e2⟩ := r1
        obtain ⟨en, he, hk, hv⟩ : ∃ en, es.toList = [en] ∧ keyIs q.1 en.key = true ∧ en.val = q.2 := by
          generalize es.toList = l at hp
          cases hp with
          | cons h1 h2 h3 => cases h3; exact ⟨_, rfl, h1, h2⟩
        rw [← e1] at hk
        obtain ⟨t1, ek⟩ : ∃ t, en.key = .str z t := by
          rcases keyIs_shape hk with ⟨i, t, z1, _⟩ | ⟨x, t, z1, z2⟩
          · cases z1
          · cases z1; exact ⟨t, z2⟩
        refine ⟨_, .dict ho hx.1 hd (as := []) (bs := []) (by rw [he]; show ReadsAll _ [en.key] _ _; rw [ek]; exact .cons (.str z t1) .nil) (by rw [he]; show ReadsAll _ [en.val] _ _; rw [hv, e2]; exact .cons (.str y t2) .nil), fun w => ?_⟩
        have w : sysModules ∈ [a] := w
        rw [List.mem_singleton.mp w] at ns
        simp at ns
theorem DqAll.reads (I : Inv X pins σ H s) : ∀ (ds : List PyData) (vs : List V) (us : List Value), DqAll X.K H vs ds → Vals vs us → ∃ as, ReadsAll s.heap us ds as ∧ sysModules ∉ as
  | [], _, _, h, r => by cases h; cases r; exact ⟨_, .nil, List.not_mem_nil⟩
  | d :: ds, _, _, h, r => by
    cases h with
    | cons h1 h2 =>
      cases r with
      | cons r1 r2 =>
        obtain ⟨as, a1, a2⟩ := Dq.reads I d _ _ h1 r1
        obtain ⟨bs, b1, b2⟩ := DqAll.reads I ds _ _ h2 r2
        exact ⟨as ++ bs, .cons a1 b1, fun z => (List.mem_append.mp z).elim a2 b2⟩
end
end
section
variable {X : Cx} {es : List Expr} {t : TA} {pos : Pos}
end
end NA

/-! Part L: repr of a tuple of a text and an own object. -/
namespace NA
open PySem PySem.Spec PyProof.Rows L2
section
variable {prog : Program} {w : World} {A : Around} {E : Value → Shared → Prop} {s : Shared} {K : PySem.W.Frag} {x C f : Addr} {ox : Obj} {od : Option Obj}
theorem reprUnder_own {b : Nat} {Q : Str → Shared → Prop} (X : K.In s.heap) (I : PySem.W.InstAt s.heap x ox C od) (hr : PySem.W.findIn K (.ref C) "__repr__" = some (some (.ref f))) (hf : PySem.W.isFn K (.ref f) = true) (hu : A.units < cLine) (hb : b ≤ sizeLine)
    (h : wpAny (model prog w) A (call (.ref f) [.ref x]) (fun v s' => ∃ m u, v = .str m u ∧ Q m s') E s) : wpAny (model prog w) A (pyReprUnder b (.ref x)) Q E s := by
  refine wpAny_pyReprUnder_ref hb ?_
  unfold pyReprObjUnder pyReprObjBy
  refine wpAny_bind (wpAny_cRoomFor hu (wpAny_bind (wpAny_bind (I.type.here ((PySem.W.looks_findIn X hr).here ?_)))))
  show wpAny _ _ (if (some (Value.ref f)).isNone = true then _ else _) _ _ _
  rw [if_neg (by simp)]
  refine wpAny_bind (m := callSpecialIfBoundBy? _ (.ref x) (Str.ofString "__repr__")) ?_
  simp only [callSpecialIfBoundBy?, bindSpecialIfBound?]
  refine wpAny_holding (wpAny_bind (wpAny_bind (wpAny_bind (I.type.here ((PySem.W.looks_findIn X hr).here ?_)))))
  refine wpAny_bind (wpAny_askSetting (wpAny_ite ?_))
  have fin : wpAny (model prog w) A (call (.ref f) ([.ref x] ++ []) >>= fun v => pure (some v)) (fun r s' => ∃ m u, r = some (.str m u) ∧ Q m s') E s :=
    wpAny_bind (wpAny_mono h (fun v s' h' => wpAny_pure (by obtain ⟨m, u, rfl, q⟩ := h'; exact ⟨m, u, rfl, q⟩)) fun _ _ h' => h')
  have fin2 := wpAny_mono fin (Q' := fun r s' => wpAny (model prog w) A (match r with
    | some r => (do if ← isInstance r (.type "str") then pure r else raiseError "TypeError" s!"__repr__ returned non-string (type {← typeNameOf r})")
    | none => unsupported "repr:special-get-raises") (fun v s' => ∃ x u, v = .str x u ∧ Q x s') E s') (fun r s' hr => by
      obtain ⟨m, u, rfl, q⟩ := hr
      exact wpAny_bind (wpAny_isInstance (T := "str") (b := true) (typeIs_str _ _ _) isSubtype_str_str (wpAny_pure ⟨m, u, rfl, q⟩))) fun _ _ h' => h'
  split
  · exact wpAny_bind ((PySem.W.bind_fn X _ (beq_iff_eq.mp hf)).here (wpAny_pure (by exact fin2)))
  · exact wpAny_tryCatch (wpAny_bind ((PySem.W.bind_fn X _ (beq_iff_eq.mp hf)).here (wpAny_pure (by exact fin2))))
end
section
variable {X : Cx} {CX : CXT} {n : Nat} {C f : Addr} {sp : Sp} {E : XK}
end
end NA

/-! Part M: repr of lists and tuples with own objects in them. -/
namespace NA
open PySem PySem.Spec PyProof.Rows L2
open Builtin.List in
/-- v's repr is t while G stands: room n, none of the containers as being printed already -/
def Rp (X : Cx) (n : Nat) (as : List Addr) (G : Hp → Prop) (v : V) (t : Str) : Prop :=
  ∀ (pins : List (Addr × Obj)) (σ : L2.St) (H : Hp) (s : Shared) (u : Value) (base : Nat) (A : Around) (g : List Code) (Q : Str → Shared → Prop), Inv X pins σ H s → L2.RelV v u → G H → base + t.length ≤ sizeLine → A.guards = some g → (∀ b ∈ as, Clear g b) → A.frames = X.A.frames → Room n A →
    (∀ H' s', Inv X pins σ H' s' → Same H H' → Q t s') → wpAny (model X.prog X.w) A (pyReprUnder base u) Q X.xe s
section
variable {X : Cx} {CX : CXT} {n : Nat} {C f : Addr} {sp : Sp} {E : XK} {as : List Addr} {G : Hp → Prop}
theorem Rp.is {v : V} {t : Str} (h : ∀ u, L2.RelV v u → ReprIs X.prog X.w u t) : Rp X n as G v t := fun pins σ H s u base A g Q I r hG hb _ _ _ _ hQ =>
  h u r base hb A X.xe s Q fun tk => hQ H _ (I.tok tk) (Same.refl H)
theorem Rp.non : Rp X n as G .non "None" := .is fun u r => by cases r; exact ReprIs.none
theorem Rp.bl (b : Bool) : Rp X n as G (.bl b) (if b then "True" else "False" : String) := .is fun u r => by
  cases r
  have := ReprIs.bool (prog := X.prog) (w := X.w) b
  cases b <;> exact this
theorem Rp.int {i : Int} (h : i.natAbs.log2 < 1920) : Rp X n as G (.int i) (toString i) := .is fun u r => by
  obtain ⟨t, rfl⟩ := r; exact ReprIs.int t h
theorem Rp.str {z : Str} (h : (reprText z).length ≤ sizeLine) : Rp X n as G (.str z) (reprText z) := .is fun u r => by
  obtain ⟨t, rfl⟩ := r; exact ReprIs.str z t h
theorem Rp.mono {m : Nat} {as' : List Addr} {v : V} {t : Str} (h : Rp X n as G v t) (hm : n ≤ m) (ha : ∀ b ∈ as, b ∈ as') : Rp X m as' G v t := fun pins σ H s u base A g Q I r hG hb hg hc fr hr hQ =>
  h pins σ H s u base A g Q I r hG hb hg (fun b hb => hc b (ha b hb)) fr (hr.mono hm) hQ
theorem Rp.imp {G' : Hp → Prop} {v : V} {t : Str} (h : Rp X n as G v t) (hG' : ∀ H, G' H → G H) : Rp X n as G' v t := fun pins σ H s u base A g Q I r hG hb hg hc fr hr hQ =>
  h pins σ H s u base A g Q I r (hG' H hG) hb hg hc fr hr hQ
/-- an own object with its own __repr__ -/
theorem Rp.own {a : Addr} {t : Str} (S : Spc X.K C "__repr__" f) (F : FnR X.prog X.w X.K X.mg X.base CX n f sp) (hx : Passes CX X E)
    (h : ∀ H, G H → (∃ dx fs, H a = some (.ins C dx fs)) ∧ ∀ Q : VK, (∀ H', Same H H' → Q (.str t) H') → sp [.ref a] H Q E) : Rp X n as G (.ref a) t := by
  intro pins σ H s u base A g Q I r hG hb _ _ fr hr hQ
  cases (show u = Value.ref a from r)
  obtain ⟨⟨dx, fs, ea⟩, hsp⟩ := h H hG
  obtain ⟨od, J⟩ := inst_of I ea
  refine reprUnder_own I.kIn J S.at_ S.fn hr.units0 (by omega) ?_
  refine wpAny_mono (run_sub (vs := [.ref a]) (Q := fun v H' => v = .str t ∧ Same H H') F hr fr hx I (.cons rfl .nil) (hsp _ fun H' e => ⟨rfl, e⟩)) (fun w s' y => ?_) fun _ _ y => y
  obtain ⟨v, H', I', rw', rfl, e⟩ := y
  obtain ⟨tk, rfl⟩ := rw'
  exact ⟨t, tk, rfl, hQ H' s' I' e⟩
/-- texts as values -/
theorem vals_strs : ∀ {ts : List Str} {its : List Value}, Vals (ts.map V.str) its → ∃ done : List (Str × Tok), its = strValues done ∧ done.map (·.1) = ts
  | [], _, .nil => ⟨[], rfl, rfl⟩
  | t :: ts, _, .cons r q => by
    obtain ⟨tk, rfl⟩ := r
    obtain ⟨done, rfl, e⟩ := vals_strs (ts := ts) q
    exact ⟨(t, tk) :: done, rfl, by rw [List.map_cons, e]⟩
end
section
variable {X : Cx} {n : Nat} {as : List Addr} {G : Hp → Prop} {A : Around} {R : Result → Shared → Prop} {pins : List (Addr × Obj)} {σ : L2.St}
theorem w_list (args : Args) : Code.weight (.builtin "list.__repr__.loop" args) = 1 := by first | kernel_rfl | rfl
theorem w_tupU (args : Args) : Code.weight (.builtin "tuple.__repr__.under" args) = 1 := by first | kernel_rfl | rfl
theorem under_room {A : Around} {id : String} {args : Args} (hr : Room (n + 1) A) (hu : (A.under (.builtin id args)).units = A.units + 1) (hw : Code.weight (.builtin id args) ≤ 1) (hh : (A.under (.builtin id args)).handled = A.handled := by rfl) : Room n (A.under (.builtin id args)) :=
  ⟨hh.trans hr.hd, by have := hr.dp; show A.depth + Code.weight (.builtin id args) + 3 * n + 5 < _; omega, by have := hr.un; rw [hu]; omega⟩
open Builtin Builtin.List in
theorem rp_loop {a P : Addr} {xs : List V} {ts : List Str} {base : Nat} {g : List Code} {H0 : Hp} (hg : A.guards = some g) (hcl : ∀ b ∈ as, Clear g b) (fr : A.frames = X.A.frames) (hr : Room (n + 1) A) (hna : a ∉ as) (hP0 : H0 P = none) (hlen : ts.length = xs.length)
    (hG : ∀ H, G H → H a = some (.lst xs)) (mono : ∀ H, Same H0 H → G H) (hT : ∀ (i : Nat) (x : V), xs[i]? = some x → ∃ t, ts[i]? = some t ∧ Rp X n as G x t) (hsz : base + (listText ts).length ≤ sizeLine)
    (hR : ∀ H' s' u, Inv X pins σ H' s' → Same H0 H' → R (.ok (.ret (.str (listText ts) u))) s') (hE : ∀ e s', X.xe e s' → R (.error e) s') :
    ∀ (k i : Nat) (s : Shared) (H : Hp), xs.length - i = k → i ≤ xs.length → Inv X pins σ H s → Same H0 H → H P = some (.lst ((ts.take i).map V.str)) →
    codeAny (model X.prog X.w) A (.builtin "list.__repr__.loop" ⟨[.ref a, rawInt i, .ref P, rawInt ((base + piled (ts.take i) : Nat) : Int)], []⟩) R s := by
  have hX : (listText ts).length = (textFrom 0 "[" ts).length + 1 := by
    show (textFrom 0 "[" ts ++ "]").length = _
    rw [strLen_append]; rfl
  have hL := textFrom_len ts 0 "["
  have hsz1 : xs.length ≤ sizeLine := by
    have h1 := hL.1
    rw [if_neg (Nat.lt_irrefl 0)] at h1
    omega
  have hsz2 : ∀ t ∈ ts, t.length ≤ sizeLine := fun t ht => by
    have h2 := hL.2.1 t ht
    omega
  have hsz3 : (listText ts).length ≤ sizeLine := by omega
  have hp3 := piled_le_listText ts
  intro k
  induction k with
  | zero =>
    intro i s H hk hi I e0 hP
    have hin : i = xs.length := by omega
    obtain ⟨_, its, na, rv, hl, ha⟩ := I.lstM (hG H (mono H e0))
    obtain ⟨_, acc, c, rvP, hlP, hP'⟩ := I.lstM hP
    obtain ⟨done, rfl, hdone⟩ := vals_strs rvP
    refine codeAny_builtin F.entry_list_repr_loop ?_
    show wpAny _ _ («list.__repr__.loop» ⟨[.ref a, .int i 0, .ref P, .int ((base + piled (ts.take i) : Nat) : Int) 0], []⟩) _ _ s
    rw [repr_loop_tree]
    refine wpAny_bind (wpAny_listItems ha rfl ?_)
    have hnone : its.toArray[(i : Int).toNat]? = none := by simp; omega
    simp only [hnone]
    unfold reprEnd
    refine wpAny_bind (wpAny_listItems hP' rfl ?_)
    rw [List.toList_toArray, repr_fold]
    refine wpAny_bind (wpAny_pure ?_)
    have hall : done.map (·.1) = ts := by rw [hdone, hin, ← hlen, List.take_length]
    rw [hall]
    refine wpAny_bind (wpAny_mkStr (wpAny_pure ?_) hsz3)
    exact hR H _ _ (I.tok _) e0
  | succ k ih =>
    intro i s H hk hi I e0 hP
    have hlt : i < xs.length := by omega
    obtain ⟨t, ht, hrep⟩ := hT i xs[i] (List.getElem?_eq_getElem hlt)
    have hp1 := piled_take_succ ht
    have hp2 := piled_take_le ts (i + 1)
    obtain ⟨_, its, na, rv, hl, ha⟩ := I.lstM (hG H (mono H e0))
    refine codeAny_builtin F.entry_list_repr_loop ?_
    show wpAny _ _ («list.__repr__.loop» ⟨[.ref a, .int i 0, .ref P, .int ((base + piled (ts.take i) : Nat) : Int) 0], []⟩) _ _ s
    rw [repr_loop_tree]
    refine wpAny_bind (wpAny_listItems ha rfl ?_)
    obtain ⟨u, hu, ru⟩ := rv.get (i := i) (x := xs[i]) (List.getElem?_eq_getElem hlt)
    have hsome : its.toArray[(i : Int).toNat]? = some u := by simpa using hu
    simp only [hsome]
    rw [Int.toNat_natCast]
    refine wpAny_bind (wpAny_holding (wpAny_mono (hrep pins σ H s u (base + piled (ts.take i) + 1) _ _ (fun t' s' => t' = t ∧ ∃ H', Inv X pins σ H' s' ∧ Same H H') I ru (mono H e0) (by omega) (guards_under_guard (isGuard_list_loop _) hg)
      (fun b hb => (hcl b hb).cons (a := a) fun e => hna (e ▸ hb)) fr (under_room hr (units_under_list_loop _ _) (Nat.le_of_eq (w_list _))) fun H' s' I' e' => ⟨rfl, H', I', e'⟩) (fun t' s2 h2 => ?_) fun e s2 h2 => hE e s2 h2))
    obtain ⟨rfl, H', I', e'⟩ := h2
    have hP2 := e' _ _ hP
    obtain ⟨zP, acc, c, rvP, hlP, hP'⟩ := I'.lstM hP2
    refine wpAny_bind (wpAny_mkStr ?_ (hsz2 t' (List.mem_of_getElem? ht)))
    refine wpAny_bind ?_
    show wpAny _ _ (updateSeq P _) _ _ _
    have hasz : acc.toArray.size ≤ sizeLine := by rw [List.size_toArray, ← hlP]; exact zP
    refine wpAny_updateSeq hP' rfl (wpAny_pure ⟨F.quiet_list_repr_loop _, ?_⟩) hasz
    have e1 : ((i : Int) + 1) = ((i + 1 : Nat) : Int) := by omega
    have e2 : base + piled (ts.take i) + (t'.length + 2) = base + piled (ts.take (i + 1)) := by omega
    rw [e1, e2]
    have eT : (ts.take (i + 1)).map V.str = (ts.take i).map V.str ++ [V.str t'] := by rw [List.take_add_one, ht]; simp
    have hlen2 : ((ts.take i).map V.str ++ [V.str t']).length ≤ sizeLine := by
      rw [List.length_append, List.length_map, List.length_take, List.length_singleton]; omega
    refine ih (i + 1) _ (upd H' P (.lst ((ts.take i).map V.str ++ [V.str t']))) (by omega) hlt ?_ (Same.mut (e0.trans e') hP0) (by rw [upd_same, eT])
    exact I'.lset (its' := acc ++ [.str t' s2.toks]) hP2 hP' (by simp) (rvP.append (.cons (show L2.RelV (.str t') (.str t' s2.toks) from ⟨_, rfl⟩) .nil)) hlen2
open Builtin Builtin.List in
theorem rp_listAt {a : Addr} {xs : List V} {ts : List Str} {base : Nat} {g : List Code} {s : Shared} {H : Hp} (I : Inv X pins σ H s) (hg : A.guards = some g) (hcl : ∀ b ∈ a :: as, Clear g b) (fr : A.frames = X.A.frames) (hr : Room (n + 1) A) (hna : a ∉ as) (hlen : ts.length = xs.length) (h0 : xs ≠ [])
    (hG : ∀ H, G H → H a = some (.lst xs)) (mono : ∀ H', Same H H' → G H') (hT : ∀ (i : Nat) (x : V), xs[i]? = some x → ∃ t, ts[i]? = some t ∧ Rp X n as G x t) (hsz : base + (listText ts).length ≤ sizeLine)
    (hR : ∀ H' s' u, Inv X pins σ H' s' → Same H H' → R (.ok (.ret (.str (listText ts) u))) s') (hE : ∀ e s', X.xe e s' → R (.error e) s') :
    wpAny (model X.prog X.w) A.in1 (Builtin.listReprAt base ⟨[.ref a], []⟩) (fun fin s' => match fin with | .done f => R (.ok f) s' | .again c' => c'.quiet = true ∧ codeAny (model X.prog X.w) A c' R s') (fun e s' => R (.error e) s') s := by
  have hca : Clear g a := hcl a (.head _)
  obtain ⟨_, its, na, rv, hl, ha⟩ := I.lstM (hG H (mono H (Same.refl H)))
  obtain ⟨y, l, rfl⟩ : ∃ y l, its = y :: l := by
    cases its with
    | nil => exact (h0 (List.length_eq_zero_iff.mp (by simpa using hl))).elim
    | cons y l => exact ⟨y, l, rfl⟩
  refine wpAny_list_repr_head (A := A.in1) hg (fun v rest kw hm => listSameRef_of_ne (hca _ _ _ _ hm)) ha rfl ?_
  refine wpAny_bind (m := newList []) (wpAny_newObj_type ?_)
  refine wpAny_pure ⟨F.quiet_list_repr_loop _, ?_⟩
  have I1 := I.lnew (ys := []) (its := []) (t' := s.toks) .nil (Nat.zero_le _)
  have hf := I.fresh
  have := rp_loop (X := X) (R := R) (H0 := H) (P := s.heap.objs.size) (pins := pins) (σ := σ) hg (fun b hb => hcl b (.tail _ hb)) fr hr hna hf hlen hG mono hT hsz hR hE _ 0 _ _ rfl (Nat.zero_le _) I1 (Same.new hf) upd_same
  simpa [piled] using this
open Builtin Builtin.List in
theorem Rp.lst {a : Addr} {xs : List V} {ts : List Str} (hna : a ∉ as) (hlen : ts.length = xs.length)
    (hG : ∀ H, G H → H a = some (.lst xs)) (mono : ∀ H H', Same H H' → G H → G H') (hT : ∀ (i : Nat) (x : V), xs[i]? = some x → ∃ t, ts[i]? = some t ∧ Rp X n as G x t) : Rp X (n + 1) (a :: as) G (.ref a) (listText ts) := by
  intro pins σ H s u base A g Q I r g0 hb hg hcl fr hr hQ
  cases (show u = Value.ref a from r)
  obtain ⟨_, its, na, rv, hl, ha⟩ := I.lstM (hG H g0)
  by_cases h0 : xs = []
  · subst h0
    have et : ts = [] := List.length_eq_zero_iff.mp (by simpa using hlen)
    subst et
    have ei : its = [] := List.length_eq_zero_iff.mp (by simpa using hl.symm)
    subst ei
    exact wpAny_pyReprUnder_ref (by omega) (wpAny_pyReprObjUnder_list_empty ⟨_, ha, rfl⟩ hr.units0 ha rfl ⟨_, _, rfl, hQ H _ (I.tok _) (Same.refl H)⟩)
  · refine wpAny_pyReprUnder_ref (by omega) (wpAny_pyReprObjUnder_twin (twin := "list.__repr__.under") ⟨_, ha, rfl⟩ F.slot_list_repr.toG rfl hr.units0 ?_)
    refine call_twin_plain F.plain_list_repr_under F.entry_list_repr_under F.check_list_repr_under ⟨_, ha, rfl⟩ F.slot_list_repr.toG (F.args_list_repr_1 _) ?_
    exact rp_listAt (R := callEnd _ _) I hg hcl fr hr hna hlen h0 hG (fun H' e => mono H H' e g0) hT hb (fun H' s' u I' e' => ⟨⟨_, _, rfl⟩, _, _, rfl, hQ H' s' I' e'⟩) fun e s' h => h
open Builtin Builtin.List in
theorem rp_tupFold {g : List Code} {H0 : Hp} {s0 : Shared} (hg : A.guards = some g) (hcl : ∀ b ∈ as, Clear g b) (fr : A.frames = X.A.frames) (hr : Room n A) (mono : ∀ H, Same H0 H → G H) :
    ∀ (l : List Value) (xs : List V) (ts : List Str) (acc : Array Str) (m : Nat) (s : Shared) (H : Hp) (Q : (Array Str × Nat) → Shared → Prop), Vals xs l → ts.length = xs.length → (∀ (i : Nat) (x : V), xs[i]? = some x → ∃ t, ts[i]? = some t ∧ Rp X n as G x t) → m + piled ts ≤ sizeLine →
    Inv X pins σ H s → Same H0 H → (∀ H' s', Inv X pins σ H' s' → Same H0 H' → Q ⟨acc ++ ts.toArray, m + piled ts⟩ s') →
    wpAny (model X.prog X.w) A (forIn l (⟨acc, m⟩ : (Array Str × Nat)) tupBody) Q X.xe s := by
  intro l
  induction l with
  | nil =>
    intro xs ts acc m s H Q rv hl hT _ I e0 h
    cases rv
    have et : ts = [] := List.length_eq_zero_iff.mp (by simpa using hl)
    subst et
    have h0 := h H s I e0
    simp only [List.forIn_nil]
    exact wpAny_pure (by simpa [piled] using h0)
  | cons u l ih =>
    intro xs ts acc m s H Q rv hl hT hn I e0 h
    cases rv with
    | cons r rv =>
      rename_i x xs'
      cases ts with
      | nil => simp at hl
      | cons t ts' =>
        obtain ⟨t', ht', hx⟩ := hT 0 x rfl
        have et : t = t' := by simpa using ht'
        subst et
        rw [piled_cons] at hn
        rw [List.forIn_cons]
        refine wpAny_bind (wpAny_bind (hx pins σ H s u (m + 1) A g _ I r (mono H e0) (by omega) hg hcl fr hr fun H' s' I' e' => wpAny_pure ?_))
        refine ih xs' ts' (acc.push t) (m + (t.length + 2)) s' H' Q rv (by simpa using hl) (fun i x hi => by
          obtain ⟨t2, q1, q2⟩ := hT (i + 1) x (by simpa using hi)
          exact ⟨t2, by simpa using q1, q2⟩) (by omega) I' (e0.trans e') fun H'' s'' I'' e'' => ?_
        have h1 := h H'' s'' I'' e''
        have e : m + piled (t :: ts') = m + (t.length + 2) + piled ts' := by rw [piled_cons]; omega
        rw [e] at h1
        simpa using h1
open Builtin Builtin.List in
theorem rp_tupAt {a : Addr} {xs : List V} {ts : List Str} {base : Nat} {g : List Code} {s : Shared} {H : Hp} {id : String} {rest : List Value} (I : Inv X pins σ H s) (hcg : (Code.builtin id ⟨.ref a :: rest, []⟩).isGuard = true) (hcu : (A.under (.builtin id ⟨.ref a :: rest, []⟩)).units = A.units + 1) (hcw : Code.weight (.builtin id ⟨.ref a :: rest, []⟩) ≤ 1)
    (hg : A.guards = some g) (hcl : ∀ b ∈ a :: as, Clear g b) (fr : A.frames = X.A.frames) (hr : Room (n + 1) A) (hna : a ∉ as) (hlen : ts.length = xs.length)
    (hG : ∀ H, G H → H a = some (.tup xs)) (mono : ∀ H', Same H H' → G H') (hT : ∀ (i : Nat) (x : V), xs[i]? = some x → ∃ t, ts[i]? = some t ∧ Rp X n as G x t) (hsz : base + (tupleText ts).length ≤ sizeLine)
    (hR : ∀ H' s' u, Inv X pins σ H' s' → Same H H' → R (.ok (.ret (.str (tupleText ts) u))) s') (hE : ∀ e s', X.xe e s' → R (.error e) s')
    (hfr : (A.under (.builtin id ⟨.ref a :: rest, []⟩)).frames = A.frames := by rfl) :
    wpOwn (model X.prog X.w) A (.builtin id ⟨.ref a :: rest, []⟩) (Builtin.tupleReprAt base ⟨[.ref a], []⟩) (fun fin s' => match fin with | .done f => R (.ok f) s' | .again c' => c'.quiet = true ∧ codeAny (model X.prog X.w) A c' R s') (fun e s' => R (.error e) s') s := by
  have hca : Clear g a := hcl a (.head _)
  have hp := piled_le_tupleText ts
  have hsz0 : (tupleText ts).length ≤ sizeLine := by omega
  obtain ⟨_, its, rv, o, ho, hc, k, hk⟩ := (show ObjOk X.prog X.w H s.heap a (.tup xs) from I.hok a _ (hG H (mono H (Same.refl H))))
  rw [tuple_repr_tree, tupleReprUnderWay_eq]
  refine wpOwn_bind (wpOwn_stackTailAny hg (tupGuardF_off _) (tupGuardF_pos _) ?_)
  have hn : (g.any fun c => tupGuardF (.ref a) (c, default)) = false := by
    rw [List.any_eq_false]
    intro c hcm
    rw [tupGuardF_of_clear hca c hcm]
    exact Bool.false_ne_true
  rw [hn]
  refine wpOwn_of_wpAny ?_
  show wpAny _ _ (tupleReprRest base (.ref a)) _ _ s
  unfold tupleReprRest Builtin.Tuple.tupleItemsOf
  refine wpAny_bind (wpAny_bind (wpAny_seqItems ho hk (wpAny_pure ?_)))
  rw [← Array.forIn_toList]
  have hlen2 : ts.length = its.length := by rw [hlen, rv.length]
  refine wpAny_bind (wpAny_mono (rp_tupFold (X := X) (G := G) (H0 := H) (pins := pins) (σ := σ) (s0 := s) (guards_under_guard hcg hg) (fun b hb => (hcl b (.tail _ hb)).cons (a := a) fun e => hna (e ▸ hb)) (hfr.trans fr) (under_room hr hcu hcw) mono its.toArray.toList xs ts #[] base s H
    (fun r s' => r = ⟨#[] ++ ts.toArray, base + piled ts⟩ ∧ ∃ H', Inv X pins σ H' s' ∧ Same H H') (by simpa using rv) hlen hT (by omega) I (Same.refl H) fun H' s' I' e' => ⟨rfl, H', I', e'⟩) (fun r s' h => ?_) fun e s' h => hE e s' h)
  obtain ⟨rfl, H', I', e'⟩ := h
  refine wpAny_bind (wpAny_mkStr (wpAny_pure ?_) (by simpa [tupleText, hlen2] using hsz0))
  have h1 := hR H' _ s'.toks (I'.tok (s'.toks + 1)) e'
  simpa [tupleText, hlen2] using h1
open Builtin Builtin.List in
theorem Rp.tup {a : Addr} {xs : List V} {ts : List Str} (hna : a ∉ as) (hlen : ts.length = xs.length)
    (hG : ∀ H, G H → H a = some (.tup xs)) (mono : ∀ H H', Same H H' → G H → G H') (hT : ∀ (i : Nat) (x : V), xs[i]? = some x → ∃ t, ts[i]? = some t ∧ Rp X n as G x t) : Rp X (n + 1) (a :: as) G (.ref a) (tupleText ts) := by
  intro pins σ H s u base A g Q I r g0 hb hg hcl fr hr hQ
  cases (show u = Value.ref a from r)
  obtain ⟨_, its, rv, o, ho, hc, k, hk⟩ := (show ObjOk X.prog X.w H s.heap a (.tup xs) from I.hok a _ (hG H g0))
  refine wpAny_pyReprUnder_ref (by omega) (wpAny_pyReprObjUnder_twin (twin := "tuple.__repr__.under") ⟨o, ho, hc⟩ F.slot_tuple_repr rfl hr.units0 ?_)
  refine call_twin_own (F.quiet_tuple_repr_under _) F.entry_tuple_repr_under F.check_tuple_repr_under ⟨o, ho, hc⟩ F.slot_tuple_repr (F.args_tuple_repr_1 _) ?_
  exact rp_tupAt (R := callEnd _ _) I (isGuard_tuple_repr_under _) (units_under_tuple_repr_under _ _) (Nat.le_of_eq (w_tupU _)) hg hcl fr hr hna hlen hG (fun H' e => mono H H' e g0) hT hb (fun H' s' u I' e' => ⟨⟨_, _, rfl⟩, _, _, rfl, hQ H' s' I' e'⟩) fun e s' h => h
end
/-! ### repr(x) -/
section
variable {X : Cx} {n : Nat}
end
end NA

/-! Part P: == between an own object and what is no such thing. -/
namespace NA
open PySem PySem.Spec PyProof.Rows L2
section
variable {prog : Program} {w : World} {A : Around} {E : Value → Shared → Prop} {s : Shared} {K : PySem.W.Frag} {x C f : Addr} {ox : Obj} {od : Option Obj}
end
section
open SeqAt
open AutoSeq1 (wpAny_loadPart')
end
/-! ### over the layer -/
/-- a value that is no own object, and its type -/
inductive Knd (H : Hp) : V → String → Prop
  | non : Knd H .non "NoneType"
  | bl (b : Bool) : Knd H (.bl b) "bool"
  | int (i : Int) : Knd H (.int i) "int"
  | str (z : Str) : Knd H (.str z) "str"
  | lst {a : Addr} {xs : List V} : H a = some (.lst xs) → Knd H (.ref a) "list"
  | tup {a : Addr} {xs : List V} : H a = some (.tup xs) → Knd H (.ref a) "tuple"
  | dic {a : Addr} {kvs : List (Key × V)} : H a = some (.dK kvs) → Knd H (.ref a) "dict"
theorem Knd.ty {K : PySem.W.Frag} {H : Hp} {x : V} {T : String} (h : Knd H x T) : TyX K H x (.type T) := by
  cases h with
  | non => exact .base .non
  | bl b => exact .base (.bl b)
  | int i => exact .base (.int i)
  | str z => exact .base (.str z)
  | lst e => exact .base (.lst e)
  | tup e => exact .base (.tup e)
  | dic e => exact .base (.dK e)
def kinds : List String := ["NoneType", "bool", "int", "str", "list", "tuple", "dict"]
theorem Knd.mem {H : Hp} {x : V} {T : String} (h : Knd H x T) : T ∈ kinds := by cases h <;> simp [kinds]
/-- the class at C is apart from these types -/
structure Apart (K : PySem.W.Frag) (C : Addr) : Prop where
  dn : ∀ T ∈ kinds, PySem.W.subIn K (.ref C) (.type T) = some false
  up : ∀ T ∈ kinds, PySem.W.subIn K (.type T) (.ref C) = some false
section
variable {X : Cx} {CX : CXT} {C f : Addr} {n : Nat} {sp : Sp} {E : XK} {pins : List (Addr × Obj)} {σ : L2.St} {H : Hp} {s : Shared}
theorem Knd.typeIs {x : V} {T : String} {u : Value} (I : Inv X pins σ H s) (r : L2.RelV x u) (h : Knd H x T) : s.TypeIs u T := by
  cases h with
  | non => cases r; rfl
  | bl b => cases r; rfl
  | int i => obtain ⟨t, rfl⟩ := r; rfl
  | str z => obtain ⟨t, rfl⟩ := r; rfl
  | lst e =>
    rename_i a xs
    cases (show u = Value.ref a from r)
    obtain ⟨_, its, k, rv, ho⟩ := (show ObjOk X.prog X.w H s.heap a (.lst xs) from I.hok a _ e)
    exact ⟨_, ho, rfl⟩
  | tup e =>
    rename_i a xs
    cases (show u = Value.ref a from r)
    obtain ⟨_, its, rv, o, ho, hc, k, hk⟩ := (show ObjOk X.prog X.w H s.heap a (.tup xs) from I.hok a _ e)
    exact ⟨o, ho, hc⟩
  | dic e =>
    rename_i a kvs
    cases (show u = Value.ref a from r)
    obtain ⟨_, ns, vs, rv, o, es, ep, ho, hx, hd, hko, hp, hnd⟩ := (show ObjOk X.prog X.w H s.heap a (.dK kvs) from I.hok a _ e)
    exact ⟨o, ho, hx.1⟩
end
/-! ### dicts told -/
section
variable {X : Cx} {n : Nat} {as : List Addr} {G : Hp → Prop}
theorem Rp.ofK {v : V} {t : Str} {d : Nat} (hd : d ≤ 100) (h : ∀ (pins : List (Addr × Obj)) (σ : L2.St) (H : Hp) (s : Shared) (u : Value), Inv X pins σ H s → L2.RelV v u → G H → ReprK X.prog X.w as s.heap d u t) : Rp X n as G v t := fun pins σ H s u base A g Q I r hG hb hg hc fr hr hQ =>
  h pins σ H s u I r hG base hb A g X.xe s Q hg hc (by have := hr.un; omega) (fun _ _ e => e) fun h' tk k => hQ H _ (I.kept k) (Same.refl H)
theorem Rp.dic0 {a : Addr} (hG : ∀ H, G H → H a = some (.dK [])) : Rp X n [a] G (.ref a) (dictText []) := .ofK (d := 1) (by omega) fun pins σ H s u I r g => by
  cases (show u = Value.ref a from r)
  obtain ⟨_, ns, vs, rv, o, es, ep, ho, hx, hd, hko, hp, hnd⟩ := (show ObjOk X.prog X.w H s.heap a (.dK []) from I.hok a _ (hG H g))
  cases rv
  have he : es.toList = [] := by generalize es.toList = l at hp; cases hp; rfl
  exact ReprK.dict ho hx.1 hd ns List.not_mem_nil (by rw [he]; exact .nil)
theorem Rp.dic1 {a : Addr} {z y : Str} (hG : ∀ H, G H → H a = some (.dK [(.inr z, .str y)])) (h1 : (reprText z).length ≤ sizeLine) (h2 : (reprText y).length ≤ sizeLine) : Rp X n [a] G (.ref a) (dictText [reprText z ++ ": " ++ reprText y]) := .ofK (d := 1) (by omega) fun pins σ H s u I r g => by
  cases (show u = Value.ref a from r)
  obtain ⟨_, ns, vs, rv, o, es, ep, ho, hx, hd, hko, hp, hnd⟩ := (show ObjOk X.prog X.w H s.heap a (.dK [(.inr z, .str y)]) from I.hok a _ (hG H g))
  cases rv with
  | cons r1 r2 =>
    cases r2
    rename_i q
    obtain ⟨e1, t2, e2⟩ := r1
    obtain ⟨en, he, hk, hv⟩ : ∃ en, es.toList = [en] ∧ keyIs q.1 en.key = true ∧ en.val = q.2 := by
      generalize es.toList = l at hp
      cases hp with
      | cons h1 h2 h3 => cases h3; exact ⟨_, rfl, h1, h2⟩
    rw [← e1] at hk
    obtain ⟨t1, ek⟩ : ∃ t, en.key = .str z t := by
      rcases keyIs_shape hk with ⟨i, t, z1, _⟩ | ⟨x, t, z1, z2⟩
      · cases z1
      · cases z1; exact ⟨t, z2⟩
    refine ReprK.dict ho hx.1 hd ns List.not_mem_nil (by rw [he]; exact .cons (.of_is (by rw [ek]; exact ReprIs.str z t1 h1) _ _ _) (.of_is (by rw [hv, e2]; exact ReprIs.str y t2 h2) _ _ _) .nil)
end
/-! ### a def where no repr is under way, its code object unknown -/
section
variable {P : Program} {w : World} {K : PySem.W.Frag} {mg : Str → Option Value} {base : Heap} {k : Nat} {f : Addr} {sp : Sp}
theorem fnge {x qual : Str} {st : Stmt} {N ps : List Str} (F : FunE K x qual st f) (S : FnScope N ps (defScope st))
    (hb : ∀ (kV doc pm : Value) (an : Option Addr) (cdv ct : Value) (us : List Value), us.length = ps.length → bindArgs (PySem.W.fnOf x qual (defArgs st) (defBody st) (defScope st) .none kV doc pm an cdv ct) ⟨us, []⟩ = pure (ps.zip us))
    (len : ∀ vs H Q E, sp vs H Q E → vs.length = ps.length)
    (hbody : ∀ (cdv : Value) (A : Around) (outer : List Env) (s : Shared) (H : Hp) (vs : List V) (Q : VK) (E : XK), Room k (A.deeper (envOfC qual (defScope st) s.heap.objs.size f cdv)) → A.guards = some [] → sp vs H Q E →
      ∃ t, PSs (cxOf CX0 P w K mg base N qual (defScope st) f cdv A outer s H E).nox (defBody st) t ∧ t { nx := fun _ H' => Q .non H', rt := Q } (start N vs) H) :
    FnG P w K mg base CX0 (k + 1) f sp := by
  obtain ⟨fd, F⟩ := F
  obtain ⟨oc, od, kV, doc, pm, an, cdv, ct, osl, e, lk, hcd⟩ := id F.ex
  subst e
  intro A outer s H us vs Q E hr hg e0 r hs
  have hl := len vs H Q E hs
  refine LamX.run_ofS lk hcd S hr e0 (.of_eq (hb kV doc pm an cdv ct us (by rw [← r.length]; exact hl))) r hl fun hr' => ?_
  obtain ⟨t, h, q⟩ := hbody cdv A outer s H vs Q E hr' hg hs
  exact ⟨t, h.nox, q⟩
end
end NA

/-! Part Q: own op x, where x is no own object. -/
namespace PySem.W
open PySem PySem.Spec PyProof.Rows
section
variable {prog : Program} {w : World} {A : Around} {E : Value → Shared → Prop} {s : Shared} {K : Frag} {x C L f : Addr} {h₀ : Heap} {m : Str → Option Value} {ox : Obj} {od : Option Obj} {T : String}
end
end PySem.W
namespace NA
open PySem PySem.Spec PyProof.Rows L2
/-- what the text says of the operator nm between the class at C and the built-in kinds -/
structure BinF (K : PySem.W.Frag) (C : Addr) (nm : String) : Prop where
  r : ∃ rc, PySem.W.findIn K (.ref C) (dunderR nm) = some rc ∧ (rc = none ∨ ∃ g : Addr, rc = some (.ref g))
  t : ∀ T ∈ kinds, ∃ fo, PySem.W.findIn K (.type T) (PySem.dunder nm) = some fo
  tr : ∀ T ∈ kinds, ∃ ro, PySem.W.findIn K (.type T) (dunderR nm) = some ro
section
variable {X : Cx} {CX : CXT} {C f : Addr} {n : Nat} {sp : Sp} {E : XK}
end
end NA

/-! Part R: dicts merged in a display, own subscripts. -/
namespace NA
open PySem PySem.Spec PyProof.Rows L2
section
variable {prog : Program} {w : World} {K : Type} [DecidableEq K] {knd : PySem.KeyKind prog w K} {A : Around} {E : Value → Shared → Prop} {s : Shared}
theorem wp_dictPut {d : Addr} {kvs : List (K × Value)} {k : K} {key v : Value} {Q : Unit → Shared → Prop} (hkey : knd.is k key = true) (hm : s.heap.DictOf knd d kvs)
    (hQ : ∀ h', h'.DictOf knd d (stored kvs k v) → Heap.SameBut d s.heap h' → Q () { s with heap := h' })
    (hsz : kvs.length ≤ sizeLine) :
    wpAny (model prog w) A (dictPut d (knd.hash k) key v) Q E s := by
  obtain ⟨o, es, ep, ho, hc, hd, hk, hp, hn⟩ := hm
  have hes : es.size ≤ sizeLine := by have e1 := hp.length; have e2 : es.toList.length = es.size := by simp
                                      omega
  unfold dictPut
  refine wpAny_bind (wpAny_dictFind_of hkey ho hd hk ?_)
  have hidx : (es.findIdx? fun e => knd.is k e.key) = kvs.findIdx? fun kv => decide (kv.1 = k) := by
    rw [← hp.findIdx k]; obtain ⟨l⟩ := es; simp
  cases hi : es.findIdx? fun e => knd.is k e.key with
  | some i =>
    refine wpAny_updateDict ho hd (hQ _ ⟨_, _, ep, Heap.get?_update_self _ ho (Obj.isFreed_of_dict (Obj.data_mapDict hd _)),
      hc.mapDict _, Obj.data_mapDict hd _, hk.modify _ _, ?_, ?_⟩ (Heap.SameBut.update ..))
    · rw [stored, if_pos (any_of_findIdx_some (hidx ▸ hi))]
      have hl : (es.toList.findIdx? fun e => knd.is k e.key) = some i := by rw [← hi]; obtain ⟨l⟩ := es; simp
      have := hp.modify hn hl v
      obtain ⟨l⟩ := es
      simpa using this
    · rw [stored, if_pos (any_of_findIdx_some (hidx ▸ hi)), keys_map_store]; exact hn
  | none =>
    have hnot : k ∉ kvs.map (·.1) := not_mem_of_findIdx_none (hidx ▸ hi)
    have hany : ¬ (kvs.any fun kv => decide (kv.1 = k)) = true := by
      rw [List.any_eq_true]; rintro ⟨kv, hkv, he⟩
      exact hnot (List.mem_map.mpr ⟨kv, hkv, of_decide_eq_true he⟩)
    refine wpAny_updateDictKeys (hz := hes) ho hd (hQ _ ⟨_, _, ep + 1, Heap.get?_update_self _ ho (Obj.isFreed_of_dict (Obj.data_mapDictKeys hd _)),
      hc.mapDictKeys _, Obj.data_mapDictKeys hd _, hk.push hkey _, ?_, ?_⟩ (Heap.SameBut.update ..))
    · rw [stored, if_neg hany]
      have := hp.append hkey (knd.hash k) v
      obtain ⟨l⟩ := es
      simpa using this
    · rw [stored, if_neg hany, List.map_append, List.nodup_append]
      refine ⟨hn, by simp, ?_⟩
      intro a ha b hb
      simp only [List.map_cons, List.map_nil, List.mem_singleton] at hb
      subst hb
      exact fun e => hnot (e ▸ ha)
theorem wp_merge {d o : Addr} {kvs more : List (K × Value)} {Q : Unit → Shared → Prop} (hdo : d ≠ o) (hoS : (o == sysModules) = false)
    (hd : s.heap.DictOf knd d kvs) (ho : s.heap.DictOf knd o more)
    (hQ : ∀ h', h'.DictOf knd d (merged kvs more) → h'.DictOf knd o more → Heap.SameBut d s.heap h' → Q () { s with heap := h' })
    (hsz : kvs.length + more.length ≤ sizeLine) :
    wpAny (model prog w) A (mergeMapping d (.ref o) false) Q E s := by
  obtain ⟨od, esd, epd, hod, hcd, hdd, hkd, hpd, hnd⟩ := id hd
  obtain ⟨oo, eso, epo, hoo, hco, hdo', hko, hpo, hno⟩ := id ho
  have hlen : more.length = eso.size := by rw [← hpo.length]; simp
  unfold mergeMapping
  refine wpAny_bind (wpAny_isInstance (b := true) ho.typeIs isSubtype_dict_dict ?_)
  rw [if_pos rfl]
  refine wpAny_bind (wpAny_specialOf ho.typeIs PySem.F.slot_dict_iter.lookup ?_)
  refine wpAny_bind (wpAny_pure ?_)
  rw [beq_self_eq_true]
  dsimp only
  rw [if_neg (by rw [hoS]; exact Bool.false_ne_true)]
  refine wpAny_bind (wpAny_dictEntries hod hdd ?_)
  have body : wpAny (model prog w) A (do
      let l ← dictEntries o
      let epoch ← dictEpoch o
      forIn (List.range l.size) PUnit.unit fun i (_ : PUnit) => (do
        let l' ← dictEntries o
        match l'[i]? with
          | some e => do
            holding [e.key, e.val] (if false = true then do
                let y ← dictFind d e.key e.hash
                if y.isSome = true then do
                    rule "dict.merge.duplicate-key"
                    let z ← newExc (Value.type "KeyError") [e.key]
                    let _ ← (raiseNew z : Sem Unit)
                    dictPut d e.hash e.key e.val
                  else dictPut d e.hash e.key e.val
              else dictPut d e.hash e.key e.val)
            let ep' ← dictEpoch o
            if (ep' != epoch) = true then do
                (unsupported "dict.changed-during-merge" : Sem PUnit)
                pure (ForInStep.yield PUnit.unit)
              else pure (ForInStep.yield PUnit.unit)
          | _ => do
            (unsupported "dict.changed-during-merge" : Sem PUnit)
            pure (ForInStep.yield PUnit.unit) : Sem (ForInStep PUnit))
      pure ()) Q E s := by
    refine wpAny_bind (wpAny_dictEntries hoo hdo' ?_)
    refine wpAny_bind (wpAny_dictEpoch hoo hdo' ?_)
    refine wpAny_bind ?_
    rw [List.range_eq_range']
    refine wpAny_forIn_list _
      (fun rest _ s' => ∃ h' i, s' = { s with heap := h' } ∧ rest = List.range' i (eso.size - i) ∧ i ≤ eso.size ∧ h'.DictOf knd d (merged kvs (more.take i)) ∧ h'.get? o = some oo ∧ Heap.SameBut d s.heap h')
      _ ?_ ?_ _ _ ⟨s.heap, 0, rfl, by simp, Nat.zero_le _, by simpa [merged] using hd, hoo, Heap.SameBut.refl _ _⟩
    · rintro x rest b s' ⟨h', i, rfl, hr, hi, hd', hoo', hs'⟩
      have hlt : i < eso.size := by
        rcases Nat.lt_or_ge i eso.size with h | h
        · exact h
        · rw [Nat.sub_eq_zero_of_le h] at hr; simp at hr
      obtain ⟨rfl, hrest⟩ : x = i ∧ rest = List.range' (i + 1) (eso.size - (i + 1)) := by
        have e : eso.size - i = (eso.size - (i + 1)) + 1 := by omega
        rw [e, List.range'_succ] at hr
        injection hr with h1 h2
        exact ⟨h1, h2⟩
      refine wpAny_bind (wpAny_dictEntries hoo' hdo' ?_)
      rw [Array.getElem?_eq_getElem hlt]
      obtain ⟨kv, hkv⟩ : ∃ kv, more[x]? = some kv := ⟨more[x]'(by rw [hlen]; exact hlt), List.getElem?_eq_getElem _⟩
      obtain ⟨k, v⟩ := kv
      obtain ⟨hkey, hval⟩ := hpo.get? (e := eso[x]) (by simp [hlt]) hkv
      obtain ⟨k', hkey', hhash⟩ := hko eso[x] (Array.getElem_mem hlt)
      obtain rfl : k' = k := knd.inj _ _ _ hkey' hkey
      dsimp only
      rw [if_neg Bool.false_ne_true, hhash, hval]
      have hmx : (merged kvs (more.take x)).length ≤ sizeLine := by
        have e1 := merged_length_le kvs (more.take x)
        have e2 : (more.take x).length ≤ more.length := by rw [List.length_take]; omega
        omega
      refine wpAny_bind (wpAny_holding (wp_dictPut (hsz := hmx) hkey hd' fun h'' hd'' hs'' => ?_))
      have hoo'' : h''.get? o = some oo := (hs''.2 o (Ne.symm hdo)).trans hoo'
      refine wpAny_bind (wpAny_dictEpoch hoo'' hdo' ?_)
      rw [if_neg (by simp)]
      exact wpAny_pure ⟨h'', x + 1, rfl, hrest, hlt, by rw [merged_take_succ kvs more x (k', v) hkv]; exact hd'', hoo'', hs'.trans hs''⟩
    · rintro b s' ⟨h', i, rfl, hr, hi, hd', hoo', hs'⟩
      have hin : i = eso.size := by
        rcases Nat.lt_or_ge i eso.size with h | h
        · have e : eso.size - i = (eso.size - (i + 1)) + 1 := by omega
          rw [e, List.range'_succ] at hr; exact nomatch hr
        · exact Nat.le_antisymm hi h
      refine wpAny_pure (hQ h' ?_ ⟨oo, eso, epo, hoo', hco, hdo', hko, hpo, hno⟩ hs')
      rw [hin, ← hlen, List.take_length] at hd'; exact hd'
  split
  · refine wpAny_bind (wpAny_dictEntries hoo hdo' ?_)
    refine wpAny_bind ?_
    rw [← Array.forIn_toList]
    refine wpAny_of_eq (forIn_yield_id _ fun e he c => ?_) body
    obtain ⟨k, hkey, _⟩ := hko e (Array.mem_toList_iff.mp he)
    have hb := knd.byValue k _ hkey
    cases hv : e.key with
    | ref a => rw [hv] at hb; exact absurd hb Bool.false_ne_true
    | _ => rfl
  · exact body
end
end NA

namespace NA
open PySem PySem.Spec PyProof.Rows L2
section
variable {X : Cx} {pos : Pos} {a b : Expr} {ta tb : TE}
/-- d |= o within the layer -/
theorem mrg_ok {pins : List (Addr × Obj)} {σ : L2.St} {H : Hp} {s : Shared} {A : Around} {E : Value → Shared → Prop} {Q : Unit → Shared → Prop} {p o : Addr} {ka kb : List (Key × V)} (I : Inv X pins σ H s) (hp : H p = some (.dK ka)) (ho : Rd H o (.dK kb)) (hne : p ≠ o) (hl : ka.length + kb.length ≤ sizeLine)
    (h : ∀ s', Inv X pins σ (upd H p (.dK (mergeK ka kb))) s' → Q () s') : wpAny (model X.prog X.w) A (mergeMapping p (.ref o) false) Q E s := by
  obtain ⟨_, hd, vs, r0, dd⟩ := dk_of I.hok hp
  obtain ⟨_, hdo, us, r1, do'⟩ := dk_rd I.hok ho
  refine wp_merge (knd := mixKind X.prog X.w) hne hdo dd do' (fun h' dd' _ hs => h _ ?_) (by rw [← r0.length, ← r1.length]; exact hl)
  have he : ∃ q, h'.get? p = some q := let ⟨q, _, _, hq, _⟩ := dd'; ⟨q, hq⟩
  have hz : (mergeK ka kb).length ≤ sizeLine := Nat.le_trans (length_mergeK kb ka) hl
  exact d_write (t' := s.toks) I (by rw [hp]; exact True.intro) hs he (dk_new hz hd (r1.merge r0) dd')
def tMrg (ta tb : TE) : TE := fun σ H Q => ∀ p, H p = none → ta σ (upd H p (.dK [])) fun x H1 => ∃ o ka, x = .ref o ∧ Rd H1 o (.dK ka) ∧ p ≠ o ∧ H1 p = some (.dK []) ∧ ka.length ≤ sizeLine ∧
  tb σ (upd H1 p (.dK (mergeK [] ka))) fun y H2 => ∃ o2 kb, y = .ref o2 ∧ Rd H2 o2 (.dK kb) ∧ p ≠ o2 ∧ H2 p = some (.dK (mergeK [] ka)) ∧ ka.length + kb.length ≤ sizeLine ∧ Q (.ref p) (upd H2 p (.dK (mergeK (mergeK [] ka) kb)))
/-- {**a, **b} -/
theorem pe_mrg (ha : PE X a ta) (hb : PE X b tb) : PE X (.Dict [none, none] [a, b] pos) (tMrg ta tb) := by
  refine ⟨fun pins s σ H Q I q => ?_⟩
  have hn := I.hok.fresh (Nat.le_refl s.heap.objs.size)
  have I1 := I.laid (a := s.heap.objs.size) (o := .dK []) (h' := s.heap.push { cls := .type "dict", data := .dict #[] }) (t' := s.toks) (fun _ _ q => Heap.get?_push_of_some _ q) (Nat.le_refl _) (dk_empty s.heap I.big)
  rw [arm_eval_Dict]
  refine wpAny_bind (wpAny_standAt ?_)
  unfold dictDisplay
  simp only [evalEachOpt, evalEach, List.map, List.zip_cons_cons, List.zip_nil_left, List.zip_nil_right, List.forIn_cons, List.forIn_nil, List.isEmpty_nil, if_pos]
  simp only [show evalOpt none X.env = none from rfl]
  have stp : ∀ (s1 : Shared) (e : Expr) (p : Addr) (z : ForInStep (Option Addr × List (Sem Value × Sem Value))) (P : ForInStep (Option Addr × List (Sem Value × Sem Value)) → Shared → Prop),
      wpAny (model X.prog X.w) X.A (eval e X.env) (fun v s2 => ∃ o k0 ka H1, v = .ref o ∧ Inv X pins σ H1 s2 ∧ Rd H1 o (.dK ka) ∧ p ≠ o ∧ H1 p = some (.dK k0) ∧ k0.length + ka.length ≤ sizeLine ∧ ∀ s2, Inv X pins σ (upd H1 p (.dK (mergeK k0 ka))) s2 → P z s2) X.xe s1 →
      wpAny (model X.prog X.w) X.A (do
        let m ← holding [Value.ref p] do
            let x ← eval e X.env
            standAt pos
            pure x
        (((holding [Value.ref p, m] (mergeMapping p m false)).onRaise fun x => do
                    let _ ← holding [Value.ref p, m, x] (runValue (Code.builtin "proto.let_go" { }))
                    pure ()).tryCatch
                fun e => do
                let y ← isInstance e (Value.type "AttributeError")
                if y = true then do
                    rule "dict.display.not-a-mapping"
                    let y ← typeNameOf m
                    raiseErrorMade "TypeError" (toString "'" ++ toString y ++ toString "' object is not a mapping")
                    throw e
                  else throw e).onRaise
            fun x => do
            let _ ← holding [Value.ref p, x] (runValue (Code.builtin "proto.let_go" { }))
            pure ()
        pure z) P X.xe s1 := by
    intro s1 e p z P h
    refine wpAny_bind (wpAny_holding (wpAny_bind (thn h fun v s2 ⟨o, k0, ka, H1, ex, I1, hr, hne, hp1, hl, k⟩ => ?_)))
    subst ex
    refine wpAny_bind (wpAny_standAt (wpAny_pure ?_))
    exact wpAny_bind (wpAny_onRaise (wpAny_tryCatch (wpAny_onRaise (wpAny_holding (mrg_ok I1 hp1 hr hne hl fun s3 I3 => wpAny_pure (k s3 I3))))))
  refine wpAny_bind (wpAny_bind (wpAny_bind (wpAny_pure ?_)))
  dsimp only
  refine wpAny_bind (wpAny_alloc ?_)
  refine stp _ a _ _ _ (thn (ha.run pins _ σ _ _ I1 (q _ hn)) fun v s2 ⟨x, H1, I2, rx, o, ka, ex, hr, hne, hp1, hl, q2⟩ => ?_)
  subst ex
  obtain rfl : v = Value.ref o := rx
  refine ⟨o, [], ka, H1, rfl, I2, hr, hne, hp1, by simpa using hl, fun s3 I3 => ?_⟩
  dsimp only
  rw [if_pos (show ([] : List (Sem Value × Sem Value)).isEmpty = true from rfl)]
  refine wpAny_bind (wpAny_bind (wpAny_pure ?_))
  dsimp only
  refine wpAny_bind (wpAny_pure ?_)
  refine stp _ b _ _ _ (thn (hb.run pins _ σ _ _ I3 q2) fun v s4 ⟨y, H2, I4, ry, o2, kb, ey, hr2, hne2, hp2, hl2, q3⟩ => ?_)
  subst ey
  obtain rfl : v = Value.ref o2 := ry
  have hz := length_mergeK ka []
  refine ⟨o2, mergeK [] ka, kb, H2, rfl, I4, hr2, hne2, hp2, by simp at hz; omega, fun s5 I5 => ?_⟩
  dsimp only
  refine wpAny_pure ?_
  rw [if_pos (show ([] : List (Sem Value × Sem Value)).isEmpty = true from rfl)]
  exact wpAny_bind (wpAny_pure (wpAny_pure ⟨.ref _, _, I5, rfl, q3⟩))
end
end NA

namespace NA
open PySem PySem.Spec PyProof.Rows L2
section
variable {X : Cx} {CX : CXT} {C f : Addr} {n : Nat} {sp : Sp} {E : XK} {o i : Expr} {to ti : TE} {pos : Pos}
def PlainIxP (b : Expr) : Prop := ∀ o i, subscripted b true o i = runValue (.builtin "lifetime.subscript" ⟨[o, i], []⟩)
/-- x[y], x of the class at C, which says __getitem__ itself -/
def rIxC (C : Addr) (sp : Sp) (E : XK) : R2 := fun x y H Q => ∃ a dx fs, x = .ref a ∧ H a = some (.ins C dx fs) ∧ sp [x, y] H Q E
theorem pe_ixC (S : Spc X.K C "__getitem__" f) (hf : PySem.W.fnIn X.K f = true) (F : FnR X.prog X.w X.K X.mg X.base CX n f sp) (hr : Room (n + 1) X.A) (hx : Passes CX X E) (ho : PE X o to) (hi : PE X i ti) (hs : PlainIxP i) :
    PE X (.Subscript o i pos) (tOp (rIxC C sp E) to ti) := by
  refine ⟨fun pins s σ H Q I h => ?_⟩
  refine Subscript_ (binT ho hi I h fun v u s2 x y H2 I2 rx ry q => ?_)
  obtain ⟨a, dx, fs, rfl, ha, q⟩ := q
  cases (show v = Value.ref a from rx)
  obtain ⟨od, J⟩ := inst_of I2 ha
  obtain ⟨m, hF⟩ := I2.fr
  exact PySem.W.sub_K hF I2.ok.mod.kin J S.at_ hf S.fn (run_sub (vs := [.ref a, y]) F hr.in1 rfl hx I2 (.cons rfl (.cons ry .nil)) q) (hs _ _)
end
end NA

namespace NA
open PySem PySem.Spec PyProof.Rows L2
/-- a def with one default, None -/
def FunD1 (K : PySem.W.Frag) (x qual : Str) (st : Stmt) (f : Addr) : Prop := ∃ fd, FunD K x qual (defArgs st) (defBody st) (defScope st) [.non] [] f fd
theorem fund_mk {K : PySem.W.Frag} {x qual : Str} {st : Stmt} {f T : Addr} {oc kV dc pm cd ct ocT : Value} {od an odT : Option Addr} {sl slT : Array (Option Value)} {nT : Nat}
    (l : K.lookup f = some ⟨oc, od, .func (PySem.W.fnOf x qual (defArgs st) (defBody st) (defScope st) (.ref T) kV dc pm an cd ct), sl⟩) (c : PySem.W.codeIn K cd qual = true) (k : PySem.W.keepIn K (.ref f) = true)
    (lT : K.lookup T = some ⟨ocT, odT, .seq #[.none] nT, slT⟩) : FunD1 K x qual st f :=
  ⟨_, ⟨⟨oc, od, .ref T, kV, dc, pm, an, cd, ct, sl, rfl, l, c, .inr ⟨List.cons_ne_nil _ _, T, _, [.none], nT, rfl, lT, rfl, .cons rfl .nil⟩, .inl rfl⟩, k⟩⟩
section
variable {P : Program} {w : World} {K : PySem.W.Frag} {mg : Str → Option Value} {base : Heap} {k : Nat} {f : Addr} {sp : Sp}
/-- all parameters are given -/
theorem fnrd {CX : CXT} {x qual : Str} {st : Stmt} {N ps : List Str} (F : FunD1 K x qual st f) (S : FnScope N ps (defScope st))
    (hb : ∀ (T : Addr) (kV doc pm : Value) (an : Option Addr) (cdv ct : Value) (us : List Value) (d : Value), us.length = ps.length →
      ∃ k, bindArgs (PySem.W.fnOf x qual (defArgs st) (defBody st) (defScope st) (.ref T) kV doc pm an cdv ct) ⟨us, []⟩ = seqItems? (.ref T) >>= k ∧ k (some #[d]) = pure (ps.zip us))
    (len : ∀ vs H Q E, sp vs H Q E → vs.length = ps.length)
    (hbody : ∀ (cdv : Value) (A : Around) (outer : List Env) (s : Shared) (H : Hp) (vs : List V) (Q : VK) (E : XK), Room k (A.deeper (envOfC qual (defScope st) s.heap.objs.size f cdv)) → sp vs H Q E →
      ∃ t, PSs (cxOf CX P w K mg base N qual (defScope st) f cdv A outer s H E) (defBody st) t ∧ t { nx := fun _ H' => Q .non H', rt := Q } (start N vs) H) : FnR P w K mg base CX (k + 1) f sp := by
  obtain ⟨fd, F⟩ := F
  obtain ⟨ds, hv, hB⟩ := F.binds1 (ps := ps) ps.length 1 (List.cons_ne_nil _ _) rfl fun T kV doc pm an cdv ct us its hl hi => by
    match its, hi with
    | [d], _ =>
      obtain ⟨k, e1, e2⟩ := hb T kV doc pm an cdv ct us d hl
      exact ⟨k, e1, by rw [show us ++ [d].drop 1 = us from List.append_nil _]; exact e2⟩
  cases hv
  exact fnr_of (F.ok S len hbody) hB
end
end NA

namespace NA
open PySem PySem.Spec PyProof.Rows L2
section
variable {P : Program} {w : World} {K : PySem.W.Frag} {mg : Str → Option Value} {base : Heap} {k : Nat} {f : Addr} {sp : Sp}
end
end NA

namespace NA
open PySem PySem.Spec PyProof.Rows L2
section
variable {X : Cx}
/-- d != {}, d == {} -/
def rNeD0 : R2 := fun x y H Q => ∃ a b ks, x = .ref a ∧ y = .ref b ∧ H a = some (.dK ks) ∧ H b = some (.dK []) ∧ Q (.bl (!ks.isEmpty)) H
theorem op_neD0 (hu : X.A.units < cLine) : OpR X (compareOp .NotEq) rNeD0 := by
  intro pins s σ H x y v u Q I rx ry h
  obtain ⟨a, b, ks, rfl, rfl, ea, eb, q⟩ := h
  obtain rfl : v = Value.ref a := rx
  obtain rfl : u = Value.ref b := ry
  obtain ⟨_, ya, va, ra, da⟩ := (show ObjOk X.prog X.w H s.heap a (.dK ks) from I.hok a _ ea)
  obtain ⟨_, yb, vb, rb, db⟩ := (show ObjOk X.prog X.w H s.heap b (.dK []) from I.hok b _ eb)
  cases rb
  refine PySem.W.keq_ne (knd := mixKind X.prog X.w) (r := true) ya yb da db hu (fun e => ?_) (fin_bl I q ?_)
  · cases va with
    | nil => exact .nil
    | cons _ _ => cases e
  · cases ra with
    | nil => rfl
    | cons _ _ => rfl
end
end NA

/-! enumerate(tuple); != of equal nested lists and dicts; a op= e of an own class -/
namespace NA
open PySem PySem.Spec PyProof.Rows L2
open AutoSeq1 (wpAny_loadPart')
theorem meets_enumT (l : Addr) (items : Array Value) (n : Nat) (dct : Option Addr) (sl : Array (Option Value)) :
    Meets (Builtin.«enumerate.__new__» ⟨[.type "enumerate", .ref l], []⟩) (fun _ R s => s.heap.get? l = some { cls := .type "tuple", dict := dct, data := .seq items n, slots := sl } ∧
      R (.ok (.ret (.ref (s.heap.push { cls := .type "tuple_iterator", data := .fields #[.ref l, .int 0 0] }).objs.size)))
        { s with heap := (s.heap.push { cls := .type "tuple_iterator", data := .fields #[.ref l, .int 0 0] }).push { cls := .type "enumerate", data := .fields #[.none, .bool false, .ref s.heap.objs.size, rawInt 0, .none, .none] } }) :=
  .of_wp fun prog w A R s h => by
    obtain ⟨hp, g, d, tk, os⟩ := s; obtain ⟨hl, h⟩ := h
    have hsub := sub_enumerate
    have hL : Heap.IsTuple (Shared.heap ⟨hp, g, d, tk, os⟩) l items := ⟨_, hl, rfl, n, rfl⟩
    wp_walk using wpAny_loadPart' hl
    refine wpAny_stack_any fun st => wpAny_pure ?_
    split
    · rename_i c _ _ _ _ _
      cases (c == Value.type "enumerate")
      · wp_walk using wpAny_loadPart' hl, wpAny_pyIter_tuple hL
        exact ⟨_, rfl, h⟩
      · wp_walk using wpAny_loadPart' hl, wpAny_pyIter_tuple hL
        exact ⟨_, rfl, h⟩
    · wp_walk using wpAny_loadPart' hl, wpAny_pyIter_tuple hL
      exact ⟨_, rfl, h⟩
theorem call_enumT {prog : Program} {w : World} {A : Around} {E : Value → Shared → Prop} {s : Shared} {l : Addr} {items : Array Value} {Q : Value → Shared → Prop} (hL : s.heap.IsTuple l items)
    (h : ∀ h', IsEnum h' (s.heap.objs.size + 1) s.heap.objs.size 0 .none → h'.IsTupleIter s.heap.objs.size l 0 → h'.objs.size = s.heap.objs.size + 2 →
      (∀ b o, s.heap.get? b = some o → h'.get? b = some o) → Q (.ref (s.heap.objs.size + 1)) { s with heap := h' }) :
    wpAny (model prog w) A (call (.type "enumerate") [.ref l]) Q E s := by
  obtain ⟨⟨c, dct, dt, sl⟩, hl, hc, n, hd⟩ := hL
  replace hc : c = .type "tuple" := hc
  replace hd : dt = .seq items n := hd
  subst hc hd
  refine callType_new F.called_enumerate (by decide) (F.typeCall_enumerate_1 _) (F.newCall_enumerate_1 _) (fun obj => F.args_object_init_2 obj _) F.entry_enumerate_new
    (meets_enumT l items n dct sl) ⟨hl, ?_⟩
  have hz : (s.heap.push { cls := .type "tuple_iterator", data := .fields #[.ref l, .int 0 0] }).objs.size = s.heap.objs.size + 1 := Heap.size_push ..
  show _ ∧ _
  rw [hz]
  have he : IsEnum ((s.heap.push { cls := .type "tuple_iterator", data := .fields #[.ref l, .int 0 0] }).push
      { cls := .type "enumerate", data := .fields #[.none, .bool false, .ref s.heap.objs.size, rawInt 0, .none, .none] }) (s.heap.objs.size + 1) s.heap.objs.size 0 .none := by
    have := Heap.get?_push_size (s.heap.push { cls := .type "tuple_iterator", data := .fields #[.ref l, .int 0 0] })
      (o := { cls := .type "enumerate", data := .fields #[.none, .bool false, .ref s.heap.objs.size, rawInt 0, .none, .none] }) rfl
    rw [hz] at this; exact this
  refine ⟨⟨_, he, rfl⟩, h _ he ⟨_, Heap.get?_push_of_some _ (Heap.get?_push_size _ rfl), rfl, rfl⟩ (by rw [Heap.size_push, hz]) fun b o x => Heap.get?_push_of_some _ (Heap.get?_push_of_some _ x)⟩
/-- the tuple at a, each item in a new pair -/
def IteT (K : PySem.W.Frag) (a : Addr) : It :=
  ⟨fun i H => ∃ (xs : List V) (x : V), SqT K H a xs ∧ xs[i]? = some x, fun i H v H' => ∃ T x, v = .ref T ∧ H T = none ∧ H' = upd H T (.tup [.int (i : Nat), x]) ∧ ∀ xs, SqT K H a xs → xs[i]? = some x, fun i H => ∃ xs : List V, SqT K H a xs ∧ xs.length = i⟩
theorem turn_enumT {P : Program} {w : World} {K : PySem.W.Frag} {elts : List Expr} {kk : Nat} {tpos : Pos} (a e it : Addr) :
    Turn P w K (.Tuple elts kk tpos) (IteT K a) [e, it] e (fun i h => (∃ old, IsEnum h e it ((i : Nat) : Int) old) ∧ h.IsTupleIter it a i ∧ e ≠ it ∧ a ≠ it ∧ a ≠ e) where
  mem := by simp
  obj := fun i h st b hb => by
    obtain ⟨⟨old, he⟩, ⟨o, ho, hc, hd⟩, _⟩ := st
    have e' : b = e ∨ b = it := by simpa using hb
    rcases e' with z | z
    · rw [z]; exact ⟨_, he, fun v q => nomatch q⟩
    · rw [z]; exact ⟨o, ho, fun v q => by rw [hd] at q; cases q⟩
  keep := fun i h h' st k => let ⟨⟨old, he⟩, hi, hne⟩ := st; ⟨⟨old, k e (by simp) _ he⟩, hi.at fun o q => k it (by simp) o q, hne⟩
  item := by
    intro X hP hw hK hc i pins s σ H E I hf st hg
    subst hP hw hK
    obtain ⟨⟨old, he⟩, hit, hne, hai, hae⟩ := st
    obtain ⟨xs, x, hq, hx⟩ := hg
    obtain ⟨its, rv, p, hz⟩ := I.tuple hq
    obtain ⟨u, hu, ru⟩ := rv.get hx
    have hel : e < s.heap.objs.size := Heap.lt_size he
    have hil : it < s.heap.objs.size := by obtain ⟨_, q, _⟩ := hit; exact Heap.lt_size q
    have hlt : i < its.toArray.size := by
      have := (List.getElem?_eq_some_iff.mp hu).1
      simpa using this
    refine wpAny_pyNext_enum_itemD (Draws.tuple (prog := X.prog) (w := X.w) (A := X.A.in1) (show X.A.in1.handled = none from I.ok.hd hc) it a hai its.toArray) he ⟨hit, p⟩ hlt hne (by simp; exact ⟨hne, fun z => hae z.symm⟩) fun y h' tk hy ho hit' hT hsz hk => ?_
    have ey : y = u := by
      have h1 : its.toArray[i]? = some u := by simpa using hu
      rw [h1] at hy; exact (Option.some.inj hy).symm
    subst ey
    refine ⟨_, rfl, wpAny_letOwnedTupleGo_enum (s := { s with heap := h', toks := tk + 1 }) ho fun h'' he' sb => ?_⟩
    have hT2 : h''.get? s.heap.objs.size = some { cls := .type "tuple", data := .seq #[.int i tk, y] } := (sb.2 _ (Nat.ne_of_gt hel)).trans hT
    have new : ObjOk X.prog X.w (upd H s.heap.objs.size (.tup [.int (i : Nat), x])) h'' s.heap.objs.size (.tup [.int (i : Nat), x]) :=
      ⟨by show 2 ≤ sizeLine; decide, [.int i tk, y], .cons ⟨_, rfl⟩ (.cons ru .nil), ⟨_, hT2, rfl, _, rfl⟩⟩
    have I1 : Inv X pins σ (upd H s.heap.objs.size (.tup [.int (i : Nat), x])) { s with heap := h'', toks := tk + 1 } :=
      I.turnedNew (ch := [e, it]) (fun b ob hb q => (sb.2 b (fun z => hb (by simp [z]))).trans (hk b ob (fun z => hb (by simp [z])) (fun z => hb (by simp [z])) q)) hf (Nat.le_refl _) new
    refine ⟨.ref s.heap.objs.size, _, I1, rfl, ⟨_, x, rfl, I.hok.fresh (Nat.le_refl _), rfl, fun ys hy => by rw [I.tuple_inj hy hq]; exact hx⟩, ⟨⟨y, ?_⟩, hit'.1.at fun o q => (sb.2 it (Ne.symm hne)).trans q, hne, hai, hae⟩, fun b hb => ?_⟩
    · have e1 : ((i + 1 : Nat) : Int) = (i : Int) + 1 := by omega
      rw [e1]; exact he'
    · have hb' : b < s.heap.objs.size := by
        have e' : b = e ∨ b = it := by simpa using hb
        rcases e' with z | z
        · rw [z]; exact hel
        · rw [z]; exact hil
      rw [upd_ne (Nat.ne_of_lt hb')]
      exact (hf b hb).1
  done := by
    intro X hP hw hK hc i pins s σ H E I hf st hg
    subst hP hw hK
    obtain ⟨⟨old, he⟩, hit, hne, hai, hae⟩ := st
    obtain ⟨xs, hq, hx⟩ := hg
    obtain ⟨its, rv, p, hz⟩ := I.tuple hq
    obtain ⟨f0, f1, f2, f3, f4, f5⟩ := hf it (by simp)
    have hl := rv.length
    have es : its.toArray.size = i := by simp; omega
    refine wpAny_pyNext_enum_endD (Draws.tuple (prog := X.prog) (w := X.w) (A := X.A.in1) (show X.A.in1.handled = none from I.ok.hd hc) it a hai its.toArray) he ⟨by rw [es]; exact hit, p⟩ fun h' eb => ⟨rfl, I.turned (t' := s.toks) (fun b o hb q => eb b o hb q) f0 f1 f3 f4 f5⟩
  self := fun A i s Q E st h => let ⟨⟨_, he⟩, _⟩ := st; wpAny_pyIter_enum he h
def iEnumT (K : PySem.W.Frag) (ta : TA) : TI := fun σ H R => ta σ H fun vs H1 => ∃ a xs, vs = [.ref a] ∧ SqT K H1 a xs ∧ R (IteT K a) H1
theorem pi_enumT {X : Cx} {e : Expr} {ta : TA} {p pos tpos : Pos} {elts : List Expr} {kk : Nat} (hg : Gl X "enumerate") (hm : X.mg "enumerate" = none) (ha : PA X [e] ta) (hs : starEach [e] X.env = [(false, eval e X.env)] := by rfl) :
    PI X (.Tuple elts kk tpos) (.Call (.Name "enumerate" p) [e] [] pos) (iEnumT X.K ta) := by
  refine ⟨fun pins s σ H R I h => ?_⟩
  refine Call_ (ld_blt I hg hm boot_enumerate (PyProof.Rows.callWith_type1 (thn (ha.run pos pins s σ H _ I h) fun us s1 ⟨vs, H1, I1, r1, q1⟩ => ?_) hs rfl))
  obtain ⟨a, xs, ex, hq, q⟩ := q1
  subst ex
  cases r1 with
  | cons r rr =>
    cases rr
    cases r
    obtain ⟨its, rv, p', hz⟩ := I1.tuple hq
    have hal : a < s1.heap.objs.size := by obtain ⟨_, y, _⟩ := id p'; exact Heap.lt_size y
    refine call_enumT (show s1.heap.IsTuple a its.toArray from p') fun h' he hit hsz hk => wpAny_pyIter_enum he ?_
    have I2 : Inv X pins σ H1 { s1 with heap := h' } := I1.kept (t' := s1.toks) hk
    refine ⟨s1.heap.objs.size + 1, [s1.heap.objs.size + 1, s1.heap.objs.size], _, _, H1, rfl, I2, turn_enumT a (s1.heap.objs.size + 1) s1.heap.objs.size, ⟨⟨.none, he⟩, hit, Nat.succ_ne_self _, Nat.ne_of_lt hal, Nat.ne_of_lt (Nat.lt_succ_of_lt hal)⟩, fun b hb => ?_, q⟩
    have e' : b = s1.heap.objs.size + 1 ∨ b = s1.heap.objs.size := by simpa using hb
    have hle : s1.heap.objs.size ≤ b := by
      rcases e' with z | z
      · rw [z]; exact Nat.le_add_right _ _
      · rw [z]; exact Nat.le_refl _
    exact I1.fpOk hle (I1.hok.fresh hle)
theorem walk_enumT {K : PySem.W.Frag} {a : Addr} {xs : List V} : Walk (IteT K a) xs.length (fun H => SqT K H a xs) (YPair (fun i => some (.int (i : Nat))) (fun i => xs[i]?)) := by
  refine ⟨fun i _ hi q => ⟨xs, xs[i], q, by simp [hi]⟩, fun _ q => ⟨xs, q, rfl⟩, fun i H v H' _ q y => ?_⟩
  obtain ⟨T, x, h1, h2, h3, h4⟩ := y
  exact ⟨T, .int (i : Nat), x, h1, h2, h3, rfl, h4 xs q⟩
end NA

namespace NA
open PySem PySem.Spec PyProof.Rows L2
section
variable {X : Cx} {CX : CXT} {C f : Addr} {n : Nat} {sp : Sp} {E : XK}
end
end NA

set_option maxHeartbeats 1000000
/-! repr of data with dicts (texts as keys) in it -/
namespace NA
open PySem PySem.Spec PyProof.Rows L2
/-- the value v is the data d, of nesting at most n -/
def Dz (H : Hp) : Nat → V → PyData → Prop
  | 0 => fun v d => (v = .non ∧ d = .none) ∨ (∃ i, v = .int i ∧ d = .int i) ∨ (∃ z, v = .str z ∧ d = .str z) ∨ ∃ b, v = .bl b ∧ d = .bool b
  | n + 1 => fun v d => Dz H n v d ∨ (∃ a xs ds, v = .ref a ∧ H a = some (.lst xs) ∧ a ≠ sysModules ∧ d = .list ds ∧ Paired (Dz H n) xs ds) ∨ (∃ a xs ds, v = .ref a ∧ H a = some (.tup xs) ∧ d = .tuple ds ∧ Paired (Dz H n) xs ds) ∨
    ∃ (a : Addr) (kvs : List (Str × V)) (es : List (PyData × PyData)), v = .ref a ∧ H a = some (.dK (kvs.map fun p => ((Sum.inr p.1 : Key), p.2))) ∧ d = .dict es ∧ Paired (fun p e => e.1 = PyData.str p.1 ∧ Dz H n p.2 e.2) kvs es
theorem prd_imp {α β : Type} {R S : α → β → Prop} {xs : List α} {ys : List β} (h : Paired R xs ys) (f : ∀ a b, R a b → S a b) : Paired S xs ys := by
  induction h with
  | nil => exact .nil
  | cons h _ ih => exact .cons (f _ _ h) ih
theorem Dz.fr {H H' : Hp} (e : ∀ b o, H b = some o → (∀ ps, o ≠ .tbl ps) → H' b = some o) : ∀ {n : Nat} {v : V} {d : PyData}, Dz H n v d → Dz H' n v d
  | 0, _, _, h => h
  | n + 1, v, d, h => by
    rcases h with h | ⟨a, xs, ds, rfl, h1, h2, rfl, h3⟩ | ⟨a, xs, ds, rfl, h1, rfl, h3⟩ | ⟨a, kvs, es, rfl, h1, rfl, h3⟩
    · exact .inl (Dz.fr e h)
    · exact .inr (.inl ⟨a, xs, ds, rfl, e _ _ h1 (fun _ z => nomatch z), h2, rfl, prd_imp h3 fun _ _ z => Dz.fr e z⟩)
    · exact .inr (.inr (.inl ⟨a, xs, ds, rfl, e _ _ h1 (fun _ z => nomatch z), rfl, prd_imp h3 fun _ _ z => Dz.fr e z⟩))
    · exact .inr (.inr (.inr ⟨a, kvs, es, rfl, e _ _ h1 (fun _ z => nomatch z), rfl, prd_imp h3 fun _ _ z => ⟨z.1, Dz.fr e z.2⟩⟩))
section
variable {X : Cx} {pins : List (Addr × Obj)} {σ : L2.St} {H : Hp} {s : Shared}
theorem reads_all {F : V → PyData → Prop} (ih : ∀ v d u, F v d → L2.RelV v u → ∃ as, Reads s.heap u d as ∧ sysModules ∉ as) {xs : List V} {ds : List PyData} (hp : Paired F xs ds) : ∀ {us : List Value}, Vals xs us → ∃ as, ReadsAll s.heap us ds as ∧ sysModules ∉ as := by
  induction hp with
  | nil => intro us r; cases r; exact ⟨_, .nil, List.not_mem_nil⟩
  | cons h _ k =>
    intro us r
    cases r with
    | cons r1 r2 =>
      obtain ⟨as, a1, a2⟩ := ih _ _ _ h r1
      obtain ⟨bs, b1, b2⟩ := k r2
      exact ⟨as ++ bs, .cons a1 b1, fun z => (List.mem_append.mp z).elim a2 b2⟩
theorem Dz.reads (I : Inv X pins σ H s) : ∀ (n : Nat) (v : V) (d : PyData) (u : Value), Dz H n v d → L2.RelV v u → ∃ as, Reads s.heap u d as ∧ sysModules ∉ as
  | 0, v, d, u, h, r => by
    rcases h with ⟨rfl, rfl⟩ | ⟨i, rfl, rfl⟩ | ⟨z, rfl, rfl⟩ | ⟨b, rfl, rfl⟩
    · cases r; exact ⟨_, .none, List.not_mem_nil⟩
    · obtain ⟨t, rfl⟩ := r; exact ⟨_, .int i t, List.not_mem_nil⟩
    · obtain ⟨t, rfl⟩ := r; exact ⟨_, .str z t, List.not_mem_nil⟩
    · cases r; exact ⟨_, .bool b, List.not_mem_nil⟩
  | n + 1, v, d, u, h, r => by
    rcases h with h | ⟨a, xs, ds, rfl, h1, h2, rfl, h3⟩ | ⟨a, xs, ds, rfl, h1, rfl, h3⟩ | ⟨a, kvs, es, rfl, h1, rfl, h3⟩
    · exact Dz.reads I n v d u h r
    · cases (show u = Value.ref a from r)
      obtain ⟨_, its, n', rv, ho⟩ := (show ObjOk X.prog X.w H s.heap a (.lst xs) from I.hok a _ h1)
      obtain ⟨as, ra, nas⟩ := reads_all (fun v d u h r => Dz.reads I n v d u h r) h3 rv
      refine ⟨a :: as, .list ho rfl rfl ra, fun z => ?_⟩
      rcases List.mem_cons.mp z with z | z
      · exact h2 z.symm
      · exact nas z
    · cases (show u = Value.ref a from r)
      obtain ⟨_, its, rv, o, ho, hc, n', hn⟩ := (show ObjOk X.prog X.w H s.heap a (.tup xs) from I.hok a _ h1)
      obtain ⟨as, ra, nas⟩ := reads_all (fun v d u h r => Dz.reads I n v d u h r) h3 rv
      exact ⟨as, .tuple ho hc hn ra, nas⟩
    · cases (show u = Value.ref a from r)
      obtain ⟨_, ns, vs, rv, o, es', ep, ho, hx, hd, hko, hp, hnd⟩ := (show ObjOk X.prog X.w H s.heap a (.dK (kvs.map fun p => ((Sum.inr p.1 : Key), p.2))) from I.hok a _ h1)
      have main : ∀ {kvs : List (Str × V)} {es : List (PyData × PyData)}, Paired (fun p e => e.1 = PyData.str p.1 ∧ Dz H n p.2 e.2) kvs es → ∀ {vs : List (Key × Value)}, KV (kvs.map fun p => ((Sum.inr p.1 : Key), p.2)) vs → ∀ {l : List DictEntry}, Pairs (mixKind X.prog X.w) l vs → ReadsAll s.heap (l.map (·.key)) (es.map (·.1)) [] ∧ ∃ bs, ReadsAll s.heap (l.map (·.val)) (es.map (·.2)) bs ∧ sysModules ∉ bs := by
        intro kvs es h3
        induction h3 with
        | nil =>
          intro vs rv l hp
          cases rv
          cases hp
          exact ⟨.nil, _, .nil, List.not_mem_nil⟩
        | @cons p e ps qs h _ ih =>
          intro vs rv l hp
          cases rv with
          | cons r1 r2 =>
            cases hp with
            | cons k1 k2 k3 =>
              obtain ⟨i1, bs, i2, i3⟩ := ih r2 k3
              rename_i q _ en _
              obtain ⟨e1, e2⟩ := r1
              have hk : keyIs (Sum.inr p.1) en.key = true := by rw [show (Sum.inr p.1 : Key) = q.1 from e1]; exact k1
              obtain ⟨t1, ek⟩ : ∃ t, en.key = .str p.1 t := by
                rcases keyIs_shape hk with ⟨i, t, z1, _⟩ | ⟨x, t, z1, z2⟩
                · cases z1
                · cases z1; exact ⟨t, z2⟩
              obtain ⟨as, a1, a2⟩ := Dz.reads I n p.2 e.2 en.val h.2 (by rw [k2]; exact e2)
              refine ⟨?_, as ++ bs, .cons a1 i2, fun z => (List.mem_append.mp z).elim a2 i3⟩
              show ReadsAll s.heap (en.key :: _) (e.1 :: _) []
              rw [h.1, ek]
              exact ReadsAll.cons (as := []) (bs := []) (.str p.1 t1) i1
      obtain ⟨m1, bs, m2, m3⟩ := main h3 rv hp
      refine ⟨_, .dict ho hx.1 hd m1 m2, fun z => ?_⟩
      rcases List.mem_cons.mp z with z | z
      · rw [← z] at ns; simp at ns
      · exact m3 (by simpa using z)
end
/-- data that repr can tell: of weight at most W, of nesting at most n -/
structure Gdt (W n : Nat) (d : PyData) : Prop where
  sh : d.showable = true
  ls : d.leavesShort 20 = true
  wt : d.weight ≤ W
  dp : d.depth ≤ n
theorem Gdt.mono {W W' n n' : Nat} {d : PyData} (h : Gdt W n d) (h1 : W ≤ W') (h2 : n ≤ n') : Gdt W' n' d := ⟨h.sh, h.ls, Nat.le_trans h.wt h1, Nat.le_trans h.dp h2⟩
theorem Gdt.non : Gdt 0 0 .none := ⟨by rw [PyData.showable], by rw [PyData.leavesShort], by rw [PyData.weight]; exact Nat.le_refl _, by rw [PyData.depth]; exact Nat.le_refl _⟩
theorem Gdt.str {z : Str} {W : Nat} (h : z.length ≤ W) (hc : ∀ c ∈ z.cps.toList, c < 16 ^ 8) : Gdt W 0 (.str z) :=
  ⟨by rw [PyData.showable], by rw [PyData.leavesShort, List.all_eq_true]; exact fun c hc' => decide_eq_true (hc c hc'), by rw [PyData.weight]; exact h, by rw [PyData.depth]; exact Nat.le_refl _⟩
theorem gdt_all {W n : Nat} : ∀ {ds : List PyData}, (∀ d ∈ ds, Gdt W n d) → PyData.showableAll ds = true ∧ PyData.leavesShortAll 20 ds = true ∧ PyData.weightAll ds ≤ ds.length * (W + 1) ∧ PyData.depthAll ds ≤ n
  | [], _ => ⟨by rw [PyData.showableAll], by rw [PyData.leavesShortAll], by rw [PyData.weightAll]; omega, by rw [PyData.depthAll]; omega⟩
  | d :: ds, h => by
    obtain ⟨h1, h2, h3, h4⟩ := gdt_all (ds := ds) fun x hx => h x (List.mem_cons_of_mem _ hx)
    have g := h d (List.mem_cons_self ..)
    refine ⟨by rw [PyData.showableAll, g.sh, h1]; rfl, by rw [PyData.leavesShortAll, g.ls, h2]; rfl, ?_, ?_⟩
    · rw [PyData.weightAll, List.length_cons, Nat.add_mul]
      have := g.wt
      omega
    · rw [PyData.depthAll]
      exact Nat.max_le.mpr ⟨g.dp, h4⟩
theorem gdt_kv {KW W n : Nat} : ∀ {es : List (PyData × PyData)}, (∀ e ∈ es, Gdt KW n e.1 ∧ Gdt W n e.2) → PyData.showableKv es = true ∧ PyData.leavesShortKv 20 es = true ∧ PyData.weightKv es ≤ es.length * (KW + W + 2) ∧ PyData.depthKv es ≤ n
  | [], _ => ⟨by rw [PyData.showableKv], by rw [PyData.leavesShortKv], by rw [PyData.weightKv]; omega, by rw [PyData.depthKv]; omega⟩
  | (a, b) :: es, h => by
    obtain ⟨h1, h2, h3, h4⟩ := gdt_kv (es := es) fun x hx => h x (List.mem_cons_of_mem _ hx)
    obtain ⟨g, g'⟩ := h (a, b) (List.mem_cons_self ..)
    refine ⟨by rw [PyData.showableKv, g.sh, g'.sh, h1]; rfl, by rw [PyData.leavesShortKv, g.ls, g'.ls, h2]; rfl, ?_, ?_⟩
    · rw [PyData.weightKv, List.length_cons, Nat.add_mul]
      have h5 : a.weight ≤ KW := g.wt
      have h6 : b.weight ≤ W := g'.wt
      omega
    · rw [PyData.depthKv]
      exact Nat.max_le.mpr ⟨Nat.max_le.mpr ⟨g.dp, g'.dp⟩, h4⟩
theorem Gdt.list {W n : Nat} {ds : List PyData} (h : ∀ d ∈ ds, Gdt W n d) : Gdt (ds.length * (W + 1)) (n + 1) (.list ds) := by
  obtain ⟨h1, h2, h3, h4⟩ := gdt_all h
  exact ⟨by rw [PyData.showable]; exact h1, by rw [PyData.leavesShort]; exact h2, by rw [PyData.weight]; exact h3, by rw [PyData.depth]; omega⟩
theorem Gdt.tuple {W n : Nat} {ds : List PyData} (h : ∀ d ∈ ds, Gdt W n d) : Gdt (ds.length * (W + 1)) (n + 1) (.tuple ds) := by
  obtain ⟨h1, h2, h3, h4⟩ := gdt_all h
  exact ⟨by rw [PyData.showable]; exact h1, by rw [PyData.leavesShort]; exact h2, by rw [PyData.weight]; exact h3, by rw [PyData.depth]; omega⟩
theorem Gdt.dict {KW W n : Nat} {es : List (PyData × PyData)} (h : ∀ e ∈ es, Gdt KW n e.1 ∧ Gdt W n e.2) : Gdt (es.length * (KW + W + 2)) (n + 1) (.dict es) := by
  obtain ⟨h1, h2, h3, h4⟩ := gdt_kv h
  exact ⟨by rw [PyData.showable]; exact h1, by rw [PyData.leavesShort]; exact h2, by rw [PyData.weight]; exact h3, by rw [PyData.depth]; omega⟩
def Dzg (H : Hp) (n W : Nat) (v : V) (d : PyData) : Prop := Dz H n v d ∧ Gdt W n d
theorem Dz.up {H : Hp} : ∀ {m n : Nat} {v : V} {d : PyData}, n ≤ m → Dz H n v d → Dz H m v d
  | 0, n, v, d, hm, h => by
    have : n = 0 := by omega
    subst this; exact h
  | m + 1, n, v, d, hm, h => by
    by_cases e : n = m + 1
    · subst e; exact h
    · exact .inl (Dz.up (by omega) h)
theorem Dzg.mono {H : Hp} {n n' W W' : Nat} {v : V} {d : PyData} (h : Dzg H n W v d) (h1 : n ≤ n') (h2 : W ≤ W') : Dzg H n' W' v d := ⟨Dz.up h1 h.1, h.2.mono h2 h1⟩
theorem Dzg.fr {H H' : Hp} {n W : Nat} {v : V} {d : PyData} (h : Dzg H n W v d) (e : ∀ b o, H b = some o → (∀ ps, o ≠ .tbl ps) → H' b = some o) : Dzg H' n W v d := ⟨Dz.fr e h.1, h.2⟩
end NA

/-! if and for around yield -/
namespace NA
open PySem PySem.Spec PyProof.Rows L2 GenW
section
variable {M : Model} {A : Around} {R : GenEnd} {Y : Protocol} {n : Nat} {s₀ : Shared} {c : Code} {fs : List Frame} {s : Shared} {env : Env}
  {K : Flow → Sem PySem.Fin} {J : Value → Sem PySem.Fin} {gd : Bool → Bool} {lv : List Value → List Value}
end
section
variable {prog : Program} {w : World} {A : Around} {R : GenEnd} {Y : Protocol} {n : Nat} {s₀ : Shared} {fs : List Frame} {s : Shared} {env : Env}
end
section
variable {X : Cx} {tg : Expr}
end
end NA

/-! == of dicts, nested, with both answers -/
namespace NA
open PySem PySem.Spec PyProof.Rows L2
/-- the answer of looking the entries up in the dict ls -/
inductive Hits (F : V → V → Bool → Prop) (ls : List (Key × V)) : List (Key × V) → Bool → Prop
  | nil : Hits F ls [] true
  | miss {p : Key × V} {r : List (Key × V)} : valV ls p.1 = none → Hits F ls (p :: r) false
  | hit {p : Key × V} {u : V} {r : List (Key × V)} {e b : Bool} : valV ls p.1 = some u → F p.2 u e → Hits F ls r b → Hits F ls (p :: r) (e && b)
def EqRB (H : Hp) (F : V → V → Bool → Prop) (x y : V) (r : Bool) : Prop :=
  ∃ a b ks ls r0, x = .ref a ∧ y = .ref b ∧ H a = some (.dK ks) ∧ H b = some (.dK ls) ∧ (ks.length = ls.length → Hits F ls ks r0) ∧ r = (ks.length == ls.length && r0)
/-- the answer b of ==, of nesting at most n: texts, dicts -/
def EqB (H : Hp) : Nat → V → V → Bool → Prop
  | 0 => fun x y b => ∃ z z', x = .str z ∧ y = .str z' ∧ b = (z == z')
  | n + 1 => fun x y b => EqB H n x y b ∨ (EqRB H (EqB H n) x y b ∧ (x = y → b = true))
theorem Hits.run {P : Program} {w : World} {A : Around} {s : Shared} {F : V → V → Bool → Prop} (ih : ∀ x y v u b, F x y b → RelV x v → RelV y u → SeqAt.EqP P w A s v u b) {ls : List (Key × V)} {vb : List (Key × Value)} (rb : KV ls vb) {ks : List (Key × V)} {va : List (Key × Value)}
    (ra : KV ks va) : ∀ {b : Bool}, Hits F ls ks b → PySem.W.KeqHitsP P w A s vb va b := by
  unfold KV at ra
  induction ra with
  | nil => intro b h; cases h; exact .nil
  | @cons p q ps qs h t k =>
    intro b hp
    obtain ⟨h1, h2⟩ := h
    obtain ⟨key, v⟩ := q
    have h1' : p.1 = key := h1
    cases hp with
    | miss e =>
      have rr : RelO none (valueAt vb p.1) := by rw [← e]; exact rb.val p.1
      have hn : valueAt vb key = none := by
        rw [← h1']
        cases e2 : valueAt vb p.1 with
        | none => rfl
        | some y => rw [e2] at rr; exact absurd rr (by simp [RelO])
      exact .miss hn
    | @hit _ u _ e0 b0 e f hr =>
      have rr : RelO (some u) (valueAt vb p.1) := by rw [← e]; exact rb.val p.1
      obtain ⟨y, hy, ry⟩ := rr.some_of
      rw [h1'] at hy
      exact .hit hy (ih _ _ _ _ _ f h2 ry) (k hr)
section
variable {X : Cx} {pins : List (Addr × Obj)} {σ : L2.St} {H : Hp} {s : Shared}
theorem EqRB.run (I : Inv X pins σ H s) {A : Around} {F : V → V → Bool → Prop} (hu : A.units < cLine) (ih : ∀ x y v u b, F x y b → RelV x v → RelV y u → SeqAt.EqP X.prog X.w A.in1 s v u b) {x y : V} {v u : Value} {r : Bool} (h : EqRB H F x y r) (rx : RelV x v) (ry : RelV y u)
    (E Q : Value → Shared → Prop) (q : Q (.bool r) s) : wpAny (model X.prog X.w) A (richCompare .Eq v u) Q E s := by
  obtain ⟨a, b, ks, ls, r0, rfl, rfl, ha, hb, hp, rfl⟩ := h
  cases (show v = Value.ref a from rx)
  cases (show u = Value.ref b from ry)
  obtain ⟨_, ya, va, ra, da⟩ := (show ObjOk X.prog X.w H s.heap a (.dK ks) from I.hok a _ ha)
  obtain ⟨_, yb, vb, rb, db⟩ := (show ObjOk X.prog X.w H s.heap b (.dK ls) from I.hok b _ hb)
  refine PySem.W.rcP_dicts (knd := mixKind X.prog X.w) (r := r0) ya yb da db hu (fun e => (hp (by rw [ra.length, rb.length]; exact e)).run ih rb ra) E Q ?_
  rw [ra.length, rb.length] at q
  exact q
theorem EqB.run (I : Inv X pins σ H s) : ∀ (n : Nat) (A : Around), A.units + n < cLine → ∀ (x y : V) (v u : Value) (b : Bool), EqB H n x y b → RelV x v → RelV y u → SeqAt.EqP X.prog X.w A s v u b
  | 0, A, _, x, y, v, u, b, h, rx, ry => by
    obtain ⟨z, z', rfl, rfl, rfl⟩ := h
    obtain ⟨t, rfl⟩ := (show ∃ t, v = Value.str z t from rx)
    obtain ⟨t', rfl⟩ := (show ∃ t, u = Value.str z' t from ry)
    exact (SeqAt.EqAt.str_str z t z' t').eqP
  | n + 1, A, hu, x, y, v, u, b, h, rx, ry => by
    rcases h with h | ⟨h, hs⟩
    · exact EqB.run I n A (by omega) x y v u b h rx ry
    · have step := EqRB.run I (A := A) (by omega) (EqB.run I n A.in1 (by show A.units + 1 + n < cLine; omega)) h rx ry
      obtain ⟨a, c, _, _, _, rfl, rfl, _⟩ := id h
      cases (show v = Value.ref a from rx)
      cases (show u = Value.ref c from ry)
      by_cases e : a = c
      · subst e
        rw [hs rfl]
        exact (SeqAt.EqAt.same _).eqP
      · exact SeqAt.eqP_refs e step
end
section
variable {X : Cx}
end
end NA

/-! own == x, own != x for x of any kind, other own objects too -/
namespace NA
open PySem PySem.Spec PyProof.Rows L2
/-- any value beside an instance of C -/
def TyN (K : PySem.W.Frag) (C : Addr) (H : Hp) (y : V) : Prop := (∃ b D dy gs, y = .ref b ∧ H b = some (.ins D dy gs) ∧ PySem.W.notFirst K C (.ref D) = true) ∨ ∃ T, Knd H y T
theorem TyN.self {K : PySem.W.Frag} {C b dy : Addr} {gs : List (Str × V)} {H : Hp} (h : H b = some (.ins C dy gs)) : TyN K C H (.ref b) := .inl ⟨b, C, dy, gs, rfl, h, notFirst_self⟩
theorem TyN.other {K : PySem.W.Frag} {C D b dy : Addr} {gs : List (Str × V)} {H : Hp} (h : H b = some (.ins D dy gs)) (hs : PySem.W.subIn K (.ref D) (.ref C) = some false) : TyN K C H (.ref b) :=
  .inl ⟨b, D, dy, gs, rfl, h, by unfold PySem.W.notFirst; rw [hs]; simp⟩
section
variable {X : Cx} {CX : CXT} {n : Nat} {C f : Addr} {sp : Sp} {E : XK}
end
end NA

/-! bool(own) -/
namespace NA
open PySem PySem.Spec PyProof.Rows L2
section
variable {X : Cx} {CX : CXT} {n : Nat} {C f : Addr} {sp : Sp} {E : XK}
end
end NA

/-! repr of plain data without dicts, at any address; lists of tuples of three texts -/
namespace NA
open PySem PySem.Spec PyProof.Rows L2
section
variable {X : Cx}
def rReprP (K : PySem.W.Frag) : List V → Hp → VK → Prop := fun xs H Q => ∃ (a : Addr) (d : PyData) (n W : Nat), xs = [.ref a] ∧ Dp K H (.ref a) d ∧ Gdt W n d ∧ d.hasDict = false ∧ n ≤ 40 ∧ 22 * W + 20 ≤ 1000000 ∧ Q (.str d.shown) H
theorem call_reprP (hg : X.A.guards = some []) (hu : X.A.units + 64 < cLine) : CallR X (.builtin "repr") (rReprP X.K) := by
  intro pins s σ H xs us Q I r h
  obtain ⟨a, d, n, W, rfl, hd, hG, hdc, hn, hw, q⟩ := h
  obtain ⟨u, rfl, ru⟩ := vals1 r
  cases (show u = Value.ref a from ru)
  obtain ⟨as, hr⟩ := Dp.reads I d _ _ hd rfl
  have hz : d.shown.length ≤ sizeLine := by
    have h1 := PyData.shown_le 20 (by decide) d hG.ls
    have h2 := hG.wt
    rw [sizeLine_eq]
    have : (20 + 2) * d.weight ≤ 22 * W := Nat.mul_le_mul_left 22 h2
    omega
  exact repr_of_reads' hr hG.sh (fun z => by rw [hdc] at z; cases z) hg (by have := hG.dp; omega) (fun _ _ e => e) (fun h' u tk hk => ⟨.str d.shown, H, I.kept hk, ⟨_, rfl⟩, q⟩) hz
end
end NA

/-! defs with **d behind two parameters -/
namespace NA
open PySem PySem.Spec PyProof.Rows L2
section
variable {prog : Program} {w : World} {A : Around} {E : Value → Shared → Prop} {d : Addr}
end
section
variable {P : Program} {w : World} {K : PySem.W.Frag} {mg : Str → Option Value} {base : Heap} {CX : CXT} {k : Nat} {f : Addr} {sp : Sp}
end
end NA

/-! f(e, ..), f an instance: a reading in which no context stands, so that it may stand in a comprehension -/
namespace NA
open PySem PySem.Spec PyProof.Rows L2
section
variable {X : Cx} {CX : CXT} {k : Nat} {sp : Sp} {E : XK} {fe e : Expr} {es : List Expr} {tf : TE} {t : TA} {C g : Addr} {pos : Pos}
/-- !=, == of plain data, where no context may stand -/
theorem op_neDK {K : PySem.W.Frag} (e : X.K = K) (hu : X.A.units + 64 < cLine) : OpR X (compareOp .NotEq) (rNeD K) := e ▸ op_neD hu
theorem op_eqDK {K : PySem.W.Frag} (e : X.K = K) (hu : X.A.units + 64 < cLine) : OpR X (compareOp .Eq) (rEqD K) := e ▸ op_eqD hu
end
end NA

/-! o.m(e, .., x=e, ..): by position and by keyword -/
namespace NA
open PySem PySem.Spec PyProof.Rows L2
section
variable {X : Cx} {CX : CXT} {k n : Nat} {f C : Addr} {sp : Sp} {E : XK} {m : Str} {ks : List Str} {o e : Expr} {es : List Expr} {kws : List Keyword} {ta : TE} {t tk : TA} {pos apos : Pos}
end
end NA

/-! != of lists of equal items of any kind (dicts in lists) -/
namespace PySem.SeqAt
open AutoSeq1 (wpAny_loadPart')
open MeetsSeq MeetsSeq2 MeetsSeq3 SeqRoads2
section
variable {prog : Program} {w : World}
end
end PySem.SeqAt
namespace NA
open PySem PySem.Spec PyProof.Rows L2
section
variable {X : Cx} {K : PySem.W.Frag}
end
end NA

/-! repr of a dict of texts, under other things -/
namespace NA
open PySem PySem.Spec PyProof.Rows L2
section
variable {X : Cx} {n : Nat} {as : List Addr} {G : Hp → Prop}
end
end NA

/-! x(lambda: body) where the body has a comprehension: its variable z is the lambda's own, at the slot iz that the def has for that name -/
namespace NA
open PySem PySem.Spec PyProof.Rows L2 LamX
/-- a lambda's scope with one name of its own -/
structure LamL (N : List Str) (z : Str) (iz : Nat) (sc sl : Scope) : Prop where
  k1 : sl.kind = .function
  k2 : sl.isCoroutine = false
  k3 : sl.isGenerator = false
  nd : N.Nodup
  at_ : N[iz]? = some z
  nc : ∀ y ∈ sl.names, y.2 ≠ .cell
  lo : ∀ y ∈ sl.names, y.2 = .local → y.1 = z
  fr : ∀ y ∈ sl.names, y.2 = .free → sc.names.lookup y.1 = some .cell ∨ sc.names.lookup y.1 = some .free
section
variable {X : Cx} {z : Str} {iz : Nat} {pins : List (Addr × Obj)} {σ : L2.St} {H H2 : Hp} {s t : Shared} {sl : Scope}
theorem LamL.cl (L : LamL X.N z iz X.env.scope sl) (ok : X.Ok) (y : Str × NameKind) (hy : y ∈ sl.names) (e : y.2 = .free) : ∃ c, X.env.cells.lookup y.1 = some c :=
  ok.has _ (L.fr y hy e)
end
end NA

/-! x(e, ..) where the variable x holds an own class -/
namespace NA
open PySem PySem.Spec PyProof.Rows L2
section
variable {X : Cx} {CX : CXT} {k i : Nat} {C f : Addr} {sp : Sp} {E : XK} {x : Str} {e : Expr} {es : List Expr} {t : TA} {p pos : Pos}
end
end NA

/-! Part RW: an own exception class without own __init__, made without arguments; isinstance of such an error that is kept. -/
namespace NA
open PySem PySem.Spec PyProof.Rows L2
section
variable {X : Cx} {C : Addr} {bmB : List Value} {B newId initId : String}
end
section
variable {X : Cx} {C : Addr}
end
end NA

/-! Part RX: sets of any kind of keys, whose tables can be walked; sorted(set(texts)). -/
namespace NA
open PySem PySem.Spec PyProof.Rows L2
section
variable {P : Program} {w : World} {κ : Type} [DecidableEq κ]
/-- no key stands in both -/
def Apt (knd : KeyKind P w κ) (x y : Int × Value) : Prop := ∀ k, ¬ (knd.is k x.2 = true ∧ knd.is k y.2 = true)
theorem Apt.symm {knd : KeyKind P w κ} {x y : Int × Value} (h : Apt knd x y) : Apt knd y x := fun k z => h k ⟨z.2, z.1⟩
/-- what a table holds -/
structure Tab (knd : KeyKind P w κ) (es : Array (Int × Value)) (t : SetTable) (S : κ → Bool) (n : Nat) : Prop where
  el : ElemsOf knd es.toList
  nd : es.toList.Pairwise (Apt knd)
  mem : ∀ k, S k = true ↔ ∃ e ∈ es.toList, knd.is k e.2 = true
  lt : es.size < scanBound
  fit : t.fits es.size = true
  n : es.size = n
  ris : Ris t.place.toList
  led : w.params.followText "set-order" = true ∨ t.led = true
variable {A : Around} {E : Value → Shared → Prop} {s : Shared} {a : Addr} {S : κ → Bool} {n : Nat} {knd : KeyKind P w κ}
end
end NA

/-! Part RY: set(texts). -/
namespace NA
open PySem PySem.Spec PyProof.Rows L2
section
variable {P : Program} {w : World} {A : Around} {E : Value → Shared → Prop} {s : Shared}
end
end NA

/-! Part RZ: set(l) of a list of texts, and sorted of it. -/
namespace NA
open PySem PySem.Spec PyProof.Rows L2
section
variable {P : Program} {w : World} {A : Around} {E : Value → Shared → Prop} {s : Shared}
end
end NA

set_option maxHeartbeats 2000000
/-! Part SA: sorted(set(l)), l a list of texts: the rules. -/
namespace NA
open PySem PySem.Spec PyProof.Rows L2
section
variable {P : Program} {w : World} {A : Around} {E : Value → Shared → Prop} {s : Shared} {a : Addr} {S : Str → Bool} {n : Nat}
end
section
variable {X : Cx}
end
end NA

/-! Part SB: d.pop(k), k a tuple that stands in d. -/
namespace NA
open PySem PySem.Spec PyProof.Rows L2
section
variable {prog : Program} {w : World} {κ : Type} [DecidableEq κ] {knd : HeapKind prog w κ}
end
section
variable {X : Cx} {o e : Expr} {apos cpos : Pos} {td ty : TE}
end
end NA

/-! Part SC: dict(xs), the keys tuples. -/
namespace NA
open PySem PySem.Spec PyProof.Rows L2
section
variable {X : Cx}
end
end NA

/-! Part SD: f(k = v, ..) of a def; two keywords in the other order. -/
namespace NA
open PySem PySem.Spec PyProof.Rows L2
section
variable {P : Program} {w : World} {K : PySem.W.Frag} {mg : Str → Option Value} {base : Heap} {CX : CXT} {k : Nat} {f : Addr} {sp : Sp}
end
section
variable {X : Cx} {CX : CXT} {k n : Nat} {f : Addr} {sp : Sp} {E : XK} {x : Str} {ks : List Str} {kws : List Keyword} {t tk : TA} {p pos : Pos}
end
end NA

/-! NSe: xs[::e], e an expression that is 1 or -1. -/
namespace NK
open PySem PySem.Spec PyProof.Rows L2
section
variable {X : Cx}
end
end NK

/-! NSf: s * n, s a text, n 0 or 1. -/
namespace NK
open PySem PySem.Spec PyProof.Rows L2
section
variable {X : Cx}
def rMulS : R2 := fun x y H Q => ∃ (z : Str) (n : Int), x = .str z ∧ y = .int n ∧ (n = 0 ∨ n = 1) ∧ Q (.str (if n = 1 then z else Str.empty)) H
theorem op_mul_str : OpR X (binaryOp .Mult) rMulS := by
  intro pins s σ H x y v u Q I rx ry h
  obtain ⟨z, n, rfl, rfl, hn, q⟩ := h
  obtain ⟨t, rfl⟩ := rx
  obtain ⟨t', rfl⟩ := ry
  rcases hn with rfl | rfl
  · rw [if_neg (by decide)] at q
    exact PySem.P.mul_str_none (by decide) (by decide) ⟨.str Str.empty, H, I.tok _, ⟨_, rfl⟩, q⟩
  · rw [if_pos rfl] at q
    refine PySem.P.mul_str (by decide) (fun _ h => by simp at h) (fun _ h => by simp at h) ?_
    rw [if_neg (by decide), if_pos (by simp)]
    exact ⟨.str z, H, I, ⟨_, rfl⟩, q⟩
theorem pe_bmK {K : PySem.W.Frag} {T id name : String} {o e : Expr} {es : List Expr} {r : V → List V → Hp → VK → Prop} {to : TE} {t : TA} {apos cpos : Pos} (eK : X.K = K) (pa : PlainAttrs T) (slot : Slot T name id) (hty : typeOf (.builtin id) = pure (.type "method_descriptor")) (hm : MtR X id r) (ho : PE X o to) (ha : PA X (e :: es) t)
    (hbase : attributeBase o name X.env (eval o X.env) = eval o X.env := by rfl)
    (hfew : ((backTo cpos (starEach (e :: es) X.env)).all (fun x => !x.1) && (backToKw cpos (keywordEach [] X.env)).all (fun x => x.1.isSome)
      && decide ((e :: es).length + ([] : List Keyword).length + (if ([] : List Keyword).isEmpty then 0 else 1) < 30)) = true := by rfl)
    (hline : (apos.endLine == cpos.line) = true := by rfl) (hs : starEach (e :: es) X.env = (false, eval e X.env) :: starEach es X.env := by rfl) (hplain : (backTo cpos (starEach es X.env)).any (·.1) = false := by rfl) :
    PE X (.Call (.Attribute o name apos) (e :: es) [] cpos) (tBM K T r to t) := eK ▸ pe_bm pa slot hty hm ho ha hbase hfew hline hs hplain
theorem call_len_seqK {K : PySem.W.Frag} (eK : X.K = K) : CallR X (.builtin "len") (fun xs H Q => ∃ p ys, xs = [V.ref p] ∧ (SqL K H p ys ∨ SqT K H p ys) ∧ Q (V.int ys.length) H) := eK ▸ call_len_seq
end
end NK

/-! NSg: own errors over ValueError with two attributes: __init__ says super().__init__(text), then self.a = a, self.b = b. -/
namespace NA
open PySem PySem.Spec PyProof.Rows L2
/-- the text of such an __init__ -/
def ErT2 (body : List Stmt) (txt pa pb : Str) : Prop := ∃ (p0 p1 p2 p3 p4 p5 p6 p7 p8 p9 r6 r7 r8 r9 : Pos) (j : Nat),
  body = [.Expr (.Call (.Attribute (.Call (.Name "super" p0) [] [] p1) "__init__" p2) [.Constant (.str txt) j p3] [] p4) p5, .Assign [.Attribute (.Name "self" p6) pa p7] (.Name pa p8) p9, .Assign [.Attribute (.Name "self" r6) pb r7] (.Name pb r8) r9] ∧
  ∀ env : Env, ∃ pl : Sem Bool, eval (.Call (.Attribute (.Call (.Name "super" p0) [] [] p1) "__init__" p2) [.Constant (.str txt) j p3] [] p4) env = (do
    let ov ← attributeBase (.Call (.Name "super" p0) [] [] p1) "__init__" env (eval (.Call (.Name "super" p0) [] [] p1) env)
    standAt p2.atName
    let (f, first) ← holding [ov] (getMethod ov "__init__" pl)
    callWith p4 f first (backTo p4 (starEach [.Constant (.str txt) j p3] env)) [])
structure ErC2 (P : Program) (K : PySem.W.Frag) (mg : Str → Option Value) (C fI : Addr) (pa pb : Str) (st : Stmt) : Prop where
  ox : OexC K C
  init : PySem.W.findIn K (.ref C) "__init__" = some (some (.ref fI))
  ity : PySem.W.typeIn K (.ref fI) = some (.type "function")
  nofa : PySem.W.findIn K (.ref C) pa = some none
  nofb : PySem.W.findIn K (.ref C) pb = some none
  opq : PySem.W.nsIn K cStatics "thirdparty.any" = some none
  sup : PySem.W.ks_superIn K C C "__init__" = some (some (.builtin "ValueError.__init__"))
  ve : PySem.W.subIn K (.ref C) (.type "ValueError") = some true
  slf : PySem.W.mroIn K C (.ref C) = some true
  ns : mg "super" = none
  top : (P.main.scope.names.lookup ("super" : Str)).isSome = false
  fn : ∃ (qual : Str) (cc cd : Addr) (kV doc pm ct oc : Value) (od an : Option Addr) (osl : Array (Option Value)), K.lookup fI = some ⟨oc, od, .func (erFd qual (defArgs st) (defBody st) (defScope st) cc kV doc pm an (.ref cd) ct), osl⟩ ∧ PySem.W.codeIn K (.ref cd) qual = true ∧
    (∃ (o : Value) (d : Option Addr) (sl : Array (Option Value)), K.lookup cc = some ⟨o, d, .cell (some (.ref C)), sl⟩) ∧
    ∃ (o : Value) (d : Option Addr) (vs : Array Value) (sl : Array (Option Value)) (file : Str) (tf : Tok), K.lookup cd = some ⟨o, d, .fields vs, sl⟩ ∧ vs[2]? = some (.str file tf) ∧ ((P.main.file : Str) == file) = true
  txt : ∃ t : Str, t.length ≤ 1000 ∧ ErT2 (defBody st) t pa pb
  hd : ((defArgs st).posonlyargs ++ (defArgs st).args).head?.map (·.arg) = some "self"
  kind : (defScope st).kind = .function
  co : (defScope st).isCoroutine = false
  gen : (defScope st).isGenerator = false
  l0 : (defScope st).names.lookup ("self" : Str) = some .local
  l1 : (defScope st).names.lookup pa = some .local
  l2 : (defScope st).names.lookup pb = some .local
  ls : (defScope st).names.lookup ("super" : Str) = some .globalImplicit
  lc : (defScope st).names.lookup ("__class__" : Str) = some .free
  fre : ∀ y ∈ (defScope st).names, y.2 = .free → y.1 = "__class__"
  noc : ∀ y ∈ (defScope st).names, y.2 ≠ .cell
  nea : pa ≠ "self"
  neb : pb ≠ "self"
  neab : pb ≠ pa
  pda : (pa == ("__debug__" : Str)) = false
  pca : (pa == ("__classdict__" : Str)) = false
  pdb : (pb == ("__debug__" : Str)) = false
  pcb : (pb == ("__classdict__" : Str)) = false
  bnd : ∀ (qual : Str) (cc : Addr) (kV doc pm : Value) (an : Option Addr) (cdv ct x y z : Value), bindArgs (erFd qual (defArgs st) (defBody st) (defScope st) cc kV doc pm an cdv ct) ⟨[x, y, z], []⟩ = pure ([("self", x), (pa, y), (pb, z)] : List (Str × Value))
section
variable {P : Program} {w : World} {K : PySem.W.Frag} {mg : Str → Option Value} {base : Heap} {C fI : Addr} {pa pb : Str} {st : Stmt}
theorem er_start2 {A : Around} {outer : List Env} {s : Shared} {H : Hp} {xe : Value → Shared → Prop} {qual : Str} {cc : Addr} {kV doc pm ct cdv u u2 : Value} {an : Option Addr} {a : Addr} {v v2 : V} {h1 : Heap} {tk : Nat}
    (R : ErC2 P K mg C fI pa pb st) (hcc : ∃ (o : Value) (d : Option Addr) (sl : Array (Option Value)), K.lookup cc = some ⟨o, d, .cell (some (.ref C)), sl⟩) (e0 : Env0 P w K mg base A outer s H) (hd : A.handled = none)
    (hns : h1.Ns s.heap.objs.size fun y => ([("self", Value.ref a), (pa, u), (pb, u2)] : List (Str × Value)).reverse.lookup y) (kp : ∀ b o, s.heap.get? b = some o → h1.get? b = some o) (rv : RelV v u) (rv2 : RelV v2 u2) :
    Inv (erCx P w K mg base ["self", pa, pb] (erFd qual (defArgs st) (defBody st) (defScope st) cc kV doc pm an cdv ct) fI A outer s H xe) [] [some (.ref a), some v, some v2] H { s with heap := h1, toks := tk } := by
  obtain ⟨o, d, sl, hc⟩ := hcc
  have bc := e0.bs _ _ (e0.mod.kin _ _ hc)
  have one : ∀ {y : Str} {c : Addr}, ([("__class__", cc)] : List (Str × Addr)).lookup y = some c → y = "__class__" ∧ c = cc := fun {y c} e => by
    have := PySem.mem_of_lookup e
    simp only [List.mem_singleton, Prod.mk.injEq] at this
    exact this
  refine ⟨⟨e0.mod, R.kind, rfl, rfl, Nat.le_refl _, fun y z c e1 e2 => (one e1).1.trans (one e2).1.symm, fun y hy => ?_, fun y c z _ => ?_, fun _ => hd, Around.frames_deeper e0.frames, .inr ⟨rfl, rfl⟩, (fun b z => (List.not_mem_nil (show b ∈ ([] : List Addr) from z)).elim), e0.bs, e0.bsz, (fun b _ _ z => (List.not_mem_nil (show b ∈ ([] : List Addr) from z)).elim), (fun b z => (List.not_mem_nil (show b ∈ ([] : List Addr) from z)).elim), e0.funs, e0.frf⟩,
    rfl, e0.bare, Un.kept kp, ⟨_, hns, fun i y v' e1 e2 e3 => ?_⟩, fun y c e => ?_, e0.hok.fresh (Nat.le_refl _), fun y c e => ?_, (fun q hq => (List.not_mem_nil (show q ∈ ([] : List (Addr × Obj)) from hq)).elim), e0.hok.kept kp, rfl⟩
  · refine ⟨cc, ?_⟩
    have hy : (defScope st).names.lookup y = some .cell ∨ (defScope st).names.lookup y = some .free := hy
    rcases hy with k | k
    · exact (R.noc _ (PySem.mem_of_lookup k) rfl).elim
    · have e : y = "__class__" := R.fre _ (PySem.mem_of_lookup k) rfl
      rw [e]
      rfl
  · exact (Bool.false_ne_true (show false = true from z)).elim
  · have e1 : (["self", pa, pb] : List Str)[i]? = some y := e1
    match i, e1, e2 with
    | 0, e1, e2 =>
      have ey : "self" = y := by simpa using e1
      have ev : V.ref a = v' := by simpa using e2
      subst ey ev
      refine ⟨.ref a, rfl, .inl ⟨R.l0, ?_⟩⟩
      show ([(pb, u2), (pa, u), ("self", Value.ref a)] : List (Str × Value)).lookup ("self" : Str) = _
      rw [List.lookup_cons, show (("self" : Str) == pb) = false from beq_eq_false_iff_ne.mpr (Ne.symm R.neb), List.lookup_cons, show (("self" : Str) == pa) = false from beq_eq_false_iff_ne.mpr (Ne.symm R.nea)]
      rfl
    | 1, e1, e2 =>
      have ey : pa = y := by simpa using e1
      have ev : v = v' := by simpa using e2
      subst ey ev
      refine ⟨u, rv, .inl ⟨R.l1, ?_⟩⟩
      show ([(pb, u2), (pa, u), ("self", Value.ref a)] : List (Str × Value)).lookup pa = _
      rw [List.lookup_cons, show (pa == pb) = false from beq_eq_false_iff_ne.mpr (Ne.symm R.neab), List.lookup_cons, show (pa == pa) = true from beq_self_eq_true pa]
    | 2, e1, e2 =>
      have ey : pb = y := by simpa using e1
      have ev : v2 = v' := by simpa using e2
      subst ey ev
      refine ⟨u2, rv2, .inl ⟨R.l2, ?_⟩⟩
      show ([(pb, u2), (pa, u), ("self", Value.ref a)] : List (Str × Value)).lookup pb = _
      rw [List.lookup_cons, show (pb == pb) = true from beq_self_eq_true pb]
    | n + 3, e1, e2 => simp at e2
  · obtain ⟨rfl, rfl⟩ := one e
    exact ⟨_, _, kp _ _ bc.1, rfl⟩
  · obtain ⟨rfl, rfl⟩ := one e
    exact bc.2
def spErr2 (C : Addr) (pa pb : Str) : Sp := fun vs H Q _ => ∃ a v v2, vs = [.ref a, v, v2] ∧ H a = some (exo a C none) ∧ ∀ dx, H dx = none → dx ≠ a → Q .non (upd (upd (upd H dx (exd dx [(pa, v)])) a (exo a C (some dx))) dx (exd dx [(pb, v2), (pa, v)]))
theorem ok_err2 (R : ErC2 P K mg C fI pa pb st) : ∃ fd, Binds K fd ["self", pa, pb] [] ∧ ∀ base, FnOk P w K mg base CX0 1 fI fd ["self", pa, pb] (spErr2 C pa pb) := by
  obtain ⟨qual, cc, cd, kV, doc, pm, ct, oc, od, an, osl, lk, hcd, hcc, o, d, vs', sl, file, tf, hco, hvs, hfile⟩ := R.fn
  refine ⟨erFd qual (defArgs st) (defBody st) (defScope st) cc kV doc pm an (.ref cd) ct, Binds.all fun us hl => ?_, fun base => ⟨fun vs H Q E h => ?_, fun A outer s H args us vs Q E hr e0 hb hv hs => ?_⟩⟩
  · match us, hl with
    | [x, y, z], _ => exact R.bnd qual cc kV doc pm an (.ref cd) ct x y z
  · obtain ⟨a, v, v2, rfl, _⟩ := h; rfl
  · obtain ⟨a, v, v2, rfl, ha, q⟩ := hs
    obtain ⟨u, u2, rfl, rv, rv2⟩ : ∃ u u2, us = [.ref a, u, u2] ∧ L2.RelV v u ∧ L2.RelV v2 u2 := by
      cases hv with
      | cons r1 r2 =>
        cases r2 with
        | cons r3 r4 =>
          cases r4 with
          | cons r5 r6 =>
            cases r6
            cases r1
            exact ⟨_, _, rfl, r3, r5⟩
    have KX : K.In s.heap := e0.mod.kin.keeps fun b o e => (e0.bs b o e).1
    have lim : s.heap.NoLimit := e0.mod.nolimit.keeps fun b o e => (e0.bs b o e).1
    refine PySem.ks_codeAny_call_defAt hr.depth (KX _ _ lk) rfl lim (PySem.W.codeRec_of KX hcd) rfl hb R.noc (fun x hx => ?_) (fun h1 hns kp => ?_) R.co R.gen R.kind
    · have hx : x ∈ ([("self", Value.ref a), (pa, u), (pb, u2)] : List (Str × Value)) := hx
      simp only [List.mem_cons, List.not_mem_nil, or_false] at hx
      rcases hx with rfl | rfl | rfl
      · exact R.l0
      · exact R.l1
      · exact R.l2
    · obtain ⟨t, ht, p0, p1, p2, p3, p4, p5, p6, p7, p8, p9, r6, r7, r8, r9, j, hbody, hev⟩ := R.txt
      obtain ⟨env, henv⟩ : ∃ env, env = callEnv (erFd qual (defArgs st) (defBody st) (defScope st) cc kV doc pm an (.ref cd) ct) s.heap.objs.size fI := ⟨_, rfl⟩
      have I := er_start2 (xe := fun _ _ => False) (tk := s.toks + 3) (qual := qual) (kV := kV) (doc := doc) (pm := pm) (an := an) (cdv := .ref cd) (ct := ct) R hcc e0 hr.hd hns kp rv rv2
      have key : ∀ body : List Stmt, body = [.Expr (.Call (.Attribute (.Call (.Name "super" p0) [] [] p1) "__init__" p2) [.Constant (.str t) j p3] [] p4) p5, .Assign [.Attribute (.Name "self" p6) pa p7] (.Name pa p8) p9, .Assign [.Attribute (.Name "self" r6) pb r7] (.Name pb r8) r9] →
          PySem.wpAt (model P w) (A.deeper env) (.func body env) (execs body env) (fun fl s' => CR CX0 outer P w H s Q E (.ok (.ret (match fl with | .ret v => v | _ => .none))) s')
            (fun _ _ => False) { s with heap := h1, toks := s.toks + 3 } := by
        intro body hb
        subst hb
        obtain ⟨oc', dc', slc', hcl⟩ := id hcc
        have hself : ∃ ar : Arg, ((defArgs st).posonlyargs ++ (defArgs st).args).head? = some ar ∧ ar.arg = "self" := by
          have := R.hd
          cases q2 : ((defArgs st).posonlyargs ++ (defArgs st).args).head? with
          | none => rw [q2] at this; cases this
          | some ar => rw [q2] at this; exact ⟨ar, rfl, Option.some.inj this⟩
        obtain ⟨ar, har, earg⟩ := hself
        obtain ⟨nm, qn, N, bs, bm, sn, sub, ab, col, dd, k0, k1, k2, k3, k5, hC, hbm⟩ := R.ox.cls
        have KI : K.In h1 := KX.keeps kp
        have hclC : PySem.W.clsIn K C = some { name := nm, bases := bs, mro := .ref C :: bm, ns := N, qualname := qn, hasDict := true, slotNames := sn, subclasses := sub, abstract := ab, collection := col, hasDel := false } := by
          unfold PySem.W.clsIn
          rw [hC]
        obtain ⟨pl, hpl⟩ := hev env
        have hint : interactive env = false := by
          unfold interactive
          rw [show env.scope.kind = .function by rw [henv]; exact R.kind]
          rfl
        refine PySem.ks_wpAt_execs_cons (PySem.ks_wpAt_Expr_any (PySem.ks_wpAt_MethodCall (pl := pl) (PySem.ks_wpAt_super_base (f := fI) (cc := cd) (ar := ar) (fd := erFd qual (defArgs st) (defBody st) (defScope st) cc kV doc pm an (.ref cd) ct)
          (by rw [henv]; exact R.ls) (by rw [henv]; exact R.lc) (by decide) (by rw [henv]; rfl) (KI _ _ lk) rfl har (by rw [henv]; rfl) (KI _ _ hco) rfl hvs hfile R.top ?_) hpl) hint rfl)
        have hk : env.scope.kind = .function := by rw [henv]; exact R.kind
        obtain ⟨mb, hb1, hb2⟩ := e0.mod.blt
        have bk : ∀ b o, base.get? b = some o → h1.get? b = some o := fun b o e => kp b o (e0.bs b o e).1
        have hL : h1.get? a = _ := (exo_at (e0.hok.kept kp) ha).choose_spec
        obtain ⟨t0, ht0⟩ : ∃ t0, h1.get? a = some (PySem.HandSPX.excO C t0) := ⟨_, hL⟩
        rw [loadName_read hk (by rw [henv]; exact R.ls)]
        refine Calls.loadGlobal_builtin (mg := mg) (mb := mb) (v := .type "super") (by rw [henv]; exact e0.mod.glob.keeps bk) R.ns (by rw [henv]; exact hb1.keeps bk) ((hb2 "super" (by decide)).trans (by kernel_rfl)) ⟨rfl, ?_⟩
        refine wpAny_loadName_free (c := cc) (v := .ref C) hk (by rw [henv]; exact R.lc) (by rw [henv]; rfl) ⟨_, KI _ _ hcl, rfl⟩ ?_
        rw [earg]
        refine wpAny_loadName_local (v := .ref a) hk (by rw [henv]; exact R.l0) (by rw [henv]; exact hns) ?_ ?_
        · show ([(pb, u2), (pa, u), ("self", Value.ref a)] : List (Str × Value)).lookup ("self" : Str) = _
          rw [List.lookup_cons, show (("self" : Str) == pb) = false from beq_eq_false_iff_ne.mpr (Ne.symm R.neb), List.lookup_cons, show (("self" : Str) == pa) = false from beq_eq_false_iff_ne.mpr (Ne.symm R.nea)]
          rfl
        refine PySem.ks_wpAny_isType_cls (KI _ _ hC) rfl ⟨rfl, ?_⟩
        refine PySem.ks_wpAny_call_super (KI _ _ hC) rfl ht0 rfl (fun c z => by cases z) (PySem.W.looks_mroIn KI R.slf) (fun h2 hso k2 => ?_)
        have K2 : K.In h2 := KI.keeps k2
        have J2 : PySem.W.InstAt h2 a (PySem.HandSPX.excO C t0) C none := ⟨k2 _ _ ht0, rfl, rfl, trivial⟩
        have hsup : PySem.W.alongIn K "__init__" (((Value.ref C :: bm).dropWhile (· != .ref C)).drop 1) = some (some (.builtin "ValueError.__init__")) := by
          have := R.sup
          unfold PySem.W.ks_superIn at this
          rw [hclC] at this
          exact this
        refine PySem.W.kxs_getMethod PySem.W.kxs_ValueError hso (PySem.W.looks_opaque K2 R.opq) (l₀ := .ref C :: bm) (fun A Q E s k q => wpAny_bind ((PySem.W.looks_clsIn K2 hclC) A _ E s k (wpAny_pure q))) rfl K2 hsup
          (J2.type.andThen (PySem.W.looks_subIn K2 R.ve)) (PySem.W.ks_ne K2 J2 hclC) (by decide) ?_
        show wpAny _ _ (callWith p4 (.ref h2.objs.size) [] ((false, eval (.Constant (.str t) j p3) env) :: backTo p4 (starEach [] env)) []) _ _ _
        refine PySem.W.kxs_callWith (i := "ValueError.__init__") (x := a) rfl (Calls.evalArgs_plain (Calls.spliced_cons (Calls.Constant_str (Calls.spliced_nil ⟨Heap.get?_push_size _ rfl, ?_⟩))))
        have k3 : ∀ b o, h1.get? b = some o → (h2.push (PySem.W.kxs_mw "ValueError.__init__" a)).get? b = some o := fun b o e => Heap.get?_push_of_some _ (k2 b o e)
        refine er_call (KI.keeps k3 _ _ hC) (k3 _ _ ht0) (Heap.get?_push_size _ rfl) (by show 1 ≤ sizeLine; decide) fun h4 t1 k4 e4 => ?_
        have I3 := (I.kept (h' := h2.push (PySem.W.kxs_mw "ValueError.__init__" a)) (t' := s.toks) k3).write (t' := s.toks + 3 + 1 + 1) (x := a) (e := a) (o := exo a C none) (by rw [ha]; exact True.intro) (.inl rfl) k4 ⟨_, e4⟩ (exo_ok e4)
        have eu : upd H a (exo a C none) = H := by
          funext b
          by_cases hb : b = a
          · rw [hb, upd_same, ha]
          · rw [upd_ne hb]
        rw [eu] at I3
        subst henv
        have hP := pss_cons (ps_ost (pos := p9) (p' := p7) (f := pa) (pe_var (pos := p6) (i := 0) (X := erCx P w K mg base ["self", pa, pb] (erFd qual (defArgs st) (defBody st) (defScope st) cc kV doc pm an (.ref cd) ct) fI A outer s H (fun _ _ => False)) (x := "self") rfl (.inl R.l0)) (pe_var (pos := p8) (i := 1) (x := pa) rfl (.inl R.l1) R.pda R.pca))
          (pss_one (ps_ost (pos := r9) (p' := r7) (f := pb) (pe_var (pos := r6) (i := 0) (X := erCx P w K mg base ["self", pa, pb] (erFd qual (defArgs st) (defBody st) (defScope st) cc kV doc pm an (.ref cd) ct) fI A outer s H (fun _ _ => False)) (x := "self") rfl (.inl R.l0)) (pe_var (pos := r8) (i := 2) (x := pb) rfl (.inl R.l2) R.pdb R.pcb)))
        refine wpAt_of_wpAny (wpAny_mono (hP.run [] _ _ H { nx := fun _ H' => Q .non H', rt := fun _ _ => False } I3 ⟨v, rfl, .ref a, rfl, a, C, rfl, R.ox, R.nofa, .inl ⟨ha, fun dx h1 h2 => ⟨v2, rfl, .ref a, rfl, a, C, rfl, R.ox, R.nofb, .inr ⟨dx, [(pa, v)], upd_same, by rw [upd_ne h2, upd_same], by show 1 ≤ 900; omega, q dx h1 h2⟩⟩⟩⟩) (fun fl s' hs => ?_) fun _ _ z => z)
        cases fl with
        | next =>
          obtain ⟨σ', H', J', q'⟩ := hs
          exact ⟨.non, H', J'.os, J'.bare, J'.base, J'.hok, rfl, q'⟩
        | ret u =>
          obtain ⟨_, _, _, _, _, q'⟩ := hs
          exact q'.elim
        | brk =>
          obtain ⟨_, _, _, q'⟩ := hs
          exact q'.elim
        | cont =>
          obtain ⟨_, _, _, q'⟩ := hs
          exact q'.elim
      refine PySem.ks_wpAt_mono (henv ▸ key _ hbody) (fun _ _ x => x) fun _ _ x => x.elim
end
/-! ### raise C(e1, e2) -/
abbrev tErr2 (C : Addr) (pa pb : Str) (te te2 : TE) : L2.St → Hp → XK → Prop := tMkO C (spErr2 C pa pb) [] (tCons te (tCons te2 tNil))
section
variable {X : Cx} {C fI : Addr} {pa pb x : Str} {st : Stmt} {e e2 : Expr} {te te2 : TE} {p pos : Pos}
theorem pmk_err2 (R : ErC2 X.prog X.K X.mg C fI pa pb st) (hr : Room 2 X.A) (hg : Gl X x) (hm : X.mg x = some (.ref C)) (he : PA X [e, e2] (tCons te (tCons te2 tNil)))
    (hdb : (x == ("__debug__" : Str)) = false := by decide) (hst : starEach [e, e2] X.env = (false, eval e X.env) :: starEach [e2] X.env := by rfl) (hpl : (backTo pos (starEach [e2] X.env)).any (·.1) = false := by rfl) :
    PMk X (.Call (.Name x p) [e, e2] [] pos) (tErr2 C pa pb te te2) := by
  obtain ⟨fd, hb, F⟩ := ok_err2 (w := X.w) R
  exact pmk_oex (X := X) (p := p) (pos := pos) (ds := []) (dvs := []) R.ox R.init R.ity (F X.base) hr hb .nil (fun _ _ _ _ _ _ _ z => z.elim) hg hm he hdb hst hpl
theorem v_err2 {H1 : Hp} {v v2 : V} {Q : XK} (k : ∀ d, H1 d = none → Q (.ref C) (some d) (upd H1 d (.xd [(pb, v2), (pa, v)]))) :
    ([v, v2] : List V).length ≤ 1000 ∧ ∀ a, H1 a = none → spErr2 C pa pb (.ref a :: ([v, v2] ++ [])) (upd H1 a (exo a C none))
      (fun v H2 => v = .non ∧ ∃ (d : Addr) (fs : List (Str × V)), H2 a = some (exo a C (some d)) ∧ H2 d = some (exd d fs) ∧ H1 d = none ∧ Q (.ref C) (some d) (upd (del H2 a) d (.xd fs))) (fun _ _ _ => False) := by
  refine ⟨by show 2 ≤ 1000; omega, fun a ha => ⟨a, v, v2, rfl, upd_same, fun dx h1 h2 => ⟨rfl, dx, [(pb, v2), (pa, v)], ?_, upd_same, ?_, ?_⟩⟩⟩
  · rw [upd_ne h2.symm, upd_same]
  · rw [upd_ne h2] at h1; exact h1
  · rw [upd_ne h2] at h1
    have e : upd (del (upd (upd (upd (upd H1 a (exo a C none)) dx (exd dx [(pa, v)])) a (exo a C (some dx))) dx (exd dx [(pb, v2), (pa, v)])) a) dx (.xd [(pb, v2), (pa, v)]) = upd H1 dx (.xd [(pb, v2), (pa, v)]) := by
      funext b
      by_cases hb : b = dx
      · rw [hb, upd_same, upd_same]
      · rw [upd_ne hb, upd_ne hb]
        by_cases hb2 : b = a
        · rw [hb2, del_same, ha]
        · rw [del_ne hb2, upd_ne hb, upd_ne hb2, upd_ne hb, upd_ne hb2]
    rw [e]
    exact k dx h1
end
end NA

/-! NSh: z[::-1] of a text. -/
namespace NK
open PySem PySem.Spec PyProof.Rows L2
def revT (z : Str) : Str := ⟨z.cps.toList.reverse.toArray⟩
theorem revT_len (z : Str) : (revT z).length = z.length := by
  show z.cps.toList.reverse.toArray.size = z.cps.size
  simp
theorem revT_mem {z : Str} {c : Nat} (h : c ∈ (revT z).cps.toList) : c ∈ z.cps.toList := by
  have h : c ∈ z.cps.toList.reverse.toArray.toList := h
  rw [List.toList_toArray] at h
  exact List.mem_reverse.mp h
theorem pick_rev (z : Str) : (⟨((Builtin.Str.strSliceIndices none none (-1) z.length).filterMap (z.cps[·]?)).toArray⟩ : Str) = revT z := by
  rw [PyProof.Rows.picked_rev, PySem.W.krv_range, List.filterMap_reverse]
  have := PySem.W.krv_all z.cps
  unfold revT
  rw [show z.length = z.cps.size from rfl, this]
section
variable {X : Cx}
def tRevS (te : TE) : TE := fun σ H Q => te σ H fun x H1 => ∃ z, x = .str z ∧ z.length ≤ sizeLine ∧ Q (.str (revT z)) H1
theorem pe_revS {e : Expr} {te : TE} {k : Nat} {p1 p2 p3 pos : Pos} (he : PE X e te) : PE X (.Subscript e (.Slice none none (some (.UnaryOp .USub (.Constant (.int 1) k p1) p2)) p3) pos) (tRevS te) := by
  refine ⟨fun pins s σ H Q I h => ?_⟩
  refine Subscript_ (thn (he.run pins s σ H _ I h) fun v s1 ⟨x, H1, I1, r1, q1⟩ => ?_)
  obtain ⟨z, ex, hz, q⟩ := q1
  subst ex
  obtain ⟨t, rfl⟩ := r1
  have hst : PO X (some (.UnaryOp .USub (.Constant (.int 1) k p1) p2)) (tPart (tUn (rU fun i => .int (-i)) (tC (.int 1)))) := po_some (pe_un un_neg pe_int)
  refine wpAny_Slice (thn (po_none.run pins s1 σ H1 (fun o H2 => o = none ∧ H2 = H1) I1 ⟨rfl, rfl⟩) fun vl s2 ⟨l, H2, I2, pl, el, e2⟩ => ?_)
  subst el e2
  refine thn (po_none.run pins s2 σ H2 (fun o H3 => o = none ∧ H3 = H2) I2 ⟨rfl, rfl⟩) fun vu s3 ⟨u, H3, I3, pu, eu, e3⟩ => ?_
  subst eu e3
  refine thn (hst.run pins s3 σ H3 (fun o H4 => o = some (-1) ∧ H4 = H3) I3 ⟨1, rfl, -1, rfl, rfl, rfl⟩) fun vs s4 ⟨o, H4, I4, ps, eo, e4⟩ => ?_
  subst eo e4
  have I5 : Inv X pins σ H4 { s4 with heap := s4.heap.push { cls := .type "slice", data := .fields #[vl, vu, vs] } } := I4.kept (t' := s4.toks) fun b ob q => Heap.get?_push_of_some _ q
  obtain ⟨l', rfl, el⟩ := IsPart.raw pl
  obtain ⟨u', rfl, eu⟩ := IsPart.raw pu
  obtain ⟨w', rfl, ew⟩ := IsPart.raw ps
  refine tail_any (ops := [.ref s4.heap.objs.size, .str z t]) (typeIs_str _ _ _) (F.slot_str_getitem.lookup) ?_ (by with_unfolding_all rfl)
  have e1 : (w'.map (·.1)).getD 1 = -1 := by rw [ew]; rfl
  refine wpAny_getItem_str_slice (l := l') (u := u') (st := w') ⟨_, Heap.get?_push_size _ rfl, rfl, rfl⟩ (by rw [e1]; decide) ?_
  have e2 : sliceMade z t l' u' w' = .str (revT z) := by
    unfold sliceMade slicePicked
    rw [e1, el, eu, pick_rev]
    rfl
  rw [e2]
  exact ⟨by rw [revT_len]; exact hz, .str _, H4, I5.tok _, ⟨_, rfl⟩, q⟩
end
end NK

/-! Texts of places, in plain Lean. -/
namespace NK
open PySem PySem.Spec PyProof.Rows L2 NA TL
def sgn : Str := "abcdefghijklmnopqrstuvwxyz0123456789"
def isNm (z : Str) : Bool := decide (1 ≤ z.length) && decide (z.length ≤ 8) && z.cps.toList.all fun c => decide (c ∈ sgn.cps.toList)
def Sx (l : List Nat) : Str := ⟨l.toArray⟩
theorem tl_Sx (l : List Nat) : tl (Sx l) = l := rfl
theorem Sx_len (l : List Nat) : (Sx l).length = l.length := by rw [len_tl]; rfl
/-- a row of signs cut at each slash -/
def spt : List Nat → List (List Nat)
  | [] => [[]]
  | c :: r => if c = 47 then [] :: spt r else match spt r with
    | [] => [[c]]
    | x :: xs => (c :: x) :: xs
theorem spt_ne : ∀ r, spt r ≠ []
  | [] => by simp [spt]
  | c :: r => by
    unfold spt
    split
    · simp
    · split <;> simp
theorem spt_none : ∀ {r : List Nat}, 47 ∉ r → spt r = [r]
  | [], _ => rfl
  | c :: r, h => by
    have h1 : c ≠ 47 := fun e => h (by simp [e])
    have h2 : 47 ∉ r := fun e => h (by simp [e])
    unfold spt
    rw [if_neg h1, spt_none h2]
theorem spt_some : ∀ {a b : List Nat}, 47 ∉ a → spt (a ++ 47 :: b) = a :: spt b
  | [], b, _ => by simp [spt]
  | c :: r, b, h => by
    have h1 : c ≠ 47 := fun e => h (by simp [e])
    have h2 : 47 ∉ r := fun e => h (by simp [e])
    show (if c = 47 then [] :: spt (r ++ 47 :: b) else match spt (r ++ 47 :: b) with
      | [] => [[c]]
      | x :: xs => (c :: x) :: xs) = _
    rw [if_neg h1, spt_some h2]
theorem slash_tl : tl ("/" : Str) = [47] := by decide +kernel
theorem slash_Sx : ("/" : Str) = Sx [47] := ext_tl slash_tl
theorem part_none {r : List Nat} (h : 47 ∉ r) : Txt.partition (Sx r) "/" = (Sx r, Str.empty, Str.empty) := partition_none slash_tl (a := Sx r) h
theorem part_some {a b : List Nat} (h : 47 ∉ a) : Txt.partition (Sx (a ++ 47 :: b)) "/" = (Sx a, ("/" : Str), Sx b) := by
  have e : Sx (a ++ 47 :: b) = Sx a ++ "/" ++ Sx b := ext_tl (by rw [tl_append, tl_append, slash_tl]; simp [tl_Sx])
  rw [e]
  exact partition_app slash_tl (a := Sx a) h
theorem first_slash {r : List Nat} (h : 47 ∈ r) : ∃ a b, r = a ++ 47 :: b ∧ 47 ∉ a := by
  obtain ⟨a, b, e, h⟩ := List.eq_append_cons_of_mem h
  exact ⟨a, b, e, h⟩
/-- what names_in gives -/
def namesIn (z : Str) : List Str := if z = "/" then [] else (spt ((tl z).drop 1)).map Sx
/-- the text of names -/
def txt (ns : List Str) : Str := "/" ++ Txt.join "/" ns
def isTx (z : Str) : Bool := decide ((tl z).take 1 = [47]) && decide ((namesIn z).length ≤ 8) && (namesIn z).all isNm
/-- good names: what a place holds -/
def Good (ns : List Str) : Prop := ns.length ≤ 8 ∧ ∀ n ∈ ns, isNm n = true
theorem sgn_tl : tl sgn = [97, 98, 99, 100, 101, 102, 103, 104, 105, 106, 107, 108, 109, 110, 111, 112, 113, 114, 115, 116, 117, 118, 119, 120, 121, 122, 48, 49, 50, 51, 52, 53, 54, 55, 56, 57] := by decide +kernel
theorem isNm_iff {z : Str} : isNm z = true ↔ 1 ≤ z.length ∧ z.length ≤ 8 ∧ ∀ c ∈ tl z, c ∈ tl sgn := by
  unfold isNm
  simp only [Bool.and_eq_true, decide_eq_true_eq, List.all_eq_true]
  constructor
  · rintro ⟨⟨a, b⟩, c⟩; exact ⟨a, b, c⟩
  · rintro ⟨a, b, c⟩; exact ⟨⟨a, b⟩, c⟩
theorem isNm_slash {z : Str} (h : isNm z = true) : 47 ∉ tl z := fun e => by
  have := (isNm_iff.mp h).2.2 _ e
  rw [sgn_tl] at this
  revert this
  decide
theorem join_tl (ns : List Str) : tl (Txt.join "/" ns) = joinL [47] (ns.map tl) := by rw [join_eq, tl_join, slash_tl]
theorem txt_tl (ns : List Str) : tl (txt ns) = 47 :: joinL [47] (ns.map tl) := by
  unfold txt
  rw [tl_append, slash_tl, join_tl]
  rfl
theorem spt_join : ∀ {ps : List (List Nat)}, ps ≠ [] → (∀ p ∈ ps, 47 ∉ p) → spt (joinL [47] ps) = ps
  | [], h, _ => absurd rfl h
  | [p], _, hp => by
    rw [show joinL [47] [p] = p from by simp [joinL]]
    exact spt_none (hp p (by simp))
  | p :: q :: r, _, hp => by
    rw [show joinL [47] (p :: q :: r) = p ++ 47 :: joinL [47] (q :: r) from by simp [joinL]]
    rw [spt_some (hp p (by simp)), spt_join (by simp) fun z hz => hp z (List.mem_cons_of_mem _ hz)]
theorem joinL_nil : joinL [47] [] = [] := by simp [joinL]
theorem joinL_len : ∀ ps : List (List Nat), (∀ p ∈ ps, p.length ≤ 8) → (joinL [47] ps).length ≤ 9 * ps.length
  | [], _ => by simp [joinL]
  | [p], h => by
    have := h p (by simp)
    simp [joinL]; omega
  | p :: q :: r, h => by
    have h1 := h p (by simp)
    have h2 := joinL_len (q :: r) fun z hz => h z (List.mem_cons_of_mem _ hz)
    rw [show joinL [47] (p :: q :: r) = p ++ 47 :: joinL [47] (q :: r) from by simp [joinL]]
    simp only [List.length_append, List.length_cons] at *
    omega
theorem joinL_ne : ∀ {ps : List (List Nat)}, ps ≠ [] → (∀ p ∈ ps, p ≠ []) → joinL [47] ps ≠ []
  | [], h, _ => absurd rfl h
  | [p], _, hp => by
    rw [show joinL [47] [p] = p from by simp [joinL]]
    exact hp p (by simp)
  | p :: q :: r, _, hp => by
    rw [show joinL [47] (p :: q :: r) = p ++ 47 :: joinL [47] (q :: r) from by simp [joinL]]
    simp
theorem names_txt {ns : List Str} (h : ∀ n ∈ ns, isNm n = true) : namesIn (txt ns) = ns := by
  unfold namesIn
  by_cases hn : ns = []
  · subst hn
    rw [if_pos (ext_tl (by rw [txt_tl, slash_tl]; simp [joinL_nil]))]
  · have hp : ∀ p ∈ ns.map tl, p ≠ [] ∧ 47 ∉ p := fun p hp => by
      obtain ⟨n, hn, rfl⟩ := List.mem_map.mp hp
      have := (isNm_iff.mp (h n hn)).1
      rw [len_tl] at this
      exact ⟨fun e => by rw [e] at this; simp at this, isNm_slash (h n hn)⟩
    have hne : ns.map tl ≠ [] := fun e => hn (List.map_eq_nil_iff.mp e)
    rw [if_neg, txt_tl]
    · show (spt (joinL [47] (ns.map tl))).map Sx = ns
      rw [spt_join hne fun p h => (hp p h).2, List.map_map]
      have : ∀ l : List Str, l.map (Sx ∘ tl) = l := fun l => by
        induction l with
        | nil => rfl
        | cons a l ih => rw [List.map_cons, ih]; rfl
      exact this ns
    · intro e
      have e2 := congrArg tl e
      rw [txt_tl, slash_tl] at e2
      exact joinL_ne hne (fun p h => (hp p h).1) (by simpa using e2)
theorem txt_len {ns : List Str} (h : Good ns) : (txt ns).length ≤ 73 := by
  rw [len_tl, txt_tl]
  have := joinL_len (ns.map tl) fun p hp => by
    obtain ⟨n, hn, rfl⟩ := List.mem_map.mp hp
    rw [← len_tl]
    exact (isNm_iff.mp (h.2 n hn)).2.1
  rw [List.length_map] at this
  have := h.1
  simp only [List.length_cons]
  omega
theorem isTx_txt {ns : List Str} (h : Good ns) : isTx (txt ns) = true := by
  unfold isTx
  rw [names_txt h.2, txt_tl]
  simp only [Bool.and_eq_true, decide_eq_true_eq, List.all_eq_true]
  exact ⟨⟨rfl, h.1⟩, h.2⟩
theorem good_nil : Good [] := ⟨by simp, fun _ h => nomatch h⟩
theorem Good.take {ns : List Str} (h : Good ns) (k : Nat) : Good (ns.take k) := ⟨by have := h.1; rw [List.length_take]; omega, fun n hn => h.2 n (List.mem_of_mem_take hn)⟩
theorem Good.snoc {ns : List Str} (h : Good ns) (hl : ns.length < 8) {n : Str} (hn : isNm n = true) : Good (ns ++ [n]) := ⟨by rw [List.length_append, List.length_singleton]; omega, fun m hm => by
  rcases List.mem_append.mp hm with e | e
  · exact h.2 m e
  · rw [List.mem_singleton.mp e]; exact hn⟩
theorem cut_from (z : Str) (k : Nat) : cutS z (some (k : Int)) none = Sx ((tl z).drop k) := by
  apply ext_tl
  show (((tl z).drop (HT.sIx z.length 0 (some (k : Int)))).take (HT.sIx z.length z.length none - HT.sIx z.length 0 (some (k : Int)))) = (tl z).drop k
  rw [HT.sIx_nat, HT.sIx_none, len_tl]
  by_cases h : k ≤ (tl z).length
  · rw [Nat.min_eq_left h, List.take_of_length_le (by rw [List.length_drop]; exact Nat.le_refl _)]
  · rw [Nat.min_eq_right (by omega), List.drop_of_length_le (Nat.le_refl _), List.drop_of_length_le (by omega)]
    simp
theorem cut_to (z : Str) (k : Nat) : cutS z none (some (k : Int)) = Sx ((tl z).take k) := by
  apply ext_tl
  show (((tl z).drop (HT.sIx z.length 0 none)).take (HT.sIx z.length z.length (some (k : Int)) - HT.sIx z.length 0 none)) = (tl z).take k
  rw [HT.sIx_nat, HT.sIx_none, len_tl, List.drop_zero, Nat.sub_zero]
  by_cases h : k ≤ (tl z).length
  · rw [Nat.min_eq_left h]
  · rw [Nat.min_eq_right (by omega), List.take_of_length_le (Nat.le_refl _), List.take_of_length_le (by omega)]
end NK
namespace NK
open PySem PySem.Spec PyProof.Rows L2 NA TL
end NK

namespace NK
open PySem PySem.Spec PyProof.Rows L2 NA
/-! ### the text by places -/
def top (i : Nat) : Stmt := PySem.Challenge.pw_nearestsays_k94_table_texts_refused.main.body.getD i (.Pass ⟨0, 0, 0, 0⟩)
abbrev s_is_name : Stmt := top 4
abbrev s_BadPlace_init : Stmt := inClass (top 8) 0
abbrev s_BadCells_init : Stmt := inClass (top 10) 0
abbrev s_TooMany_init : Stmt := inClass (top 12) 0
abbrev s_BadText_init : Stmt := inClass (top 13) 0
abbrev s_is_text : Stmt := top 16
abbrev s_names_in : Stmt := top 17
abbrev s_text_of : Stmt := top 18
abbrev s_Place_init : Stmt := inClass (top 19) 1
abbrev s_Place_read : Stmt := inClass (top 19) 2
abbrev s_parts_at : Stmt := top 20
abbrev s_text_at : Stmt := top 21
abbrev s_need_columns : Stmt := top 25
abbrev s_need_keys : Stmt := top 26
abbrev s_is_cells : Stmt := top 27
abbrev s_joined_rows : Stmt := top 28
abbrev s_Table_init : Stmt := inClass (top 29) 2
abbrev s_Table_places : Stmt := inClass (top 29) 4
abbrev s_Table_getitem : Stmt := inClass (top 29) 5
abbrev s_Table_setitem : Stmt := inClass (top 29) 6
abbrev s_Table_contains : Stmt := inClass (top 29) 10
abbrev s_Table_len : Stmt := inClass (top 29) 11
abbrev s_Table_bool : Stmt := inClass (top 29) 12
abbrev s_Table_cells : Stmt := inClass (top 29) 19
abbrev s_Table_eq : Stmt := inClass (top 29) 24
abbrev s_row_text : Stmt := top 31
abbrev s_show_table : Stmt := top 32
abbrev s_need : Stmt := top 33
abbrev s_words_of : Stmt := top 34
abbrev s_columns_in : Stmt := top 35
abbrev s_cells_in : Stmt := top 36
abbrev s_Sheet_init : Stmt := inClass (top 37) 0
abbrev s_Sheet_is_room : Stmt := inClass (top 37) 1
abbrev s_Sheet_add_row : Stmt := inClass (top 37) 2
abbrev s_Sheet_table_on : Stmt := inClass (top 37) 4
abbrev s_read_table : Stmt := top 38
abbrev s_law_pen : Stmt := top 40
abbrev s_law_draw : Stmt := top 41
abbrev s_law_pick : Stmt := top 42
abbrev s_law_below : Stmt := top 43
abbrev s_law_names : Stmt := top 44
abbrev s_law_places : Stmt := top 45
abbrev s_law_drawn : Stmt := top 46
abbrev s_law_line : Stmt := top 47
abbrev s_law_text : Stmt := top 48
abbrev s_law_is_name : Stmt := top 49
abbrev s_law_is_place : Stmt := top 50
abbrev s_law_row_fault : Stmt := top 51
abbrev s_law_head_fault : Stmt := top 52
abbrev s_law_bent : Stmt := top 53
abbrev s_law_fault : Stmt := top 54
abbrev s_law_heard : Stmt := top 55
abbrev s_law_many : Stmt := top 56
abbrev s_law : Stmt := top 57
theorem sc_is_name : FnScope ["value", "sign"] ["value"] (defScope s_is_name) := ⟨rfl, rfl, rfl, by decide +kernel, rfl, by decide +kernel, by decide +kernel⟩
theorem sc_is_text : FnScope ["value", "names", "name"] ["value"] (defScope s_is_text) := ⟨rfl, rfl, rfl, by decide +kernel, rfl, by decide +kernel, by decide +kernel⟩
theorem sc_names_in : FnScope ["text", "names", "left", "slash", "name"] ["text"] (defScope s_names_in) := ⟨rfl, rfl, rfl, by decide +kernel, rfl, by decide +kernel, by decide +kernel⟩
theorem sc_text_of : FnScope ["names"] ["names"] (defScope s_text_of) := ⟨rfl, rfl, rfl, by decide +kernel, rfl, by decide +kernel, by decide +kernel⟩
theorem sc_parts_at : FnScope ["value"] ["value"] (defScope s_parts_at) := ⟨rfl, rfl, rfl, by decide +kernel, rfl, by decide +kernel, by decide +kernel⟩
theorem sc_text_at : FnScope ["value"] ["value"] (defScope s_text_at) := ⟨rfl, rfl, rfl, by decide +kernel, rfl, by decide +kernel, by decide +kernel⟩
theorem sc_need_columns : FnScope ["columns", "k", "column"] ["columns"] (defScope s_need_columns) := ⟨rfl, rfl, rfl, by decide +kernel, rfl, by decide +kernel, by decide +kernel⟩
theorem sc_need_keys : FnScope ["rows", "wrong", "key"] ["rows"] (defScope s_need_keys) := ⟨rfl, rfl, rfl, by decide +kernel, rfl, by decide +kernel, by decide +kernel⟩
theorem sc_is_cells : FnScope ["columns", "value", "column"] ["columns", "value"] (defScope s_is_cells) := ⟨rfl, rfl, rfl, by decide +kernel, rfl, by decide +kernel, by decide +kernel⟩
theorem sc_joined_rows : FnScope ["columns", "present", "rows", "fresh", "text", "found", "key"] ["columns", "present", "rows"] (defScope s_joined_rows) := ⟨rfl, rfl, rfl, by decide +kernel, rfl, by decide +kernel, by decide +kernel⟩
theorem sc_Table_init : FnScope ["self", "columns", "rows"] ["self", "columns", "rows"] (defScope s_Table_init) := ⟨rfl, rfl, rfl, by decide +kernel, rfl, by decide +kernel, by decide +kernel⟩
theorem sc_Table_places : FnScope ["self", "text"] ["self"] (defScope s_Table_places) := ⟨rfl, rfl, rfl, by decide +kernel, rfl, by decide +kernel, by decide +kernel⟩
theorem sc_Table_getitem : FnScope ["self", "at", "text"] ["self", "at"] (defScope s_Table_getitem) := ⟨rfl, rfl, rfl, by decide +kernel, rfl, by decide +kernel, by decide +kernel⟩
theorem sc_row_text : FnScope ["word", "place", "table", "words", "cells", "column"] ["word", "place", "table"] (defScope s_row_text) := ⟨rfl, rfl, rfl, by decide +kernel, rfl, by decide +kernel, by decide +kernel⟩
theorem sc_show_table : FnScope ["table", "lines", "place"] ["table"] (defScope s_show_table) := ⟨rfl, rfl, rfl, by decide +kernel, rfl, by decide +kernel, by decide +kernel⟩
theorem sc_need : FnScope ["is_right", "line", "word"] ["is_right", "line", "word"] (defScope s_need) := ⟨rfl, rfl, rfl, by decide +kernel, rfl, by decide +kernel, by decide +kernel⟩
theorem sc_words_of : FnScope ["text", "line"] ["text"] (defScope s_words_of) := ⟨rfl, rfl, rfl, by decide +kernel, rfl, by decide +kernel, by decide +kernel⟩
theorem sc_columns_in : FnScope ["words", "columns", "at", "column"] ["words"] (defScope s_columns_in) := ⟨rfl, rfl, rfl, by decide +kernel, rfl, by decide +kernel, by decide +kernel⟩
theorem sc_cells_in : FnScope ["line", "words", "columns", "cells", "free", "at", "word"] ["line", "words", "columns"] (defScope s_cells_in) := ⟨rfl, rfl, rfl, by decide +kernel, rfl, by decide +kernel, by decide +kernel⟩
theorem sc_Sheet_init : FnScope ["self", "columns"] ["self", "columns"] (defScope s_Sheet_init) := ⟨rfl, rfl, rfl, by decide +kernel, rfl, by decide +kernel, by decide +kernel⟩
theorem sc_Sheet_is_room : FnScope ["self", "place", "known"] ["self", "place"] (defScope s_Sheet_is_room) := ⟨rfl, rfl, rfl, by decide +kernel, rfl, by decide +kernel, by decide +kernel⟩
theorem sc_Sheet_add_row : FnScope ["self", "side", "line", "words", "rows", "place", "other"] ["self", "side", "line", "words"] (defScope s_Sheet_add_row) := ⟨rfl, rfl, rfl, by decide +kernel, rfl, by decide +kernel, by decide +kernel⟩
theorem sc_Sheet_table_on : FnScope ["self", "side"] ["self", "side"] (defScope s_Sheet_table_on) := ⟨rfl, rfl, rfl, by decide +kernel, rfl, by decide +kernel, by decide +kernel⟩
theorem sc_read_table : FnScope ["text", "lines", "sheet", "line", "words"] ["text"] (defScope s_read_table) := ⟨rfl, rfl, rfl, by decide +kernel, rfl, by decide +kernel, by decide +kernel⟩
theorem sc_law_pen : FnScope ["_law_script"] ["_law_script"] (defScope s_law_pen) := ⟨rfl, rfl, rfl, by decide +kernel, rfl, by decide +kernel, by decide +kernel⟩
theorem sc_law_draw : FnScope ["_law_pen_here", "_law_many_here", "_law_digit", "_law_at", "_law_cell", "_law_great", "_law_blend"] ["_law_pen_here", "_law_many_here"] (defScope s_law_draw) := ⟨rfl, rfl, rfl, by decide +kernel, rfl, by decide +kernel, by decide +kernel⟩
theorem sc_law_pick : FnScope ["_law_pen_here", "_law_some"] ["_law_pen_here", "_law_some"] (defScope s_law_pick) := ⟨rfl, rfl, rfl, by decide +kernel, rfl, by decide +kernel, by decide +kernel⟩
theorem sc_law_below : FnScope ["_law_place", "_law_name"] ["_law_place", "_law_name"] (defScope s_law_below) := ⟨rfl, rfl, rfl, by decide +kernel, rfl, by decide +kernel, by decide +kernel⟩
theorem sc_law_names : FnScope ["_law_pen_here", "_law_left", "_law_k"] ["_law_pen_here"] (defScope s_law_names) := ⟨rfl, rfl, rfl, by decide +kernel, rfl, by decide +kernel, by decide +kernel⟩
theorem sc_law_places : FnScope ["_law_pen_here", "_law_names_here", "_law_most", "_law_found", "_law_turn", "_law_above", "_law_place"] ["_law_pen_here", "_law_names_here", "_law_most"] (defScope s_law_places) := ⟨rfl, rfl, rfl, by decide +kernel, rfl, by decide +kernel, by decide +kernel⟩
theorem sc_law_drawn : FnScope ["_law_pen_here", "_law_most", "_law_names_here", "_law_columns", "_law_rows", "_law_place", "_law_cells", "_law_column"] ["_law_pen_here", "_law_most"] (defScope s_law_drawn) := ⟨rfl, rfl, rfl, by decide +kernel, rfl, by decide +kernel, by decide +kernel⟩
theorem sc_law_line : FnScope ["_law_word", "_law_place", "_law_cells", "_law_columns", "_law_words", "_law_column"] ["_law_word", "_law_place", "_law_cells", "_law_columns"] (defScope s_law_line) := ⟨rfl, rfl, rfl, by decide +kernel, rfl, by decide +kernel, by decide +kernel⟩
theorem sc_law_text : FnScope ["_law_columns", "_law_rows", "_law_lines", "_law_place"] ["_law_columns", "_law_rows"] (defScope s_law_text) := ⟨rfl, rfl, rfl, by decide +kernel, rfl, by decide +kernel, by decide +kernel⟩
theorem sc_law_is_name : FnScope ["_law_word", "_law_signs", "_law_sign"] ["_law_word"] (defScope s_law_is_name) := ⟨rfl, rfl, rfl, by decide +kernel, rfl, by decide +kernel, by decide +kernel⟩
theorem sc_law_is_place : FnScope ["_law_word", "_law_names_here", "_law_name"] ["_law_word"] (defScope s_law_is_place) := ⟨rfl, rfl, rfl, by decide +kernel, rfl, by decide +kernel, by decide +kernel⟩
theorem sc_law_row_fault : FnScope ["_law_words", "_law_columns", "_law_ahead", "_law_known", "_law_last", "_law_at"] ["_law_words", "_law_columns", "_law_ahead", "_law_known"] (defScope s_law_row_fault) := ⟨rfl, rfl, rfl, by decide +kernel, rfl, by decide +kernel, by decide +kernel⟩
theorem sc_law_head_fault : FnScope ["_law_words", "_law_at"] ["_law_words"] (defScope s_law_head_fault) := ⟨rfl, rfl, rfl, by decide +kernel, rfl, by decide +kernel, by decide +kernel⟩
theorem sc_law_bent : FnScope ["_law_pen_here", "_law_text_here", "_law_lines", "_law_way", "_law_at", "_law_words", "_law_spot", "_law_other", "_law_held", "_law_odd", "_law_here", "_law_new", "_law_more", "_law_sign", "_law_cut"] ["_law_pen_here", "_law_text_here"] (defScope s_law_bent) := ⟨rfl, rfl, rfl, by decide +kernel, rfl, by decide +kernel, by decide +kernel⟩
theorem sc_law_fault : FnScope ["_law_text_here", "_law_line_here", "_law_lines", "_law_places_here", "_law_word"] ["_law_text_here"] (defScope s_law_fault) := ⟨rfl, rfl, rfl, by decide +kernel, rfl, by decide +kernel, by decide +kernel⟩
theorem sc_law_heard : FnScope ["_law_text_here", "_law_caught", "error"] ["_law_text_here"] (defScope s_law_heard) := ⟨rfl, rfl, rfl, by decide +kernel, rfl, by decide +kernel, by decide +kernel⟩
theorem sc_law_many : FnScope ["_law_pen_here", "_law_signs", "_law_places_here", "_law_lines", "_law_some", "_law_last", "_law_sign", "_law_place"] ["_law_pen_here"] (defScope s_law_many) := ⟨rfl, rfl, rfl, by decide +kernel, rfl, by decide +kernel, by decide +kernel⟩
theorem sc_law : FnScope ["_law_script", "_law_pen_here", "_law_turn", "_law_columns", "_law_rows", "_law_text_here", "_law_odd", "_law_due", "_law_heard_here"] ["_law_script"] (defScope s_law) := ⟨rfl, rfl, rfl, by decide +kernel, rfl, by decide +kernel, by decide +kernel⟩
/-! ### the addresses, the facts -/
structure Ad where
  c_Place : Addr
  c_Table : Addr
  c_Sheet : Addr
  c_TableError : Addr
  c_BadPlace : Addr
  c_BadCells : Addr
  c_TooMany : Addr
  c_BadText : Addr
  f_BadPlace_init : Addr
  f_BadCells_init : Addr
  f_TooMany_init : Addr
  f_BadText_init : Addr
  f_is_name : Addr
  f_is_text : Addr
  f_names_in : Addr
  f_text_of : Addr
  f_Place_init : Addr
  f_Place_read : Addr
  p_Place_read : Addr
  f_parts_at : Addr
  f_text_at : Addr
  f_need_columns : Addr
  f_need_keys : Addr
  f_is_cells : Addr
  f_joined_rows : Addr
  f_Table_init : Addr
  f_Table_places : Addr
  p_Table_places : Addr
  f_Table_getitem : Addr
  f_Table_setitem : Addr
  f_Table_contains : Addr
  f_Table_len : Addr
  f_Table_bool : Addr
  f_Table_cells : Addr
  f_Table_eq : Addr
  f_row_text : Addr
  f_show_table : Addr
  f_need : Addr
  f_words_of : Addr
  f_columns_in : Addr
  f_cells_in : Addr
  f_Sheet_init : Addr
  f_Sheet_is_room : Addr
  f_Sheet_add_row : Addr
  f_Sheet_table_on : Addr
  f_read_table : Addr
  f_law_pen : Addr
  f_law_draw : Addr
  f_law_pick : Addr
  f_law_below : Addr
  f_law_names : Addr
  f_law_places : Addr
  f_law_drawn : Addr
  f_law_line : Addr
  f_law_text : Addr
  f_law_is_name : Addr
  f_law_is_place : Addr
  f_law_row_fault : Addr
  f_law_head_fault : Addr
  f_law_bent : Addr
  f_law_fault : Addr
  f_law_heard : Addr
  f_law_many : Addr
  f_law : Addr
structure Tx (P : Program) (K : PySem.W.Frag) (mg : Str → Option Value) (A : Ad) : Prop where
  mg_Place : mg "Place" = some (.ref A.c_Place)
  pg_Place : PySem.W.plainGet K A.c_Place Str.empty = true
  hd_Place : PySem.W.hasDictIn K A.c_Place = true
  po_Place : PySem.W.plainOver K A.c_Place = true
  sa_Place : PySem.W.findIn K (.ref A.c_Place) "__setattr__" = some (some (.builtin "object.__setattr__"))
  mk_Place : PySem.W.makesIn K A.c_Place = true
  kc_Place : PySem.W.keepIn K (.ref A.c_Place) = true
  sf_Place : PySem.W.selfFirst K A.c_Place = true
  ca_Place : PySem.W.findIn K (.ref A.c_Place) "__class__" = some (some (.builtin "object.__class__"))
  cn_Place : PySem.W.specialIn K (.builtin "object.__class__") "__get__" = some (some (.builtin "getset_descriptor.__get__"))
  ct_Place : PySem.W.takesIn K (.builtin "object.__class__") = some true
  cm_Place : PySem.W.mroIn K A.c_Place (.type "object") = some true
  ob_Place : PySem.W.subIn K (.ref A.c_Place) (.type "object") = some true
  ne_Place : PySem.W.findIn K (.ref A.c_Place) "__ne__" = some (some (.builtin "object.__ne__"))
  rd_Place : PySem.W.readsIn K A.c_Place (.type "type") = true
  ga_Place : PySem.W.specialIn K (.ref A.c_Place) "__getattribute__" = some (some (.builtin "type.__getattribute__"))
  np_Place : PySem.W.findIn K (.ref A.c_Place) "parts" = some none
  ic_Place : PySem.W.isClsIn K A.c_Place = true
  ty_Place : PySem.W.typeIn K (.ref A.c_Place) = some (.type "type")
  most_Place : ∃ t, PySem.W.findCls K (.ref A.c_Place) (.type "type") "MOST" = some (.val (.int 8 t))
  ra_Place : PySem.W.findIn K (.ref A.c_Place) "__radd__" = some none
  su_Place : PySem.W.subIn K (.type "str") (.ref A.c_Place) = some false
  suNoneType_Place : PySem.W.subIn K (.type "NoneType") (.ref A.c_Place) = some false
  subool_Place : PySem.W.subIn K (.type "bool") (.ref A.c_Place) = some false
  suint_Place : PySem.W.subIn K (.type "int") (.ref A.c_Place) = some false
  sulist_Place : PySem.W.subIn K (.type "list") (.ref A.c_Place) = some false
  sutuple_Place : PySem.W.subIn K (.type "tuple") (.ref A.c_Place) = some false
  sudict_Place : PySem.W.subIn K (.type "dict") (.ref A.c_Place) = some false
  sustr_Place : PySem.W.subIn K (.ref A.c_Place) (.type "str") = some false
  mg_Table : mg "Table" = some (.ref A.c_Table)
  pg_Table : PySem.W.plainGet K A.c_Table Str.empty = true
  hd_Table : PySem.W.hasDictIn K A.c_Table = true
  po_Table : PySem.W.plainOver K A.c_Table = true
  sa_Table : PySem.W.findIn K (.ref A.c_Table) "__setattr__" = some (some (.builtin "object.__setattr__"))
  mk_Table : PySem.W.makesIn K A.c_Table = true
  kc_Table : PySem.W.keepIn K (.ref A.c_Table) = true
  sf_Table : PySem.W.selfFirst K A.c_Table = true
  ca_Table : PySem.W.findIn K (.ref A.c_Table) "__class__" = some (some (.builtin "object.__class__"))
  cn_Table : PySem.W.specialIn K (.builtin "object.__class__") "__get__" = some (some (.builtin "getset_descriptor.__get__"))
  ct_Table : PySem.W.takesIn K (.builtin "object.__class__") = some true
  cm_Table : PySem.W.mroIn K A.c_Table (.type "object") = some true
  ob_Table : PySem.W.subIn K (.ref A.c_Table) (.type "object") = some true
  ne_Table : PySem.W.findIn K (.ref A.c_Table) "__ne__" = some (some (.builtin "object.__ne__"))
  rd_Table : PySem.W.readsIn K A.c_Table (.type "type") = true
  ga_Table : PySem.W.specialIn K (.ref A.c_Table) "__getattribute__" = some (some (.builtin "type.__getattribute__"))
  ncolumns_Table : PySem.W.findIn K (.ref A.c_Table) "columns" = some none
  nrow_of_Table : PySem.W.findIn K (.ref A.c_Table) "row_of" = some none
  ic_Table : PySem.W.isClsIn K A.c_Table = true
  ty_Table : PySem.W.typeIn K (.ref A.c_Table) = some (.type "type")
  nq_Table : PySem.W.noSeq K A.c_Table = true
  most_Table : ∃ t, PySem.W.findCls K (.ref A.c_Table) (.type "type") "MOST" = some (.val (.int 40 t))
  suNoneType_Table : PySem.W.subIn K (.type "NoneType") (.ref A.c_Table) = some false
  subool_Table : PySem.W.subIn K (.type "bool") (.ref A.c_Table) = some false
  suint_Table : PySem.W.subIn K (.type "int") (.ref A.c_Table) = some false
  sustr_Table : PySem.W.subIn K (.type "str") (.ref A.c_Table) = some false
  sulist_Table : PySem.W.subIn K (.type "list") (.ref A.c_Table) = some false
  sutuple_Table : PySem.W.subIn K (.type "tuple") (.ref A.c_Table) = some false
  sudict_Table : PySem.W.subIn K (.type "dict") (.ref A.c_Table) = some false
  dnNoneType_Table : PySem.W.subIn K (.ref A.c_Table) (.type "NoneType") = some false
  dnbool_Table : PySem.W.subIn K (.ref A.c_Table) (.type "bool") = some false
  dnint_Table : PySem.W.subIn K (.ref A.c_Table) (.type "int") = some false
  dnstr_Table : PySem.W.subIn K (.ref A.c_Table) (.type "str") = some false
  dnlist_Table : PySem.W.subIn K (.ref A.c_Table) (.type "list") = some false
  dntuple_Table : PySem.W.subIn K (.ref A.c_Table) (.type "tuple") = some false
  dndict_Table : PySem.W.subIn K (.ref A.c_Table) (.type "dict") = some false
  widest_Table : ∃ t, PySem.W.findCls K (.ref A.c_Table) (.type "type") "WIDEST" = some (.val (.int 3 t))
  mg_Sheet : mg "Sheet" = some (.ref A.c_Sheet)
  pg_Sheet : PySem.W.plainGet K A.c_Sheet Str.empty = true
  hd_Sheet : PySem.W.hasDictIn K A.c_Sheet = true
  po_Sheet : PySem.W.plainOver K A.c_Sheet = true
  sa_Sheet : PySem.W.findIn K (.ref A.c_Sheet) "__setattr__" = some (some (.builtin "object.__setattr__"))
  mk_Sheet : PySem.W.makesIn K A.c_Sheet = true
  kc_Sheet : PySem.W.keepIn K (.ref A.c_Sheet) = true
  sf_Sheet : PySem.W.selfFirst K A.c_Sheet = true
  ca_Sheet : PySem.W.findIn K (.ref A.c_Sheet) "__class__" = some (some (.builtin "object.__class__"))
  cn_Sheet : PySem.W.specialIn K (.builtin "object.__class__") "__get__" = some (some (.builtin "getset_descriptor.__get__"))
  ct_Sheet : PySem.W.takesIn K (.builtin "object.__class__") = some true
  cm_Sheet : PySem.W.mroIn K A.c_Sheet (.type "object") = some true
  ob_Sheet : PySem.W.subIn K (.ref A.c_Sheet) (.type "object") = some true
  ne_Sheet : PySem.W.findIn K (.ref A.c_Sheet) "__ne__" = some (some (.builtin "object.__ne__"))
  rd_Sheet : PySem.W.readsIn K A.c_Sheet (.type "type") = true
  ga_Sheet : PySem.W.specialIn K (.ref A.c_Sheet) "__getattribute__" = some (some (.builtin "type.__getattribute__"))
  nwide_Sheet : PySem.W.findIn K (.ref A.c_Sheet) "wide" = some none
  nsides_Sheet : PySem.W.findIn K (.ref A.c_Sheet) "sides" = some none
  nsplit_at_Sheet : PySem.W.findIn K (.ref A.c_Sheet) "split_at" = some none
  nstage_Sheet : PySem.W.findIn K (.ref A.c_Sheet) "stage" = some none
  ic_Sheet : PySem.W.isClsIn K A.c_Sheet = true
  ty_Sheet : PySem.W.typeIn K (.ref A.c_Sheet) = some (.type "type")
  mg_TableError : mg "TableError" = some (.ref A.c_TableError)
  ga_TableError : PySem.W.findIn K (.ref A.c_TableError) "__getattribute__" = some (some (.builtin "BaseException.__getattribute__"))
  gg_TableError : PySem.W.findIn K (.ref A.c_TableError) "__getattr__" = some none
  be_TableError : PySem.W.subIn K (.ref A.c_TableError) (.type "BaseException") = some true
  hd_TableError : PySem.W.hasDictIn K A.c_TableError = true
  ca_TableError : PySem.W.findIn K (.ref A.c_TableError) "__class__" = some (some (.builtin "object.__class__"))
  ob_TableError : PySem.W.mroIn K A.c_TableError (.type "object") = some true
  ic_TableError : PySem.W.isClsIn K A.c_TableError = true
  ty_TableError : PySem.W.typeIn K (.ref A.c_TableError) = some (.type "type")
  mg_BadPlace : mg "BadPlace" = some (.ref A.c_BadPlace)
  ga_BadPlace : PySem.W.findIn K (.ref A.c_BadPlace) "__getattribute__" = some (some (.builtin "BaseException.__getattribute__"))
  gg_BadPlace : PySem.W.findIn K (.ref A.c_BadPlace) "__getattr__" = some none
  be_BadPlace : PySem.W.subIn K (.ref A.c_BadPlace) (.type "BaseException") = some true
  hd_BadPlace : PySem.W.hasDictIn K A.c_BadPlace = true
  ca_BadPlace : PySem.W.findIn K (.ref A.c_BadPlace) "__class__" = some (some (.builtin "object.__class__"))
  ob_BadPlace : PySem.W.mroIn K A.c_BadPlace (.type "object") = some true
  ic_BadPlace : PySem.W.isClsIn K A.c_BadPlace = true
  ty_BadPlace : PySem.W.typeIn K (.ref A.c_BadPlace) = some (.type "type")
  mg_BadCells : mg "BadCells" = some (.ref A.c_BadCells)
  ga_BadCells : PySem.W.findIn K (.ref A.c_BadCells) "__getattribute__" = some (some (.builtin "BaseException.__getattribute__"))
  gg_BadCells : PySem.W.findIn K (.ref A.c_BadCells) "__getattr__" = some none
  be_BadCells : PySem.W.subIn K (.ref A.c_BadCells) (.type "BaseException") = some true
  hd_BadCells : PySem.W.hasDictIn K A.c_BadCells = true
  ca_BadCells : PySem.W.findIn K (.ref A.c_BadCells) "__class__" = some (some (.builtin "object.__class__"))
  ob_BadCells : PySem.W.mroIn K A.c_BadCells (.type "object") = some true
  ic_BadCells : PySem.W.isClsIn K A.c_BadCells = true
  ty_BadCells : PySem.W.typeIn K (.ref A.c_BadCells) = some (.type "type")
  mg_TooMany : mg "TooMany" = some (.ref A.c_TooMany)
  ga_TooMany : PySem.W.findIn K (.ref A.c_TooMany) "__getattribute__" = some (some (.builtin "BaseException.__getattribute__"))
  gg_TooMany : PySem.W.findIn K (.ref A.c_TooMany) "__getattr__" = some none
  be_TooMany : PySem.W.subIn K (.ref A.c_TooMany) (.type "BaseException") = some true
  hd_TooMany : PySem.W.hasDictIn K A.c_TooMany = true
  ca_TooMany : PySem.W.findIn K (.ref A.c_TooMany) "__class__" = some (some (.builtin "object.__class__"))
  ob_TooMany : PySem.W.mroIn K A.c_TooMany (.type "object") = some true
  ic_TooMany : PySem.W.isClsIn K A.c_TooMany = true
  ty_TooMany : PySem.W.typeIn K (.ref A.c_TooMany) = some (.type "type")
  mg_BadText : mg "BadText" = some (.ref A.c_BadText)
  ga_BadText : PySem.W.findIn K (.ref A.c_BadText) "__getattribute__" = some (some (.builtin "BaseException.__getattribute__"))
  gg_BadText : PySem.W.findIn K (.ref A.c_BadText) "__getattr__" = some none
  be_BadText : PySem.W.subIn K (.ref A.c_BadText) (.type "BaseException") = some true
  hd_BadText : PySem.W.hasDictIn K A.c_BadText = true
  ca_BadText : PySem.W.findIn K (.ref A.c_BadText) "__class__" = some (some (.builtin "object.__class__"))
  ob_BadText : PySem.W.mroIn K A.c_BadText (.type "object") = some true
  ic_BadText : PySem.W.isClsIn K A.c_BadText = true
  ty_BadText : PySem.W.typeIn K (.ref A.c_BadText) = some (.type "type")
  er_BadPlace : ErC P K mg A.c_BadPlace A.f_BadPlace_init "value" "value" s_BadPlace_init
  er_BadCells : ErC P K mg A.c_BadCells A.f_BadCells_init "place" "place" s_BadCells_init
  er_TooMany : ErC P K mg A.c_TooMany A.f_TooMany_init "most" "most" s_TooMany_init
  er_BadText : ErC2 P K mg A.c_BadText A.f_BadText_init "line" "word" s_BadText_init
  mg_is_name : mg "is_name" = some (.ref A.f_is_name)
  fn_is_name : PySem.W.isFn K (.ref A.f_is_name) = true
  F_is_name : FunE K "is_name" "is_name" s_is_name A.f_is_name
  kp_is_name : PySem.W.keepIn K (.ref A.f_is_name) = true
  mg_is_text : mg "is_text" = some (.ref A.f_is_text)
  fn_is_text : PySem.W.isFn K (.ref A.f_is_text) = true
  F_is_text : FunE K "is_text" "is_text" s_is_text A.f_is_text
  kp_is_text : PySem.W.keepIn K (.ref A.f_is_text) = true
  mg_names_in : mg "names_in" = some (.ref A.f_names_in)
  fn_names_in : PySem.W.isFn K (.ref A.f_names_in) = true
  F_names_in : FunE K "names_in" "names_in" s_names_in A.f_names_in
  kp_names_in : PySem.W.keepIn K (.ref A.f_names_in) = true
  mg_text_of : mg "text_of" = some (.ref A.f_text_of)
  fn_text_of : PySem.W.isFn K (.ref A.f_text_of) = true
  F_text_of : FunE K "text_of" "text_of" s_text_of A.f_text_of
  kp_text_of : PySem.W.keepIn K (.ref A.f_text_of) = true
  at_Place_init : PySem.W.findIn K (.ref A.c_Place) "__init__" = some (some (.ref A.f_Place_init))
  fn_Place_init : PySem.W.isFn K (.ref A.f_Place_init) = true
  F_Place_init : FunE K "__init__" "Place.__init__" s_Place_init A.f_Place_init
  kp_Place_init : PySem.W.keepIn K (.ref A.f_Place_init) = true
  at_Place_read : PySem.W.findCls K (.ref A.c_Place) (.type "type") "read" = some (.get (.builtin "classmethod.__get__") (.ref A.p_Place_read) .none (.ref A.c_Place))
  rc_Place_read : ∃ rest, PySem.W.recIn K A.p_Place_read "classmethod" = some (.ref A.f_Place_read :: rest)
  fi_Place_read : PySem.W.fnIn K A.f_Place_read = true
  fn_Place_read : PySem.W.isFn K (.ref A.f_Place_read) = true
  F_Place_read : FunE K "read" "Place.read" s_Place_read A.f_Place_read
  kp_Place_read : PySem.W.keepIn K (.ref A.f_Place_read) = true
  mg_parts_at : mg "parts_at" = some (.ref A.f_parts_at)
  fn_parts_at : PySem.W.isFn K (.ref A.f_parts_at) = true
  F_parts_at : FunE K "parts_at" "parts_at" s_parts_at A.f_parts_at
  kp_parts_at : PySem.W.keepIn K (.ref A.f_parts_at) = true
  mg_text_at : mg "text_at" = some (.ref A.f_text_at)
  fn_text_at : PySem.W.isFn K (.ref A.f_text_at) = true
  F_text_at : FunE K "text_at" "text_at" s_text_at A.f_text_at
  kp_text_at : PySem.W.keepIn K (.ref A.f_text_at) = true
  mg_need_columns : mg "need_columns" = some (.ref A.f_need_columns)
  fn_need_columns : PySem.W.isFn K (.ref A.f_need_columns) = true
  F_need_columns : FunE K "need_columns" "need_columns" s_need_columns A.f_need_columns
  kp_need_columns : PySem.W.keepIn K (.ref A.f_need_columns) = true
  mg_need_keys : mg "need_keys" = some (.ref A.f_need_keys)
  fn_need_keys : PySem.W.isFn K (.ref A.f_need_keys) = true
  F_need_keys : FunE K "need_keys" "need_keys" s_need_keys A.f_need_keys
  kp_need_keys : PySem.W.keepIn K (.ref A.f_need_keys) = true
  mg_is_cells : mg "is_cells" = some (.ref A.f_is_cells)
  fn_is_cells : PySem.W.isFn K (.ref A.f_is_cells) = true
  F_is_cells : FunE K "is_cells" "is_cells" s_is_cells A.f_is_cells
  kp_is_cells : PySem.W.keepIn K (.ref A.f_is_cells) = true
  mg_joined_rows : mg "joined_rows" = some (.ref A.f_joined_rows)
  fn_joined_rows : PySem.W.isFn K (.ref A.f_joined_rows) = true
  F_joined_rows : FunE K "joined_rows" "joined_rows" s_joined_rows A.f_joined_rows
  kp_joined_rows : PySem.W.keepIn K (.ref A.f_joined_rows) = true
  at_Table_init : PySem.W.findIn K (.ref A.c_Table) "__init__" = some (some (.ref A.f_Table_init))
  fn_Table_init : PySem.W.isFn K (.ref A.f_Table_init) = true
  F_Table_init : FunD1 K "__init__" "Table.__init__" s_Table_init A.f_Table_init
  kp_Table_init : PySem.W.keepIn K (.ref A.f_Table_init) = true
  at_Table_places : PySem.W.findIn K (.ref A.c_Table) "places" = some (some (.ref A.p_Table_places))
  ge_Table_places : PySem.W.specialIn K (.ref A.p_Table_places) "__get__" = some (some (.builtin "property.__get__"))
  tk_Table_places : PySem.W.takesIn K (.ref A.p_Table_places) = some true
  rc_Table_places : ∃ rest, PySem.W.recIn K A.p_Table_places "property" = some (.ref A.f_Table_places :: rest)
  fn_Table_places : PySem.W.isFn K (.ref A.f_Table_places) = true
  F_Table_places : FunE K "places" "Table.places" s_Table_places A.f_Table_places
  kp_Table_places : PySem.W.keepIn K (.ref A.f_Table_places) = true
  at_Table_getitem : PySem.W.findIn K (.ref A.c_Table) "__getitem__" = some (some (.ref A.f_Table_getitem))
  fn_Table_getitem : PySem.W.isFn K (.ref A.f_Table_getitem) = true
  F_Table_getitem : FunE K "__getitem__" "Table.__getitem__" s_Table_getitem A.f_Table_getitem
  fi_Table_getitem : PySem.W.fnIn K A.f_Table_getitem = true
  kp_Table_getitem : PySem.W.keepIn K (.ref A.f_Table_getitem) = true
  at_Table_setitem : PySem.W.findIn K (.ref A.c_Table) "__setitem__" = some (some (.ref A.f_Table_setitem))
  fn_Table_setitem : PySem.W.isFn K (.ref A.f_Table_setitem) = true
  F_Table_setitem : FunE K "__setitem__" "Table.__setitem__" s_Table_setitem A.f_Table_setitem
  kp_Table_setitem : PySem.W.keepIn K (.ref A.f_Table_setitem) = true
  at_Table_contains : PySem.W.findIn K (.ref A.c_Table) "__contains__" = some (some (.ref A.f_Table_contains))
  fn_Table_contains : PySem.W.isFn K (.ref A.f_Table_contains) = true
  F_Table_contains : FunE K "__contains__" "Table.__contains__" s_Table_contains A.f_Table_contains
  kp_Table_contains : PySem.W.keepIn K (.ref A.f_Table_contains) = true
  at_Table_len : PySem.W.findIn K (.ref A.c_Table) "__len__" = some (some (.ref A.f_Table_len))
  fn_Table_len : PySem.W.isFn K (.ref A.f_Table_len) = true
  F_Table_len : FunE K "__len__" "Table.__len__" s_Table_len A.f_Table_len
  kp_Table_len : PySem.W.keepIn K (.ref A.f_Table_len) = true
  at_Table_bool : PySem.W.findIn K (.ref A.c_Table) "__bool__" = some (some (.ref A.f_Table_bool))
  fn_Table_bool : PySem.W.isFn K (.ref A.f_Table_bool) = true
  F_Table_bool : FunE K "__bool__" "Table.__bool__" s_Table_bool A.f_Table_bool
  kp_Table_bool : PySem.W.keepIn K (.ref A.f_Table_bool) = true
  at_Table_cells : PySem.W.findIn K (.ref A.c_Table) "cells" = some (some (.ref A.f_Table_cells))
  fn_Table_cells : PySem.W.isFn K (.ref A.f_Table_cells) = true
  F_Table_cells : FunE K "cells" "Table.cells" s_Table_cells A.f_Table_cells
  kp_Table_cells : PySem.W.keepIn K (.ref A.f_Table_cells) = true
  at_Table_eq : PySem.W.findIn K (.ref A.c_Table) "__eq__" = some (some (.ref A.f_Table_eq))
  fn_Table_eq : PySem.W.isFn K (.ref A.f_Table_eq) = true
  F_Table_eq : FunE K "__eq__" "Table.__eq__" s_Table_eq A.f_Table_eq
  kp_Table_eq : PySem.W.keepIn K (.ref A.f_Table_eq) = true
  mg_row_text : mg "row_text" = some (.ref A.f_row_text)
  fn_row_text : PySem.W.isFn K (.ref A.f_row_text) = true
  F_row_text : FunE K "row_text" "row_text" s_row_text A.f_row_text
  kp_row_text : PySem.W.keepIn K (.ref A.f_row_text) = true
  mg_show_table : mg "show_table" = some (.ref A.f_show_table)
  fn_show_table : PySem.W.isFn K (.ref A.f_show_table) = true
  F_show_table : FunE K "show_table" "show_table" s_show_table A.f_show_table
  kp_show_table : PySem.W.keepIn K (.ref A.f_show_table) = true
  mg_need : mg "need" = some (.ref A.f_need)
  fn_need : PySem.W.isFn K (.ref A.f_need) = true
  F_need : FunE K "need" "need" s_need A.f_need
  kp_need : PySem.W.keepIn K (.ref A.f_need) = true
  mg_words_of : mg "words_of" = some (.ref A.f_words_of)
  fn_words_of : PySem.W.isFn K (.ref A.f_words_of) = true
  F_words_of : FunE K "words_of" "words_of" s_words_of A.f_words_of
  kp_words_of : PySem.W.keepIn K (.ref A.f_words_of) = true
  mg_columns_in : mg "columns_in" = some (.ref A.f_columns_in)
  fn_columns_in : PySem.W.isFn K (.ref A.f_columns_in) = true
  F_columns_in : FunE K "columns_in" "columns_in" s_columns_in A.f_columns_in
  kp_columns_in : PySem.W.keepIn K (.ref A.f_columns_in) = true
  mg_cells_in : mg "cells_in" = some (.ref A.f_cells_in)
  fn_cells_in : PySem.W.isFn K (.ref A.f_cells_in) = true
  F_cells_in : FunE K "cells_in" "cells_in" s_cells_in A.f_cells_in
  kp_cells_in : PySem.W.keepIn K (.ref A.f_cells_in) = true
  at_Sheet_init : PySem.W.findIn K (.ref A.c_Sheet) "__init__" = some (some (.ref A.f_Sheet_init))
  fn_Sheet_init : PySem.W.isFn K (.ref A.f_Sheet_init) = true
  F_Sheet_init : FunE K "__init__" "Sheet.__init__" s_Sheet_init A.f_Sheet_init
  kp_Sheet_init : PySem.W.keepIn K (.ref A.f_Sheet_init) = true
  at_Sheet_is_room : PySem.W.findIn K (.ref A.c_Sheet) "is_room" = some (some (.ref A.f_Sheet_is_room))
  fn_Sheet_is_room : PySem.W.isFn K (.ref A.f_Sheet_is_room) = true
  F_Sheet_is_room : FunE K "is_room" "Sheet.is_room" s_Sheet_is_room A.f_Sheet_is_room
  kp_Sheet_is_room : PySem.W.keepIn K (.ref A.f_Sheet_is_room) = true
  at_Sheet_add_row : PySem.W.findIn K (.ref A.c_Sheet) "add_row" = some (some (.ref A.f_Sheet_add_row))
  fn_Sheet_add_row : PySem.W.isFn K (.ref A.f_Sheet_add_row) = true
  F_Sheet_add_row : FunE K "add_row" "Sheet.add_row" s_Sheet_add_row A.f_Sheet_add_row
  kp_Sheet_add_row : PySem.W.keepIn K (.ref A.f_Sheet_add_row) = true
  at_Sheet_table_on : PySem.W.findIn K (.ref A.c_Sheet) "table_on" = some (some (.ref A.f_Sheet_table_on))
  fn_Sheet_table_on : PySem.W.isFn K (.ref A.f_Sheet_table_on) = true
  F_Sheet_table_on : FunE K "table_on" "Sheet.table_on" s_Sheet_table_on A.f_Sheet_table_on
  kp_Sheet_table_on : PySem.W.keepIn K (.ref A.f_Sheet_table_on) = true
  mg_read_table : mg "read_table" = some (.ref A.f_read_table)
  fn_read_table : PySem.W.isFn K (.ref A.f_read_table) = true
  F_read_table : FunE K "read_table" "read_table" s_read_table A.f_read_table
  kp_read_table : PySem.W.keepIn K (.ref A.f_read_table) = true
  mg_law_pen : mg "_law_pen" = some (.ref A.f_law_pen)
  fn_law_pen : PySem.W.isFn K (.ref A.f_law_pen) = true
  F_law_pen : FunE K "_law_pen" "_law_pen" s_law_pen A.f_law_pen
  kp_law_pen : PySem.W.keepIn K (.ref A.f_law_pen) = true
  mg_law_draw : mg "_law_draw" = some (.ref A.f_law_draw)
  fn_law_draw : PySem.W.isFn K (.ref A.f_law_draw) = true
  F_law_draw : FunE K "_law_draw" "_law_draw" s_law_draw A.f_law_draw
  kp_law_draw : PySem.W.keepIn K (.ref A.f_law_draw) = true
  mg_law_pick : mg "_law_pick" = some (.ref A.f_law_pick)
  fn_law_pick : PySem.W.isFn K (.ref A.f_law_pick) = true
  F_law_pick : FunE K "_law_pick" "_law_pick" s_law_pick A.f_law_pick
  kp_law_pick : PySem.W.keepIn K (.ref A.f_law_pick) = true
  mg_law_below : mg "_law_below" = some (.ref A.f_law_below)
  fn_law_below : PySem.W.isFn K (.ref A.f_law_below) = true
  F_law_below : FunE K "_law_below" "_law_below" s_law_below A.f_law_below
  kp_law_below : PySem.W.keepIn K (.ref A.f_law_below) = true
  mg_law_names : mg "_law_names" = some (.ref A.f_law_names)
  fn_law_names : PySem.W.isFn K (.ref A.f_law_names) = true
  F_law_names : FunE K "_law_names" "_law_names" s_law_names A.f_law_names
  kp_law_names : PySem.W.keepIn K (.ref A.f_law_names) = true
  mg_law_places : mg "_law_places" = some (.ref A.f_law_places)
  fn_law_places : PySem.W.isFn K (.ref A.f_law_places) = true
  F_law_places : FunE K "_law_places" "_law_places" s_law_places A.f_law_places
  kp_law_places : PySem.W.keepIn K (.ref A.f_law_places) = true
  mg_law_drawn : mg "_law_drawn" = some (.ref A.f_law_drawn)
  fn_law_drawn : PySem.W.isFn K (.ref A.f_law_drawn) = true
  F_law_drawn : FunE K "_law_drawn" "_law_drawn" s_law_drawn A.f_law_drawn
  kp_law_drawn : PySem.W.keepIn K (.ref A.f_law_drawn) = true
  mg_law_line : mg "_law_line" = some (.ref A.f_law_line)
  fn_law_line : PySem.W.isFn K (.ref A.f_law_line) = true
  F_law_line : FunE K "_law_line" "_law_line" s_law_line A.f_law_line
  kp_law_line : PySem.W.keepIn K (.ref A.f_law_line) = true
  mg_law_text : mg "_law_text" = some (.ref A.f_law_text)
  fn_law_text : PySem.W.isFn K (.ref A.f_law_text) = true
  F_law_text : FunE K "_law_text" "_law_text" s_law_text A.f_law_text
  kp_law_text : PySem.W.keepIn K (.ref A.f_law_text) = true
  mg_law_is_name : mg "_law_is_name" = some (.ref A.f_law_is_name)
  fn_law_is_name : PySem.W.isFn K (.ref A.f_law_is_name) = true
  F_law_is_name : FunE K "_law_is_name" "_law_is_name" s_law_is_name A.f_law_is_name
  kp_law_is_name : PySem.W.keepIn K (.ref A.f_law_is_name) = true
  mg_law_is_place : mg "_law_is_place" = some (.ref A.f_law_is_place)
  fn_law_is_place : PySem.W.isFn K (.ref A.f_law_is_place) = true
  F_law_is_place : FunE K "_law_is_place" "_law_is_place" s_law_is_place A.f_law_is_place
  kp_law_is_place : PySem.W.keepIn K (.ref A.f_law_is_place) = true
  mg_law_row_fault : mg "_law_row_fault" = some (.ref A.f_law_row_fault)
  fn_law_row_fault : PySem.W.isFn K (.ref A.f_law_row_fault) = true
  F_law_row_fault : FunE K "_law_row_fault" "_law_row_fault" s_law_row_fault A.f_law_row_fault
  kp_law_row_fault : PySem.W.keepIn K (.ref A.f_law_row_fault) = true
  mg_law_head_fault : mg "_law_head_fault" = some (.ref A.f_law_head_fault)
  fn_law_head_fault : PySem.W.isFn K (.ref A.f_law_head_fault) = true
  F_law_head_fault : FunE K "_law_head_fault" "_law_head_fault" s_law_head_fault A.f_law_head_fault
  kp_law_head_fault : PySem.W.keepIn K (.ref A.f_law_head_fault) = true
  mg_law_bent : mg "_law_bent" = some (.ref A.f_law_bent)
  fn_law_bent : PySem.W.isFn K (.ref A.f_law_bent) = true
  F_law_bent : FunE K "_law_bent" "_law_bent" s_law_bent A.f_law_bent
  kp_law_bent : PySem.W.keepIn K (.ref A.f_law_bent) = true
  mg_law_fault : mg "_law_fault" = some (.ref A.f_law_fault)
  fn_law_fault : PySem.W.isFn K (.ref A.f_law_fault) = true
  F_law_fault : FunE K "_law_fault" "_law_fault" s_law_fault A.f_law_fault
  kp_law_fault : PySem.W.keepIn K (.ref A.f_law_fault) = true
  mg_law_heard : mg "_law_heard" = some (.ref A.f_law_heard)
  fn_law_heard : PySem.W.isFn K (.ref A.f_law_heard) = true
  F_law_heard : FunE K "_law_heard" "_law_heard" s_law_heard A.f_law_heard
  kp_law_heard : PySem.W.keepIn K (.ref A.f_law_heard) = true
  mg_law_many : mg "_law_many" = some (.ref A.f_law_many)
  fn_law_many : PySem.W.isFn K (.ref A.f_law_many) = true
  F_law_many : FunE K "_law_many" "_law_many" s_law_many A.f_law_many
  kp_law_many : PySem.W.keepIn K (.ref A.f_law_many) = true
  mg_law : mg "law" = some (.ref A.f_law)
  fn_law : PySem.W.isFn K (.ref A.f_law) = true
  F_law : FunE K "law" "law" s_law A.f_law
  kp_law : PySem.W.keepIn K (.ref A.f_law) = true
  k_SIGNS : ∃ t, mg "SIGNS" = some (.str "abcdefghijklmnopqrstuvwxyz0123456789" t)
  k_LONGEST_NAME : ∃ t, mg "LONGEST_NAME" = some (.int 8 t)
  k_MOST_NAMES : ∃ t, mg "MOST_NAMES" = some (.int 8 t)
  k_MOST_ROWS : ∃ t, mg "MOST_ROWS" = some (.int 40 t)
  k_MOST_COLUMNS : ∃ t, mg "MOST_COLUMNS" = some (.int 3 t)
  z_abs : mg "abs" = none
  z_all : mg "all" = none
  z_bool : mg "bool" = none
  z_dict : mg "dict" = none
  z_enumerate : mg "enumerate" = none
  z_int : mg "int" = none
  z_isinstance : mg "isinstance" = none
  z_len : mg "len" = none
  z_list : mg "list" = none
  z_range : mg "range" = none
  z_repr : mg "repr" = none
  z_sorted : mg "sorted" = none
  z_str : mg "str" = none
  z_super : mg "super" = none
  z_tuple : mg "tuple" = none
  tb_BadPlace : PySem.W.subIn K (.ref A.c_BadPlace) (.ref A.c_TableError) = some true
  tb_BadCells : PySem.W.subIn K (.ref A.c_BadCells) (.ref A.c_TableError) = some true
  tb_TooMany : PySem.W.subIn K (.ref A.c_TooMany) (.ref A.c_TableError) = some true
  tb_BadText : PySem.W.subIn K (.ref A.c_BadText) (.ref A.c_TableError) = some true
  nv_BadPlace : PySem.W.findIn K (.ref A.c_BadPlace) "value" = some none
  nv_BadCells : PySem.W.findIn K (.ref A.c_BadCells) "place" = some none
  nv_TooMany : PySem.W.findIn K (.ref A.c_TooMany) "most" = some none
  nvl_BadText : PySem.W.findIn K (.ref A.c_BadText) "line" = some none
  nvw_BadText : PySem.W.findIn K (.ref A.c_BadText) "word" = some none
  xBadPlace_BadCells : PySem.W.subIn K (.ref A.c_BadPlace) (.ref A.c_BadCells) = some false
  xBadPlace_TooMany : PySem.W.subIn K (.ref A.c_BadPlace) (.ref A.c_TooMany) = some false
  xBadPlace_BadText : PySem.W.subIn K (.ref A.c_BadPlace) (.ref A.c_BadText) = some false
  xBadCells_BadPlace : PySem.W.subIn K (.ref A.c_BadCells) (.ref A.c_BadPlace) = some false
  xBadCells_TooMany : PySem.W.subIn K (.ref A.c_BadCells) (.ref A.c_TooMany) = some false
  xBadCells_BadText : PySem.W.subIn K (.ref A.c_BadCells) (.ref A.c_BadText) = some false
  xTooMany_BadPlace : PySem.W.subIn K (.ref A.c_TooMany) (.ref A.c_BadPlace) = some false
  xTooMany_BadCells : PySem.W.subIn K (.ref A.c_TooMany) (.ref A.c_BadCells) = some false
  xTooMany_BadText : PySem.W.subIn K (.ref A.c_TooMany) (.ref A.c_BadText) = some false
  xBadText_BadPlace : PySem.W.subIn K (.ref A.c_BadText) (.ref A.c_BadPlace) = some false
  xBadText_BadCells : PySem.W.subIn K (.ref A.c_BadText) (.ref A.c_BadCells) = some false
  xBadText_TooMany : PySem.W.subIn K (.ref A.c_BadText) (.ref A.c_TooMany) = some false
  nn_BadPlace_BadCells : A.c_BadPlace ≠ A.c_BadCells
  nn_BadPlace_TooMany : A.c_BadPlace ≠ A.c_TooMany
  nn_BadPlace_BadText : A.c_BadPlace ≠ A.c_BadText
  nn_BadCells_TooMany : A.c_BadCells ≠ A.c_TooMany
  nn_BadCells_BadText : A.c_BadCells ≠ A.c_BadText
  nn_TooMany_BadText : A.c_TooMany ≠ A.c_BadText
  sub_Place_Table : PySem.W.subIn K (.ref A.c_Place) (.ref A.c_Table) = some false
  sub_Table_Place : PySem.W.subIn K (.ref A.c_Table) (.ref A.c_Place) = some false
  nn_Place_Table : A.c_Place ≠ A.c_Table
theorem tx_mk {P : Program} {K : PySem.W.Frag} {h : Heap} {mg : Str → Option Value} (X : K.In h) (G : h.Ns mainGlobals mg) {c_Place c_Table c_Sheet c_TableError c_BadPlace c_BadCells c_TooMany c_BadText f_BadPlace_init f_BadCells_init f_TooMany_init f_BadText_init f_is_name f_is_text f_names_in f_text_of f_Place_init f_Place_read p_Place_read f_parts_at f_text_at f_need_columns f_need_keys f_is_cells f_joined_rows f_Table_init f_Table_places p_Table_places f_Table_getitem f_Table_setitem f_Table_contains f_Table_len f_Table_bool f_Table_cells f_Table_eq f_row_text f_show_table f_need f_words_of f_columns_in f_cells_in f_Sheet_init f_Sheet_is_room f_Sheet_add_row f_Sheet_table_on f_read_table f_law_pen f_law_draw f_law_pick f_law_below f_law_names f_law_places f_law_drawn f_law_line f_law_text f_law_is_name f_law_is_place f_law_row_fault f_law_head_fault f_law_bent f_law_fault f_law_heard f_law_many f_law : Addr} {tt1 : Tok} {tt2 : Tok} {tt3 : Tok} {nm_BadPlace_init qn_BadPlace_init ql_BadPlace_init fl_BadPlace_init : Str} {N_BadPlace_init cc_BadPlace_init cda_BadPlace_init : Addr} {bs_BadPlace_init bm_BadPlace_init sb_BadPlace_init : List Value} {sn_BadPlace_init : List Str} {ab_BadPlace_init : Bool} {co_BadPlace_init : Option Bool} {dd_BadPlace_init odd_BadPlace_init ann_BadPlace_init od2_BadPlace_init od3_BadPlace_init : Option Addr} {ka_BadPlace_init kb_BadPlace_init kc_BadPlace_init kd_BadPlace_init ke_BadPlace_init : Option Value} {kv_BadPlace_init dc_BadPlace_init pm_BadPlace_init ct_BadPlace_init occ_BadPlace_init oc2_BadPlace_init oc3_BadPlace_init : Value} {os_BadPlace_init os2_BadPlace_init os3_BadPlace_init : Array (Option Value)} {vs_BadPlace_init : Array Value} {tf_BadPlace_init : Tok} {nm_BadCells_init qn_BadCells_init ql_BadCells_init fl_BadCells_init : Str} {N_BadCells_init cc_BadCells_init cda_BadCells_init : Addr} {bs_BadCells_init bm_BadCells_init sb_BadCells_init : List Value} {sn_BadCells_init : List Str} {ab_BadCells_init : Bool} {co_BadCells_init : Option Bool} {dd_BadCells_init odd_BadCells_init ann_BadCells_init od2_BadCells_init od3_BadCells_init : Option Addr} {ka_BadCells_init kb_BadCells_init kc_BadCells_init kd_BadCells_init ke_BadCells_init : Option Value} {kv_BadCells_init dc_BadCells_init pm_BadCells_init ct_BadCells_init occ_BadCells_init oc2_BadCells_init oc3_BadCells_init : Value} {os_BadCells_init os2_BadCells_init os3_BadCells_init : Array (Option Value)} {vs_BadCells_init : Array Value} {tf_BadCells_init : Tok} {nm_TooMany_init qn_TooMany_init ql_TooMany_init fl_TooMany_init : Str} {N_TooMany_init cc_TooMany_init cda_TooMany_init : Addr} {bs_TooMany_init bm_TooMany_init sb_TooMany_init : List Value} {sn_TooMany_init : List Str} {ab_TooMany_init : Bool} {co_TooMany_init : Option Bool} {dd_TooMany_init odd_TooMany_init ann_TooMany_init od2_TooMany_init od3_TooMany_init : Option Addr} {ka_TooMany_init kb_TooMany_init kc_TooMany_init kd_TooMany_init ke_TooMany_init : Option Value} {kv_TooMany_init dc_TooMany_init pm_TooMany_init ct_TooMany_init occ_TooMany_init oc2_TooMany_init oc3_TooMany_init : Value} {os_TooMany_init os2_TooMany_init os3_TooMany_init : Array (Option Value)} {vs_TooMany_init : Array Value} {tf_TooMany_init : Tok} {nm_BadText_init qn_BadText_init ql_BadText_init fl_BadText_init : Str} {N_BadText_init cc_BadText_init cda_BadText_init : Addr} {bs_BadText_init bm_BadText_init sb_BadText_init : List Value} {sn_BadText_init : List Str} {ab_BadText_init : Bool} {co_BadText_init : Option Bool} {dd_BadText_init odd_BadText_init ann_BadText_init od2_BadText_init od3_BadText_init : Option Addr} {ka_BadText_init kb_BadText_init kc_BadText_init kd_BadText_init ke_BadText_init : Option Value} {kv_BadText_init dc_BadText_init pm_BadText_init ct_BadText_init occ_BadText_init oc2_BadText_init oc3_BadText_init : Value} {os_BadText_init os2_BadText_init os3_BadText_init : Array (Option Value)} {vs_BadText_init : Array Value} {tf_BadText_init : Tok} {oc_is_name kV_is_name dc_is_name pm_is_name cd_is_name ct_is_name : Value} {od_is_name an_is_name : Option Addr} {sl_is_name : Array (Option Value)} {oc_is_text kV_is_text dc_is_text pm_is_text cd_is_text ct_is_text : Value} {od_is_text an_is_text : Option Addr} {sl_is_text : Array (Option Value)} {oc_names_in kV_names_in dc_names_in pm_names_in cd_names_in ct_names_in : Value} {od_names_in an_names_in : Option Addr} {sl_names_in : Array (Option Value)} {oc_text_of kV_text_of dc_text_of pm_text_of cd_text_of ct_text_of : Value} {od_text_of an_text_of : Option Addr} {sl_text_of : Array (Option Value)} {oc_Place_init kV_Place_init dc_Place_init pm_Place_init cd_Place_init ct_Place_init : Value} {od_Place_init an_Place_init : Option Addr} {sl_Place_init : Array (Option Value)} {rr4 : List Value} {oc_Place_read kV_Place_read dc_Place_read pm_Place_read cd_Place_read ct_Place_read : Value} {od_Place_read an_Place_read : Option Addr} {sl_Place_read : Array (Option Value)} {oc_parts_at kV_parts_at dc_parts_at pm_parts_at cd_parts_at ct_parts_at : Value} {od_parts_at an_parts_at : Option Addr} {sl_parts_at : Array (Option Value)} {oc_text_at kV_text_at dc_text_at pm_text_at cd_text_at ct_text_at : Value} {od_text_at an_text_at : Option Addr} {sl_text_at : Array (Option Value)} {oc_need_columns kV_need_columns dc_need_columns pm_need_columns cd_need_columns ct_need_columns : Value} {od_need_columns an_need_columns : Option Addr} {sl_need_columns : Array (Option Value)} {oc_need_keys kV_need_keys dc_need_keys pm_need_keys cd_need_keys ct_need_keys : Value} {od_need_keys an_need_keys : Option Addr} {sl_need_keys : Array (Option Value)} {oc_is_cells kV_is_cells dc_is_cells pm_is_cells cd_is_cells ct_is_cells : Value} {od_is_cells an_is_cells : Option Addr} {sl_is_cells : Array (Option Value)} {oc_joined_rows kV_joined_rows dc_joined_rows pm_joined_rows cd_joined_rows ct_joined_rows : Value} {od_joined_rows an_joined_rows : Option Addr} {sl_joined_rows : Array (Option Value)} {oc_Table_init kV_Table_init dc_Table_init pm_Table_init cd_Table_init ct_Table_init ocT_Table_init : Value} {od_Table_init an_Table_init odT_Table_init : Option Addr} {sl_Table_init slT_Table_init : Array (Option Value)} {T_Table_init : Addr} {nT_Table_init : Nat} {rr5 : List Value} {oc_Table_places kV_Table_places dc_Table_places pm_Table_places cd_Table_places ct_Table_places : Value} {od_Table_places an_Table_places : Option Addr} {sl_Table_places : Array (Option Value)} {oc_Table_getitem kV_Table_getitem dc_Table_getitem pm_Table_getitem cd_Table_getitem ct_Table_getitem : Value} {od_Table_getitem an_Table_getitem : Option Addr} {sl_Table_getitem : Array (Option Value)} {oc_Table_setitem kV_Table_setitem dc_Table_setitem pm_Table_setitem cd_Table_setitem ct_Table_setitem : Value} {od_Table_setitem an_Table_setitem : Option Addr} {sl_Table_setitem : Array (Option Value)} {oc_Table_contains kV_Table_contains dc_Table_contains pm_Table_contains cd_Table_contains ct_Table_contains : Value} {od_Table_contains an_Table_contains : Option Addr} {sl_Table_contains : Array (Option Value)} {oc_Table_len kV_Table_len dc_Table_len pm_Table_len cd_Table_len ct_Table_len : Value} {od_Table_len an_Table_len : Option Addr} {sl_Table_len : Array (Option Value)} {oc_Table_bool kV_Table_bool dc_Table_bool pm_Table_bool cd_Table_bool ct_Table_bool : Value} {od_Table_bool an_Table_bool : Option Addr} {sl_Table_bool : Array (Option Value)} {oc_Table_cells kV_Table_cells dc_Table_cells pm_Table_cells cd_Table_cells ct_Table_cells : Value} {od_Table_cells an_Table_cells : Option Addr} {sl_Table_cells : Array (Option Value)} {oc_Table_eq kV_Table_eq dc_Table_eq pm_Table_eq cd_Table_eq ct_Table_eq : Value} {od_Table_eq an_Table_eq : Option Addr} {sl_Table_eq : Array (Option Value)} {oc_row_text kV_row_text dc_row_text pm_row_text cd_row_text ct_row_text : Value} {od_row_text an_row_text : Option Addr} {sl_row_text : Array (Option Value)} {oc_show_table kV_show_table dc_show_table pm_show_table cd_show_table ct_show_table : Value} {od_show_table an_show_table : Option Addr} {sl_show_table : Array (Option Value)} {oc_need kV_need dc_need pm_need cd_need ct_need : Value} {od_need an_need : Option Addr} {sl_need : Array (Option Value)} {oc_words_of kV_words_of dc_words_of pm_words_of cd_words_of ct_words_of : Value} {od_words_of an_words_of : Option Addr} {sl_words_of : Array (Option Value)} {oc_columns_in kV_columns_in dc_columns_in pm_columns_in cd_columns_in ct_columns_in : Value} {od_columns_in an_columns_in : Option Addr} {sl_columns_in : Array (Option Value)} {oc_cells_in kV_cells_in dc_cells_in pm_cells_in cd_cells_in ct_cells_in : Value} {od_cells_in an_cells_in : Option Addr} {sl_cells_in : Array (Option Value)} {oc_Sheet_init kV_Sheet_init dc_Sheet_init pm_Sheet_init cd_Sheet_init ct_Sheet_init : Value} {od_Sheet_init an_Sheet_init : Option Addr} {sl_Sheet_init : Array (Option Value)} {oc_Sheet_is_room kV_Sheet_is_room dc_Sheet_is_room pm_Sheet_is_room cd_Sheet_is_room ct_Sheet_is_room : Value} {od_Sheet_is_room an_Sheet_is_room : Option Addr} {sl_Sheet_is_room : Array (Option Value)} {oc_Sheet_add_row kV_Sheet_add_row dc_Sheet_add_row pm_Sheet_add_row cd_Sheet_add_row ct_Sheet_add_row : Value} {od_Sheet_add_row an_Sheet_add_row : Option Addr} {sl_Sheet_add_row : Array (Option Value)} {oc_Sheet_table_on kV_Sheet_table_on dc_Sheet_table_on pm_Sheet_table_on cd_Sheet_table_on ct_Sheet_table_on : Value} {od_Sheet_table_on an_Sheet_table_on : Option Addr} {sl_Sheet_table_on : Array (Option Value)} {oc_read_table kV_read_table dc_read_table pm_read_table cd_read_table ct_read_table : Value} {od_read_table an_read_table : Option Addr} {sl_read_table : Array (Option Value)} {oc_law_pen kV_law_pen dc_law_pen pm_law_pen cd_law_pen ct_law_pen : Value} {od_law_pen an_law_pen : Option Addr} {sl_law_pen : Array (Option Value)} {oc_law_draw kV_law_draw dc_law_draw pm_law_draw cd_law_draw ct_law_draw : Value} {od_law_draw an_law_draw : Option Addr} {sl_law_draw : Array (Option Value)} {oc_law_pick kV_law_pick dc_law_pick pm_law_pick cd_law_pick ct_law_pick : Value} {od_law_pick an_law_pick : Option Addr} {sl_law_pick : Array (Option Value)} {oc_law_below kV_law_below dc_law_below pm_law_below cd_law_below ct_law_below : Value} {od_law_below an_law_below : Option Addr} {sl_law_below : Array (Option Value)} {oc_law_names kV_law_names dc_law_names pm_law_names cd_law_names ct_law_names : Value} {od_law_names an_law_names : Option Addr} {sl_law_names : Array (Option Value)} {oc_law_places kV_law_places dc_law_places pm_law_places cd_law_places ct_law_places : Value} {od_law_places an_law_places : Option Addr} {sl_law_places : Array (Option Value)} {oc_law_drawn kV_law_drawn dc_law_drawn pm_law_drawn cd_law_drawn ct_law_drawn : Value} {od_law_drawn an_law_drawn : Option Addr} {sl_law_drawn : Array (Option Value)} {oc_law_line kV_law_line dc_law_line pm_law_line cd_law_line ct_law_line : Value} {od_law_line an_law_line : Option Addr} {sl_law_line : Array (Option Value)} {oc_law_text kV_law_text dc_law_text pm_law_text cd_law_text ct_law_text : Value} {od_law_text an_law_text : Option Addr} {sl_law_text : Array (Option Value)} {oc_law_is_name kV_law_is_name dc_law_is_name pm_law_is_name cd_law_is_name ct_law_is_name : Value} {od_law_is_name an_law_is_name : Option Addr} {sl_law_is_name : Array (Option Value)} {oc_law_is_place kV_law_is_place dc_law_is_place pm_law_is_place cd_law_is_place ct_law_is_place : Value} {od_law_is_place an_law_is_place : Option Addr} {sl_law_is_place : Array (Option Value)} {oc_law_row_fault kV_law_row_fault dc_law_row_fault pm_law_row_fault cd_law_row_fault ct_law_row_fault : Value} {od_law_row_fault an_law_row_fault : Option Addr} {sl_law_row_fault : Array (Option Value)} {oc_law_head_fault kV_law_head_fault dc_law_head_fault pm_law_head_fault cd_law_head_fault ct_law_head_fault : Value} {od_law_head_fault an_law_head_fault : Option Addr} {sl_law_head_fault : Array (Option Value)} {oc_law_bent kV_law_bent dc_law_bent pm_law_bent cd_law_bent ct_law_bent : Value} {od_law_bent an_law_bent : Option Addr} {sl_law_bent : Array (Option Value)} {oc_law_fault kV_law_fault dc_law_fault pm_law_fault cd_law_fault ct_law_fault : Value} {od_law_fault an_law_fault : Option Addr} {sl_law_fault : Array (Option Value)} {oc_law_heard kV_law_heard dc_law_heard pm_law_heard cd_law_heard ct_law_heard : Value} {od_law_heard an_law_heard : Option Addr} {sl_law_heard : Array (Option Value)} {oc_law_many kV_law_many dc_law_many pm_law_many cd_law_many ct_law_many : Value} {od_law_many an_law_many : Option Addr} {sl_law_many : Array (Option Value)} {oc_law kV_law dc_law pm_law cd_law ct_law : Value} {od_law an_law : Option Addr} {sl_law : Array (Option Value)} {tt6 : Tok} {tt7 : Tok} {tt8 : Tok} {tt9 : Tok} {tt10 : Tok}
    (mg_Place : PySem.W.nsIn K mainGlobals "Place" = some (some (.ref c_Place)))
    (pg_Place : PySem.W.plainGet K c_Place Str.empty = true)
    (hd_Place : PySem.W.hasDictIn K c_Place = true)
    (po_Place : PySem.W.plainOver K c_Place = true)
    (sa_Place : PySem.W.findIn K (.ref c_Place) "__setattr__" = some (some (.builtin "object.__setattr__")))
    (mk_Place : PySem.W.makesIn K c_Place = true)
    (kc_Place : PySem.W.keepIn K (.ref c_Place) = true)
    (sf_Place : PySem.W.selfFirst K c_Place = true)
    (ca_Place : PySem.W.findIn K (.ref c_Place) "__class__" = some (some (.builtin "object.__class__")))
    (cn_Place : PySem.W.specialIn K (.builtin "object.__class__") "__get__" = some (some (.builtin "getset_descriptor.__get__")))
    (ct_Place : PySem.W.takesIn K (.builtin "object.__class__") = some true)
    (cm_Place : PySem.W.mroIn K c_Place (.type "object") = some true)
    (ob_Place : PySem.W.subIn K (.ref c_Place) (.type "object") = some true)
    (ne_Place : PySem.W.findIn K (.ref c_Place) "__ne__" = some (some (.builtin "object.__ne__")))
    (rd_Place : PySem.W.readsIn K c_Place (.type "type") = true)
    (ga_Place : PySem.W.specialIn K (.ref c_Place) "__getattribute__" = some (some (.builtin "type.__getattribute__")))
    (np_Place : PySem.W.findIn K (.ref c_Place) "parts" = some none)
    (ic_Place : PySem.W.isClsIn K c_Place = true)
    (ty_Place : PySem.W.typeIn K (.ref c_Place) = some (.type "type"))
    (most_Place : PySem.W.findCls K (.ref c_Place) (.type "type") "MOST" = some (.val (.int 8 tt1)))
    (ra_Place : PySem.W.findIn K (.ref c_Place) "__radd__" = some none)
    (su_Place : PySem.W.subIn K (.type "str") (.ref c_Place) = some false)
    (suNoneType_Place : PySem.W.subIn K (.type "NoneType") (.ref c_Place) = some false)
    (subool_Place : PySem.W.subIn K (.type "bool") (.ref c_Place) = some false)
    (suint_Place : PySem.W.subIn K (.type "int") (.ref c_Place) = some false)
    (sulist_Place : PySem.W.subIn K (.type "list") (.ref c_Place) = some false)
    (sutuple_Place : PySem.W.subIn K (.type "tuple") (.ref c_Place) = some false)
    (sudict_Place : PySem.W.subIn K (.type "dict") (.ref c_Place) = some false)
    (sustr_Place : PySem.W.subIn K (.ref c_Place) (.type "str") = some false)
    (mg_Table : PySem.W.nsIn K mainGlobals "Table" = some (some (.ref c_Table)))
    (pg_Table : PySem.W.plainGet K c_Table Str.empty = true)
    (hd_Table : PySem.W.hasDictIn K c_Table = true)
    (po_Table : PySem.W.plainOver K c_Table = true)
    (sa_Table : PySem.W.findIn K (.ref c_Table) "__setattr__" = some (some (.builtin "object.__setattr__")))
    (mk_Table : PySem.W.makesIn K c_Table = true)
    (kc_Table : PySem.W.keepIn K (.ref c_Table) = true)
    (sf_Table : PySem.W.selfFirst K c_Table = true)
    (ca_Table : PySem.W.findIn K (.ref c_Table) "__class__" = some (some (.builtin "object.__class__")))
    (cn_Table : PySem.W.specialIn K (.builtin "object.__class__") "__get__" = some (some (.builtin "getset_descriptor.__get__")))
    (ct_Table : PySem.W.takesIn K (.builtin "object.__class__") = some true)
    (cm_Table : PySem.W.mroIn K c_Table (.type "object") = some true)
    (ob_Table : PySem.W.subIn K (.ref c_Table) (.type "object") = some true)
    (ne_Table : PySem.W.findIn K (.ref c_Table) "__ne__" = some (some (.builtin "object.__ne__")))
    (rd_Table : PySem.W.readsIn K c_Table (.type "type") = true)
    (ga_Table : PySem.W.specialIn K (.ref c_Table) "__getattribute__" = some (some (.builtin "type.__getattribute__")))
    (ncolumns_Table : PySem.W.findIn K (.ref c_Table) "columns" = some none)
    (nrow_of_Table : PySem.W.findIn K (.ref c_Table) "row_of" = some none)
    (ic_Table : PySem.W.isClsIn K c_Table = true)
    (ty_Table : PySem.W.typeIn K (.ref c_Table) = some (.type "type"))
    (nq_Table : PySem.W.noSeq K c_Table = true)
    (most_Table : PySem.W.findCls K (.ref c_Table) (.type "type") "MOST" = some (.val (.int 40 tt2)))
    (suNoneType_Table : PySem.W.subIn K (.type "NoneType") (.ref c_Table) = some false)
    (subool_Table : PySem.W.subIn K (.type "bool") (.ref c_Table) = some false)
    (suint_Table : PySem.W.subIn K (.type "int") (.ref c_Table) = some false)
    (sustr_Table : PySem.W.subIn K (.type "str") (.ref c_Table) = some false)
    (sulist_Table : PySem.W.subIn K (.type "list") (.ref c_Table) = some false)
    (sutuple_Table : PySem.W.subIn K (.type "tuple") (.ref c_Table) = some false)
    (sudict_Table : PySem.W.subIn K (.type "dict") (.ref c_Table) = some false)
    (dnNoneType_Table : PySem.W.subIn K (.ref c_Table) (.type "NoneType") = some false)
    (dnbool_Table : PySem.W.subIn K (.ref c_Table) (.type "bool") = some false)
    (dnint_Table : PySem.W.subIn K (.ref c_Table) (.type "int") = some false)
    (dnstr_Table : PySem.W.subIn K (.ref c_Table) (.type "str") = some false)
    (dnlist_Table : PySem.W.subIn K (.ref c_Table) (.type "list") = some false)
    (dntuple_Table : PySem.W.subIn K (.ref c_Table) (.type "tuple") = some false)
    (dndict_Table : PySem.W.subIn K (.ref c_Table) (.type "dict") = some false)
    (widest_Table : PySem.W.findCls K (.ref c_Table) (.type "type") "WIDEST" = some (.val (.int 3 tt3)))
    (mg_Sheet : PySem.W.nsIn K mainGlobals "Sheet" = some (some (.ref c_Sheet)))
    (pg_Sheet : PySem.W.plainGet K c_Sheet Str.empty = true)
    (hd_Sheet : PySem.W.hasDictIn K c_Sheet = true)
    (po_Sheet : PySem.W.plainOver K c_Sheet = true)
    (sa_Sheet : PySem.W.findIn K (.ref c_Sheet) "__setattr__" = some (some (.builtin "object.__setattr__")))
    (mk_Sheet : PySem.W.makesIn K c_Sheet = true)
    (kc_Sheet : PySem.W.keepIn K (.ref c_Sheet) = true)
    (sf_Sheet : PySem.W.selfFirst K c_Sheet = true)
    (ca_Sheet : PySem.W.findIn K (.ref c_Sheet) "__class__" = some (some (.builtin "object.__class__")))
    (cn_Sheet : PySem.W.specialIn K (.builtin "object.__class__") "__get__" = some (some (.builtin "getset_descriptor.__get__")))
    (ct_Sheet : PySem.W.takesIn K (.builtin "object.__class__") = some true)
    (cm_Sheet : PySem.W.mroIn K c_Sheet (.type "object") = some true)
    (ob_Sheet : PySem.W.subIn K (.ref c_Sheet) (.type "object") = some true)
    (ne_Sheet : PySem.W.findIn K (.ref c_Sheet) "__ne__" = some (some (.builtin "object.__ne__")))
    (rd_Sheet : PySem.W.readsIn K c_Sheet (.type "type") = true)
    (ga_Sheet : PySem.W.specialIn K (.ref c_Sheet) "__getattribute__" = some (some (.builtin "type.__getattribute__")))
    (nwide_Sheet : PySem.W.findIn K (.ref c_Sheet) "wide" = some none)
    (nsides_Sheet : PySem.W.findIn K (.ref c_Sheet) "sides" = some none)
    (nsplit_at_Sheet : PySem.W.findIn K (.ref c_Sheet) "split_at" = some none)
    (nstage_Sheet : PySem.W.findIn K (.ref c_Sheet) "stage" = some none)
    (ic_Sheet : PySem.W.isClsIn K c_Sheet = true)
    (ty_Sheet : PySem.W.typeIn K (.ref c_Sheet) = some (.type "type"))
    (mg_TableError : PySem.W.nsIn K mainGlobals "TableError" = some (some (.ref c_TableError)))
    (ga_TableError : PySem.W.findIn K (.ref c_TableError) "__getattribute__" = some (some (.builtin "BaseException.__getattribute__")))
    (gg_TableError : PySem.W.findIn K (.ref c_TableError) "__getattr__" = some none)
    (be_TableError : PySem.W.subIn K (.ref c_TableError) (.type "BaseException") = some true)
    (hd_TableError : PySem.W.hasDictIn K c_TableError = true)
    (ca_TableError : PySem.W.findIn K (.ref c_TableError) "__class__" = some (some (.builtin "object.__class__")))
    (ob_TableError : PySem.W.mroIn K c_TableError (.type "object") = some true)
    (ic_TableError : PySem.W.isClsIn K c_TableError = true)
    (ty_TableError : PySem.W.typeIn K (.ref c_TableError) = some (.type "type"))
    (mg_BadPlace : PySem.W.nsIn K mainGlobals "BadPlace" = some (some (.ref c_BadPlace)))
    (ga_BadPlace : PySem.W.findIn K (.ref c_BadPlace) "__getattribute__" = some (some (.builtin "BaseException.__getattribute__")))
    (gg_BadPlace : PySem.W.findIn K (.ref c_BadPlace) "__getattr__" = some none)
    (be_BadPlace : PySem.W.subIn K (.ref c_BadPlace) (.type "BaseException") = some true)
    (hd_BadPlace : PySem.W.hasDictIn K c_BadPlace = true)
    (ca_BadPlace : PySem.W.findIn K (.ref c_BadPlace) "__class__" = some (some (.builtin "object.__class__")))
    (ob_BadPlace : PySem.W.mroIn K c_BadPlace (.type "object") = some true)
    (ic_BadPlace : PySem.W.isClsIn K c_BadPlace = true)
    (ty_BadPlace : PySem.W.typeIn K (.ref c_BadPlace) = some (.type "type"))
    (mg_BadCells : PySem.W.nsIn K mainGlobals "BadCells" = some (some (.ref c_BadCells)))
    (ga_BadCells : PySem.W.findIn K (.ref c_BadCells) "__getattribute__" = some (some (.builtin "BaseException.__getattribute__")))
    (gg_BadCells : PySem.W.findIn K (.ref c_BadCells) "__getattr__" = some none)
    (be_BadCells : PySem.W.subIn K (.ref c_BadCells) (.type "BaseException") = some true)
    (hd_BadCells : PySem.W.hasDictIn K c_BadCells = true)
    (ca_BadCells : PySem.W.findIn K (.ref c_BadCells) "__class__" = some (some (.builtin "object.__class__")))
    (ob_BadCells : PySem.W.mroIn K c_BadCells (.type "object") = some true)
    (ic_BadCells : PySem.W.isClsIn K c_BadCells = true)
    (ty_BadCells : PySem.W.typeIn K (.ref c_BadCells) = some (.type "type"))
    (mg_TooMany : PySem.W.nsIn K mainGlobals "TooMany" = some (some (.ref c_TooMany)))
    (ga_TooMany : PySem.W.findIn K (.ref c_TooMany) "__getattribute__" = some (some (.builtin "BaseException.__getattribute__")))
    (gg_TooMany : PySem.W.findIn K (.ref c_TooMany) "__getattr__" = some none)
    (be_TooMany : PySem.W.subIn K (.ref c_TooMany) (.type "BaseException") = some true)
    (hd_TooMany : PySem.W.hasDictIn K c_TooMany = true)
    (ca_TooMany : PySem.W.findIn K (.ref c_TooMany) "__class__" = some (some (.builtin "object.__class__")))
    (ob_TooMany : PySem.W.mroIn K c_TooMany (.type "object") = some true)
    (ic_TooMany : PySem.W.isClsIn K c_TooMany = true)
    (ty_TooMany : PySem.W.typeIn K (.ref c_TooMany) = some (.type "type"))
    (mg_BadText : PySem.W.nsIn K mainGlobals "BadText" = some (some (.ref c_BadText)))
    (ga_BadText : PySem.W.findIn K (.ref c_BadText) "__getattribute__" = some (some (.builtin "BaseException.__getattribute__")))
    (gg_BadText : PySem.W.findIn K (.ref c_BadText) "__getattr__" = some none)
    (be_BadText : PySem.W.subIn K (.ref c_BadText) (.type "BaseException") = some true)
    (hd_BadText : PySem.W.hasDictIn K c_BadText = true)
    (ca_BadText : PySem.W.findIn K (.ref c_BadText) "__class__" = some (some (.builtin "object.__class__")))
    (ob_BadText : PySem.W.mroIn K c_BadText (.type "object") = some true)
    (ic_BadText : PySem.W.isClsIn K c_BadText = true)
    (ty_BadText : PySem.W.typeIn K (.ref c_BadText) = some (.type "type"))
    (xa_BadPlace_init : K.lookup c_BadPlace = some (excClassObj nm_BadPlace_init qn_BadPlace_init c_BadPlace N_BadPlace_init bs_BadPlace_init bm_BadPlace_init true sn_BadPlace_init sb_BadPlace_init ab_BadPlace_init co_BadPlace_init dd_BadPlace_init ka_BadPlace_init kb_BadPlace_init kc_BadPlace_init kd_BadPlace_init ke_BadPlace_init "ValueError.__new__"))
    (xb_BadPlace_init : PySem.HandSPX.refsVE bm_BadPlace_init = true)
    (xc_BadPlace_init : PySem.W.findIn K (.ref c_BadPlace) "__setattr__" = some (some (.builtin "object.__setattr__")))
    (xd_BadPlace_init : PySem.W.subIn K (.ref c_BadPlace) (.type "BaseException") = some true)
    (xe_BadPlace_init : PySem.W.typeIn K (.ref c_BadPlace) = some (.type "type"))
    (xf_BadPlace_init : PySem.W.keepIn K (.ref c_BadPlace) = true)
    (xg_BadPlace_init : PySem.W.findIn K (.ref c_BadPlace) "__init__" = some (some (.ref f_BadPlace_init)))
    (xh_BadPlace_init : PySem.W.typeIn K (.ref f_BadPlace_init) = some (.type "function"))
    (xi_BadPlace_init : PySem.W.findIn K (.ref c_BadPlace) "value" = some none)
    (xj_BadPlace_init : PySem.W.nsIn K cStatics "thirdparty.any" = some none)
    (xk_BadPlace_init : PySem.W.ks_superIn K c_BadPlace c_BadPlace "__init__" = some (some (.builtin "ValueError.__init__")))
    (xl_BadPlace_init : PySem.W.subIn K (.ref c_BadPlace) (.type "ValueError") = some true)
    (xm_BadPlace_init : PySem.W.mroIn K c_BadPlace (.ref c_BadPlace) = some true)
    (xn_BadPlace_init : PySem.W.nsIn K mainGlobals "super" = some none)
    (xo_BadPlace_init : (P.main.scope.names.lookup ("super" : Str)).isSome = false)
    (xp_BadPlace_init : K.lookup f_BadPlace_init = some ⟨occ_BadPlace_init, odd_BadPlace_init, .func (erFd ql_BadPlace_init (defArgs s_BadPlace_init) (defBody s_BadPlace_init) (defScope s_BadPlace_init) cc_BadPlace_init kv_BadPlace_init dc_BadPlace_init pm_BadPlace_init ann_BadPlace_init (.ref cda_BadPlace_init) ct_BadPlace_init), os_BadPlace_init⟩)
    (xq_BadPlace_init : PySem.W.codeIn K (.ref cda_BadPlace_init) ql_BadPlace_init = true)
    (xr_BadPlace_init : K.lookup cc_BadPlace_init = some ⟨oc2_BadPlace_init, od2_BadPlace_init, .cell (some (.ref c_BadPlace)), os2_BadPlace_init⟩)
    (xs_BadPlace_init : K.lookup cda_BadPlace_init = some ⟨oc3_BadPlace_init, od3_BadPlace_init, .fields vs_BadPlace_init, os3_BadPlace_init⟩)
    (xt_BadPlace_init : vs_BadPlace_init[2]? = some (.str fl_BadPlace_init tf_BadPlace_init))
    (xu_BadPlace_init : ((P.main.file : Str) == fl_BadPlace_init) = true)
    (xa_BadCells_init : K.lookup c_BadCells = some (excClassObj nm_BadCells_init qn_BadCells_init c_BadCells N_BadCells_init bs_BadCells_init bm_BadCells_init true sn_BadCells_init sb_BadCells_init ab_BadCells_init co_BadCells_init dd_BadCells_init ka_BadCells_init kb_BadCells_init kc_BadCells_init kd_BadCells_init ke_BadCells_init "ValueError.__new__"))
    (xb_BadCells_init : PySem.HandSPX.refsVE bm_BadCells_init = true)
    (xc_BadCells_init : PySem.W.findIn K (.ref c_BadCells) "__setattr__" = some (some (.builtin "object.__setattr__")))
    (xd_BadCells_init : PySem.W.subIn K (.ref c_BadCells) (.type "BaseException") = some true)
    (xe_BadCells_init : PySem.W.typeIn K (.ref c_BadCells) = some (.type "type"))
    (xf_BadCells_init : PySem.W.keepIn K (.ref c_BadCells) = true)
    (xg_BadCells_init : PySem.W.findIn K (.ref c_BadCells) "__init__" = some (some (.ref f_BadCells_init)))
    (xh_BadCells_init : PySem.W.typeIn K (.ref f_BadCells_init) = some (.type "function"))
    (xi_BadCells_init : PySem.W.findIn K (.ref c_BadCells) "place" = some none)
    (xj_BadCells_init : PySem.W.nsIn K cStatics "thirdparty.any" = some none)
    (xk_BadCells_init : PySem.W.ks_superIn K c_BadCells c_BadCells "__init__" = some (some (.builtin "ValueError.__init__")))
    (xl_BadCells_init : PySem.W.subIn K (.ref c_BadCells) (.type "ValueError") = some true)
    (xm_BadCells_init : PySem.W.mroIn K c_BadCells (.ref c_BadCells) = some true)
    (xn_BadCells_init : PySem.W.nsIn K mainGlobals "super" = some none)
    (xo_BadCells_init : (P.main.scope.names.lookup ("super" : Str)).isSome = false)
    (xp_BadCells_init : K.lookup f_BadCells_init = some ⟨occ_BadCells_init, odd_BadCells_init, .func (erFd ql_BadCells_init (defArgs s_BadCells_init) (defBody s_BadCells_init) (defScope s_BadCells_init) cc_BadCells_init kv_BadCells_init dc_BadCells_init pm_BadCells_init ann_BadCells_init (.ref cda_BadCells_init) ct_BadCells_init), os_BadCells_init⟩)
    (xq_BadCells_init : PySem.W.codeIn K (.ref cda_BadCells_init) ql_BadCells_init = true)
    (xr_BadCells_init : K.lookup cc_BadCells_init = some ⟨oc2_BadCells_init, od2_BadCells_init, .cell (some (.ref c_BadCells)), os2_BadCells_init⟩)
    (xs_BadCells_init : K.lookup cda_BadCells_init = some ⟨oc3_BadCells_init, od3_BadCells_init, .fields vs_BadCells_init, os3_BadCells_init⟩)
    (xt_BadCells_init : vs_BadCells_init[2]? = some (.str fl_BadCells_init tf_BadCells_init))
    (xu_BadCells_init : ((P.main.file : Str) == fl_BadCells_init) = true)
    (xa_TooMany_init : K.lookup c_TooMany = some (excClassObj nm_TooMany_init qn_TooMany_init c_TooMany N_TooMany_init bs_TooMany_init bm_TooMany_init true sn_TooMany_init sb_TooMany_init ab_TooMany_init co_TooMany_init dd_TooMany_init ka_TooMany_init kb_TooMany_init kc_TooMany_init kd_TooMany_init ke_TooMany_init "ValueError.__new__"))
    (xb_TooMany_init : PySem.HandSPX.refsVE bm_TooMany_init = true)
    (xc_TooMany_init : PySem.W.findIn K (.ref c_TooMany) "__setattr__" = some (some (.builtin "object.__setattr__")))
    (xd_TooMany_init : PySem.W.subIn K (.ref c_TooMany) (.type "BaseException") = some true)
    (xe_TooMany_init : PySem.W.typeIn K (.ref c_TooMany) = some (.type "type"))
    (xf_TooMany_init : PySem.W.keepIn K (.ref c_TooMany) = true)
    (xg_TooMany_init : PySem.W.findIn K (.ref c_TooMany) "__init__" = some (some (.ref f_TooMany_init)))
    (xh_TooMany_init : PySem.W.typeIn K (.ref f_TooMany_init) = some (.type "function"))
    (xi_TooMany_init : PySem.W.findIn K (.ref c_TooMany) "most" = some none)
    (xj_TooMany_init : PySem.W.nsIn K cStatics "thirdparty.any" = some none)
    (xk_TooMany_init : PySem.W.ks_superIn K c_TooMany c_TooMany "__init__" = some (some (.builtin "ValueError.__init__")))
    (xl_TooMany_init : PySem.W.subIn K (.ref c_TooMany) (.type "ValueError") = some true)
    (xm_TooMany_init : PySem.W.mroIn K c_TooMany (.ref c_TooMany) = some true)
    (xn_TooMany_init : PySem.W.nsIn K mainGlobals "super" = some none)
    (xo_TooMany_init : (P.main.scope.names.lookup ("super" : Str)).isSome = false)
    (xp_TooMany_init : K.lookup f_TooMany_init = some ⟨occ_TooMany_init, odd_TooMany_init, .func (erFd ql_TooMany_init (defArgs s_TooMany_init) (defBody s_TooMany_init) (defScope s_TooMany_init) cc_TooMany_init kv_TooMany_init dc_TooMany_init pm_TooMany_init ann_TooMany_init (.ref cda_TooMany_init) ct_TooMany_init), os_TooMany_init⟩)
    (xq_TooMany_init : PySem.W.codeIn K (.ref cda_TooMany_init) ql_TooMany_init = true)
    (xr_TooMany_init : K.lookup cc_TooMany_init = some ⟨oc2_TooMany_init, od2_TooMany_init, .cell (some (.ref c_TooMany)), os2_TooMany_init⟩)
    (xs_TooMany_init : K.lookup cda_TooMany_init = some ⟨oc3_TooMany_init, od3_TooMany_init, .fields vs_TooMany_init, os3_TooMany_init⟩)
    (xt_TooMany_init : vs_TooMany_init[2]? = some (.str fl_TooMany_init tf_TooMany_init))
    (xu_TooMany_init : ((P.main.file : Str) == fl_TooMany_init) = true)
    (xa_BadText_init : K.lookup c_BadText = some (excClassObj nm_BadText_init qn_BadText_init c_BadText N_BadText_init bs_BadText_init bm_BadText_init true sn_BadText_init sb_BadText_init ab_BadText_init co_BadText_init dd_BadText_init ka_BadText_init kb_BadText_init kc_BadText_init kd_BadText_init ke_BadText_init "ValueError.__new__"))
    (xb_BadText_init : PySem.HandSPX.refsVE bm_BadText_init = true)
    (xc_BadText_init : PySem.W.findIn K (.ref c_BadText) "__setattr__" = some (some (.builtin "object.__setattr__")))
    (xd_BadText_init : PySem.W.subIn K (.ref c_BadText) (.type "BaseException") = some true)
    (xe_BadText_init : PySem.W.typeIn K (.ref c_BadText) = some (.type "type"))
    (xf_BadText_init : PySem.W.keepIn K (.ref c_BadText) = true)
    (xg_BadText_init : PySem.W.findIn K (.ref c_BadText) "__init__" = some (some (.ref f_BadText_init)))
    (xh_BadText_init : PySem.W.typeIn K (.ref f_BadText_init) = some (.type "function"))
    (xi_BadText_init : PySem.W.findIn K (.ref c_BadText) "line" = some none)
    (xi2_BadText_init : PySem.W.findIn K (.ref c_BadText) "word" = some none)
    (xj_BadText_init : PySem.W.nsIn K cStatics "thirdparty.any" = some none)
    (xk_BadText_init : PySem.W.ks_superIn K c_BadText c_BadText "__init__" = some (some (.builtin "ValueError.__init__")))
    (xl_BadText_init : PySem.W.subIn K (.ref c_BadText) (.type "ValueError") = some true)
    (xm_BadText_init : PySem.W.mroIn K c_BadText (.ref c_BadText) = some true)
    (xn_BadText_init : PySem.W.nsIn K mainGlobals "super" = some none)
    (xo_BadText_init : (P.main.scope.names.lookup ("super" : Str)).isSome = false)
    (xp_BadText_init : K.lookup f_BadText_init = some ⟨occ_BadText_init, odd_BadText_init, .func (erFd ql_BadText_init (defArgs s_BadText_init) (defBody s_BadText_init) (defScope s_BadText_init) cc_BadText_init kv_BadText_init dc_BadText_init pm_BadText_init ann_BadText_init (.ref cda_BadText_init) ct_BadText_init), os_BadText_init⟩)
    (xq_BadText_init : PySem.W.codeIn K (.ref cda_BadText_init) ql_BadText_init = true)
    (xr_BadText_init : K.lookup cc_BadText_init = some ⟨oc2_BadText_init, od2_BadText_init, .cell (some (.ref c_BadText)), os2_BadText_init⟩)
    (xs_BadText_init : K.lookup cda_BadText_init = some ⟨oc3_BadText_init, od3_BadText_init, .fields vs_BadText_init, os3_BadText_init⟩)
    (xt_BadText_init : vs_BadText_init[2]? = some (.str fl_BadText_init tf_BadText_init))
    (xu_BadText_init : ((P.main.file : Str) == fl_BadText_init) = true)
    (mg_is_name : PySem.W.nsIn K mainGlobals "is_name" = some (some (.ref f_is_name)))
    (fn_is_name : PySem.W.isFn K (.ref f_is_name) = true)
    (l_is_name : K.lookup f_is_name = some ⟨oc_is_name, od_is_name, .func (PySem.W.fnOf "is_name" "is_name" (defArgs s_is_name) (defBody s_is_name) (defScope s_is_name) .none kV_is_name dc_is_name pm_is_name an_is_name cd_is_name ct_is_name), sl_is_name⟩)
    (cc_is_name : PySem.W.codeIn K cd_is_name "is_name" = true)
    (kk_is_name : PySem.W.keepIn K (.ref f_is_name) = true)
    (kp_is_name : PySem.W.keepIn K (.ref f_is_name) = true)
    (mg_is_text : PySem.W.nsIn K mainGlobals "is_text" = some (some (.ref f_is_text)))
    (fn_is_text : PySem.W.isFn K (.ref f_is_text) = true)
    (l_is_text : K.lookup f_is_text = some ⟨oc_is_text, od_is_text, .func (PySem.W.fnOf "is_text" "is_text" (defArgs s_is_text) (defBody s_is_text) (defScope s_is_text) .none kV_is_text dc_is_text pm_is_text an_is_text cd_is_text ct_is_text), sl_is_text⟩)
    (cc_is_text : PySem.W.codeIn K cd_is_text "is_text" = true)
    (kk_is_text : PySem.W.keepIn K (.ref f_is_text) = true)
    (kp_is_text : PySem.W.keepIn K (.ref f_is_text) = true)
    (mg_names_in : PySem.W.nsIn K mainGlobals "names_in" = some (some (.ref f_names_in)))
    (fn_names_in : PySem.W.isFn K (.ref f_names_in) = true)
    (l_names_in : K.lookup f_names_in = some ⟨oc_names_in, od_names_in, .func (PySem.W.fnOf "names_in" "names_in" (defArgs s_names_in) (defBody s_names_in) (defScope s_names_in) .none kV_names_in dc_names_in pm_names_in an_names_in cd_names_in ct_names_in), sl_names_in⟩)
    (cc_names_in : PySem.W.codeIn K cd_names_in "names_in" = true)
    (kk_names_in : PySem.W.keepIn K (.ref f_names_in) = true)
    (kp_names_in : PySem.W.keepIn K (.ref f_names_in) = true)
    (mg_text_of : PySem.W.nsIn K mainGlobals "text_of" = some (some (.ref f_text_of)))
    (fn_text_of : PySem.W.isFn K (.ref f_text_of) = true)
    (l_text_of : K.lookup f_text_of = some ⟨oc_text_of, od_text_of, .func (PySem.W.fnOf "text_of" "text_of" (defArgs s_text_of) (defBody s_text_of) (defScope s_text_of) .none kV_text_of dc_text_of pm_text_of an_text_of cd_text_of ct_text_of), sl_text_of⟩)
    (cc_text_of : PySem.W.codeIn K cd_text_of "text_of" = true)
    (kk_text_of : PySem.W.keepIn K (.ref f_text_of) = true)
    (kp_text_of : PySem.W.keepIn K (.ref f_text_of) = true)
    (at_Place_init : PySem.W.findIn K (.ref c_Place) "__init__" = some (some (.ref f_Place_init)))
    (fn_Place_init : PySem.W.isFn K (.ref f_Place_init) = true)
    (l_Place_init : K.lookup f_Place_init = some ⟨oc_Place_init, od_Place_init, .func (PySem.W.fnOf "__init__" "Place.__init__" (defArgs s_Place_init) (defBody s_Place_init) (defScope s_Place_init) .none kV_Place_init dc_Place_init pm_Place_init an_Place_init cd_Place_init ct_Place_init), sl_Place_init⟩)
    (cc_Place_init : PySem.W.codeIn K cd_Place_init "Place.__init__" = true)
    (kk_Place_init : PySem.W.keepIn K (.ref f_Place_init) = true)
    (kp_Place_init : PySem.W.keepIn K (.ref f_Place_init) = true)
    (at_Place_read : PySem.W.findCls K (.ref c_Place) (.type "type") "read" = some (.get (.builtin "classmethod.__get__") (.ref p_Place_read) .none (.ref c_Place)))
    (rc_Place_read : PySem.W.recIn K p_Place_read "classmethod" = some (.ref f_Place_read :: rr4))
    (fi_Place_read : PySem.W.fnIn K f_Place_read = true)
    (fn_Place_read : PySem.W.isFn K (.ref f_Place_read) = true)
    (l_Place_read : K.lookup f_Place_read = some ⟨oc_Place_read, od_Place_read, .func (PySem.W.fnOf "read" "Place.read" (defArgs s_Place_read) (defBody s_Place_read) (defScope s_Place_read) .none kV_Place_read dc_Place_read pm_Place_read an_Place_read cd_Place_read ct_Place_read), sl_Place_read⟩)
    (cc_Place_read : PySem.W.codeIn K cd_Place_read "Place.read" = true)
    (kk_Place_read : PySem.W.keepIn K (.ref f_Place_read) = true)
    (kp_Place_read : PySem.W.keepIn K (.ref f_Place_read) = true)
    (mg_parts_at : PySem.W.nsIn K mainGlobals "parts_at" = some (some (.ref f_parts_at)))
    (fn_parts_at : PySem.W.isFn K (.ref f_parts_at) = true)
    (l_parts_at : K.lookup f_parts_at = some ⟨oc_parts_at, od_parts_at, .func (PySem.W.fnOf "parts_at" "parts_at" (defArgs s_parts_at) (defBody s_parts_at) (defScope s_parts_at) .none kV_parts_at dc_parts_at pm_parts_at an_parts_at cd_parts_at ct_parts_at), sl_parts_at⟩)
    (cc_parts_at : PySem.W.codeIn K cd_parts_at "parts_at" = true)
    (kk_parts_at : PySem.W.keepIn K (.ref f_parts_at) = true)
    (kp_parts_at : PySem.W.keepIn K (.ref f_parts_at) = true)
    (mg_text_at : PySem.W.nsIn K mainGlobals "text_at" = some (some (.ref f_text_at)))
    (fn_text_at : PySem.W.isFn K (.ref f_text_at) = true)
    (l_text_at : K.lookup f_text_at = some ⟨oc_text_at, od_text_at, .func (PySem.W.fnOf "text_at" "text_at" (defArgs s_text_at) (defBody s_text_at) (defScope s_text_at) .none kV_text_at dc_text_at pm_text_at an_text_at cd_text_at ct_text_at), sl_text_at⟩)
    (cc_text_at : PySem.W.codeIn K cd_text_at "text_at" = true)
    (kk_text_at : PySem.W.keepIn K (.ref f_text_at) = true)
    (kp_text_at : PySem.W.keepIn K (.ref f_text_at) = true)
    (mg_need_columns : PySem.W.nsIn K mainGlobals "need_columns" = some (some (.ref f_need_columns)))
    (fn_need_columns : PySem.W.isFn K (.ref f_need_columns) = true)
    (l_need_columns : K.lookup f_need_columns = some ⟨oc_need_columns, od_need_columns, .func (PySem.W.fnOf "need_columns" "need_columns" (defArgs s_need_columns) (defBody s_need_columns) (defScope s_need_columns) .none kV_need_columns dc_need_columns pm_need_columns an_need_columns cd_need_columns ct_need_columns), sl_need_columns⟩)
    (cc_need_columns : PySem.W.codeIn K cd_need_columns "need_columns" = true)
    (kk_need_columns : PySem.W.keepIn K (.ref f_need_columns) = true)
    (kp_need_columns : PySem.W.keepIn K (.ref f_need_columns) = true)
    (mg_need_keys : PySem.W.nsIn K mainGlobals "need_keys" = some (some (.ref f_need_keys)))
    (fn_need_keys : PySem.W.isFn K (.ref f_need_keys) = true)
    (l_need_keys : K.lookup f_need_keys = some ⟨oc_need_keys, od_need_keys, .func (PySem.W.fnOf "need_keys" "need_keys" (defArgs s_need_keys) (defBody s_need_keys) (defScope s_need_keys) .none kV_need_keys dc_need_keys pm_need_keys an_need_keys cd_need_keys ct_need_keys), sl_need_keys⟩)
    (cc_need_keys : PySem.W.codeIn K cd_need_keys "need_keys" = true)
    (kk_need_keys : PySem.W.keepIn K (.ref f_need_keys) = true)
    (kp_need_keys : PySem.W.keepIn K (.ref f_need_keys) = true)
    (mg_is_cells : PySem.W.nsIn K mainGlobals "is_cells" = some (some (.ref f_is_cells)))
    (fn_is_cells : PySem.W.isFn K (.ref f_is_cells) = true)
    (l_is_cells : K.lookup f_is_cells = some ⟨oc_is_cells, od_is_cells, .func (PySem.W.fnOf "is_cells" "is_cells" (defArgs s_is_cells) (defBody s_is_cells) (defScope s_is_cells) .none kV_is_cells dc_is_cells pm_is_cells an_is_cells cd_is_cells ct_is_cells), sl_is_cells⟩)
    (cc_is_cells : PySem.W.codeIn K cd_is_cells "is_cells" = true)
    (kk_is_cells : PySem.W.keepIn K (.ref f_is_cells) = true)
    (kp_is_cells : PySem.W.keepIn K (.ref f_is_cells) = true)
    (mg_joined_rows : PySem.W.nsIn K mainGlobals "joined_rows" = some (some (.ref f_joined_rows)))
    (fn_joined_rows : PySem.W.isFn K (.ref f_joined_rows) = true)
    (l_joined_rows : K.lookup f_joined_rows = some ⟨oc_joined_rows, od_joined_rows, .func (PySem.W.fnOf "joined_rows" "joined_rows" (defArgs s_joined_rows) (defBody s_joined_rows) (defScope s_joined_rows) .none kV_joined_rows dc_joined_rows pm_joined_rows an_joined_rows cd_joined_rows ct_joined_rows), sl_joined_rows⟩)
    (cc_joined_rows : PySem.W.codeIn K cd_joined_rows "joined_rows" = true)
    (kk_joined_rows : PySem.W.keepIn K (.ref f_joined_rows) = true)
    (kp_joined_rows : PySem.W.keepIn K (.ref f_joined_rows) = true)
    (at_Table_init : PySem.W.findIn K (.ref c_Table) "__init__" = some (some (.ref f_Table_init)))
    (fn_Table_init : PySem.W.isFn K (.ref f_Table_init) = true)
    (l_Table_init : K.lookup f_Table_init = some ⟨oc_Table_init, od_Table_init, .func (PySem.W.fnOf "__init__" "Table.__init__" (defArgs s_Table_init) (defBody s_Table_init) (defScope s_Table_init) (.ref T_Table_init) kV_Table_init dc_Table_init pm_Table_init an_Table_init cd_Table_init ct_Table_init), sl_Table_init⟩)
    (cc_Table_init : PySem.W.codeIn K cd_Table_init "Table.__init__" = true)
    (kk_Table_init : PySem.W.keepIn K (.ref f_Table_init) = true)
    (lT_Table_init : K.lookup T_Table_init = some ⟨ocT_Table_init, odT_Table_init, .seq #[.none] nT_Table_init, slT_Table_init⟩)
    (kp_Table_init : PySem.W.keepIn K (.ref f_Table_init) = true)
    (at_Table_places : PySem.W.findIn K (.ref c_Table) "places" = some (some (.ref p_Table_places)))
    (ge_Table_places : PySem.W.specialIn K (.ref p_Table_places) "__get__" = some (some (.builtin "property.__get__")))
    (tk_Table_places : PySem.W.takesIn K (.ref p_Table_places) = some true)
    (rc_Table_places : PySem.W.recIn K p_Table_places "property" = some (.ref f_Table_places :: rr5))
    (fn_Table_places : PySem.W.isFn K (.ref f_Table_places) = true)
    (l_Table_places : K.lookup f_Table_places = some ⟨oc_Table_places, od_Table_places, .func (PySem.W.fnOf "places" "Table.places" (defArgs s_Table_places) (defBody s_Table_places) (defScope s_Table_places) .none kV_Table_places dc_Table_places pm_Table_places an_Table_places cd_Table_places ct_Table_places), sl_Table_places⟩)
    (cc_Table_places : PySem.W.codeIn K cd_Table_places "Table.places" = true)
    (kk_Table_places : PySem.W.keepIn K (.ref f_Table_places) = true)
    (kp_Table_places : PySem.W.keepIn K (.ref f_Table_places) = true)
    (at_Table_getitem : PySem.W.findIn K (.ref c_Table) "__getitem__" = some (some (.ref f_Table_getitem)))
    (fn_Table_getitem : PySem.W.isFn K (.ref f_Table_getitem) = true)
    (l_Table_getitem : K.lookup f_Table_getitem = some ⟨oc_Table_getitem, od_Table_getitem, .func (PySem.W.fnOf "__getitem__" "Table.__getitem__" (defArgs s_Table_getitem) (defBody s_Table_getitem) (defScope s_Table_getitem) .none kV_Table_getitem dc_Table_getitem pm_Table_getitem an_Table_getitem cd_Table_getitem ct_Table_getitem), sl_Table_getitem⟩)
    (cc_Table_getitem : PySem.W.codeIn K cd_Table_getitem "Table.__getitem__" = true)
    (kk_Table_getitem : PySem.W.keepIn K (.ref f_Table_getitem) = true)
    (fi_Table_getitem : PySem.W.fnIn K f_Table_getitem = true)
    (kp_Table_getitem : PySem.W.keepIn K (.ref f_Table_getitem) = true)
    (at_Table_setitem : PySem.W.findIn K (.ref c_Table) "__setitem__" = some (some (.ref f_Table_setitem)))
    (fn_Table_setitem : PySem.W.isFn K (.ref f_Table_setitem) = true)
    (l_Table_setitem : K.lookup f_Table_setitem = some ⟨oc_Table_setitem, od_Table_setitem, .func (PySem.W.fnOf "__setitem__" "Table.__setitem__" (defArgs s_Table_setitem) (defBody s_Table_setitem) (defScope s_Table_setitem) .none kV_Table_setitem dc_Table_setitem pm_Table_setitem an_Table_setitem cd_Table_setitem ct_Table_setitem), sl_Table_setitem⟩)
    (cc_Table_setitem : PySem.W.codeIn K cd_Table_setitem "Table.__setitem__" = true)
    (kk_Table_setitem : PySem.W.keepIn K (.ref f_Table_setitem) = true)
    (kp_Table_setitem : PySem.W.keepIn K (.ref f_Table_setitem) = true)
    (at_Table_contains : PySem.W.findIn K (.ref c_Table) "__contains__" = some (some (.ref f_Table_contains)))
    (fn_Table_contains : PySem.W.isFn K (.ref f_Table_contains) = true)
    (l_Table_contains : K.lookup f_Table_contains = some ⟨oc_Table_contains, od_Table_contains, .func (PySem.W.fnOf "__contains__" "Table.__contains__" (defArgs s_Table_contains) (defBody s_Table_contains) (defScope s_Table_contains) .none kV_Table_contains dc_Table_contains pm_Table_contains an_Table_contains cd_Table_contains ct_Table_contains), sl_Table_contains⟩)
    (cc_Table_contains : PySem.W.codeIn K cd_Table_contains "Table.__contains__" = true)
    (kk_Table_contains : PySem.W.keepIn K (.ref f_Table_contains) = true)
    (kp_Table_contains : PySem.W.keepIn K (.ref f_Table_contains) = true)
    (at_Table_len : PySem.W.findIn K (.ref c_Table) "__len__" = some (some (.ref f_Table_len)))
    (fn_Table_len : PySem.W.isFn K (.ref f_Table_len) = true)
    (l_Table_len : K.lookup f_Table_len = some ⟨oc_Table_len, od_Table_len, .func (PySem.W.fnOf "__len__" "Table.__len__" (defArgs s_Table_len) (defBody s_Table_len) (defScope s_Table_len) .none kV_Table_len dc_Table_len pm_Table_len an_Table_len cd_Table_len ct_Table_len), sl_Table_len⟩)
    (cc_Table_len : PySem.W.codeIn K cd_Table_len "Table.__len__" = true)
    (kk_Table_len : PySem.W.keepIn K (.ref f_Table_len) = true)
    (kp_Table_len : PySem.W.keepIn K (.ref f_Table_len) = true)
    (at_Table_bool : PySem.W.findIn K (.ref c_Table) "__bool__" = some (some (.ref f_Table_bool)))
    (fn_Table_bool : PySem.W.isFn K (.ref f_Table_bool) = true)
    (l_Table_bool : K.lookup f_Table_bool = some ⟨oc_Table_bool, od_Table_bool, .func (PySem.W.fnOf "__bool__" "Table.__bool__" (defArgs s_Table_bool) (defBody s_Table_bool) (defScope s_Table_bool) .none kV_Table_bool dc_Table_bool pm_Table_bool an_Table_bool cd_Table_bool ct_Table_bool), sl_Table_bool⟩)
    (cc_Table_bool : PySem.W.codeIn K cd_Table_bool "Table.__bool__" = true)
    (kk_Table_bool : PySem.W.keepIn K (.ref f_Table_bool) = true)
    (kp_Table_bool : PySem.W.keepIn K (.ref f_Table_bool) = true)
    (at_Table_cells : PySem.W.findIn K (.ref c_Table) "cells" = some (some (.ref f_Table_cells)))
    (fn_Table_cells : PySem.W.isFn K (.ref f_Table_cells) = true)
    (l_Table_cells : K.lookup f_Table_cells = some ⟨oc_Table_cells, od_Table_cells, .func (PySem.W.fnOf "cells" "Table.cells" (defArgs s_Table_cells) (defBody s_Table_cells) (defScope s_Table_cells) .none kV_Table_cells dc_Table_cells pm_Table_cells an_Table_cells cd_Table_cells ct_Table_cells), sl_Table_cells⟩)
    (cc_Table_cells : PySem.W.codeIn K cd_Table_cells "Table.cells" = true)
    (kk_Table_cells : PySem.W.keepIn K (.ref f_Table_cells) = true)
    (kp_Table_cells : PySem.W.keepIn K (.ref f_Table_cells) = true)
    (at_Table_eq : PySem.W.findIn K (.ref c_Table) "__eq__" = some (some (.ref f_Table_eq)))
    (fn_Table_eq : PySem.W.isFn K (.ref f_Table_eq) = true)
    (l_Table_eq : K.lookup f_Table_eq = some ⟨oc_Table_eq, od_Table_eq, .func (PySem.W.fnOf "__eq__" "Table.__eq__" (defArgs s_Table_eq) (defBody s_Table_eq) (defScope s_Table_eq) .none kV_Table_eq dc_Table_eq pm_Table_eq an_Table_eq cd_Table_eq ct_Table_eq), sl_Table_eq⟩)
    (cc_Table_eq : PySem.W.codeIn K cd_Table_eq "Table.__eq__" = true)
    (kk_Table_eq : PySem.W.keepIn K (.ref f_Table_eq) = true)
    (kp_Table_eq : PySem.W.keepIn K (.ref f_Table_eq) = true)
    (mg_row_text : PySem.W.nsIn K mainGlobals "row_text" = some (some (.ref f_row_text)))
    (fn_row_text : PySem.W.isFn K (.ref f_row_text) = true)
    (l_row_text : K.lookup f_row_text = some ⟨oc_row_text, od_row_text, .func (PySem.W.fnOf "row_text" "row_text" (defArgs s_row_text) (defBody s_row_text) (defScope s_row_text) .none kV_row_text dc_row_text pm_row_text an_row_text cd_row_text ct_row_text), sl_row_text⟩)
    (cc_row_text : PySem.W.codeIn K cd_row_text "row_text" = true)
    (kk_row_text : PySem.W.keepIn K (.ref f_row_text) = true)
    (kp_row_text : PySem.W.keepIn K (.ref f_row_text) = true)
    (mg_show_table : PySem.W.nsIn K mainGlobals "show_table" = some (some (.ref f_show_table)))
    (fn_show_table : PySem.W.isFn K (.ref f_show_table) = true)
    (l_show_table : K.lookup f_show_table = some ⟨oc_show_table, od_show_table, .func (PySem.W.fnOf "show_table" "show_table" (defArgs s_show_table) (defBody s_show_table) (defScope s_show_table) .none kV_show_table dc_show_table pm_show_table an_show_table cd_show_table ct_show_table), sl_show_table⟩)
    (cc_show_table : PySem.W.codeIn K cd_show_table "show_table" = true)
    (kk_show_table : PySem.W.keepIn K (.ref f_show_table) = true)
    (kp_show_table : PySem.W.keepIn K (.ref f_show_table) = true)
    (mg_need : PySem.W.nsIn K mainGlobals "need" = some (some (.ref f_need)))
    (fn_need : PySem.W.isFn K (.ref f_need) = true)
    (l_need : K.lookup f_need = some ⟨oc_need, od_need, .func (PySem.W.fnOf "need" "need" (defArgs s_need) (defBody s_need) (defScope s_need) .none kV_need dc_need pm_need an_need cd_need ct_need), sl_need⟩)
    (cc_need : PySem.W.codeIn K cd_need "need" = true)
    (kk_need : PySem.W.keepIn K (.ref f_need) = true)
    (kp_need : PySem.W.keepIn K (.ref f_need) = true)
    (mg_words_of : PySem.W.nsIn K mainGlobals "words_of" = some (some (.ref f_words_of)))
    (fn_words_of : PySem.W.isFn K (.ref f_words_of) = true)
    (l_words_of : K.lookup f_words_of = some ⟨oc_words_of, od_words_of, .func (PySem.W.fnOf "words_of" "words_of" (defArgs s_words_of) (defBody s_words_of) (defScope s_words_of) .none kV_words_of dc_words_of pm_words_of an_words_of cd_words_of ct_words_of), sl_words_of⟩)
    (cc_words_of : PySem.W.codeIn K cd_words_of "words_of" = true)
    (kk_words_of : PySem.W.keepIn K (.ref f_words_of) = true)
    (kp_words_of : PySem.W.keepIn K (.ref f_words_of) = true)
    (mg_columns_in : PySem.W.nsIn K mainGlobals "columns_in" = some (some (.ref f_columns_in)))
    (fn_columns_in : PySem.W.isFn K (.ref f_columns_in) = true)
    (l_columns_in : K.lookup f_columns_in = some ⟨oc_columns_in, od_columns_in, .func (PySem.W.fnOf "columns_in" "columns_in" (defArgs s_columns_in) (defBody s_columns_in) (defScope s_columns_in) .none kV_columns_in dc_columns_in pm_columns_in an_columns_in cd_columns_in ct_columns_in), sl_columns_in⟩)
    (cc_columns_in : PySem.W.codeIn K cd_columns_in "columns_in" = true)
    (kk_columns_in : PySem.W.keepIn K (.ref f_columns_in) = true)
    (kp_columns_in : PySem.W.keepIn K (.ref f_columns_in) = true)
    (mg_cells_in : PySem.W.nsIn K mainGlobals "cells_in" = some (some (.ref f_cells_in)))
    (fn_cells_in : PySem.W.isFn K (.ref f_cells_in) = true)
    (l_cells_in : K.lookup f_cells_in = some ⟨oc_cells_in, od_cells_in, .func (PySem.W.fnOf "cells_in" "cells_in" (defArgs s_cells_in) (defBody s_cells_in) (defScope s_cells_in) .none kV_cells_in dc_cells_in pm_cells_in an_cells_in cd_cells_in ct_cells_in), sl_cells_in⟩)
    (cc_cells_in : PySem.W.codeIn K cd_cells_in "cells_in" = true)
    (kk_cells_in : PySem.W.keepIn K (.ref f_cells_in) = true)
    (kp_cells_in : PySem.W.keepIn K (.ref f_cells_in) = true)
    (at_Sheet_init : PySem.W.findIn K (.ref c_Sheet) "__init__" = some (some (.ref f_Sheet_init)))
    (fn_Sheet_init : PySem.W.isFn K (.ref f_Sheet_init) = true)
    (l_Sheet_init : K.lookup f_Sheet_init = some ⟨oc_Sheet_init, od_Sheet_init, .func (PySem.W.fnOf "__init__" "Sheet.__init__" (defArgs s_Sheet_init) (defBody s_Sheet_init) (defScope s_Sheet_init) .none kV_Sheet_init dc_Sheet_init pm_Sheet_init an_Sheet_init cd_Sheet_init ct_Sheet_init), sl_Sheet_init⟩)
    (cc_Sheet_init : PySem.W.codeIn K cd_Sheet_init "Sheet.__init__" = true)
    (kk_Sheet_init : PySem.W.keepIn K (.ref f_Sheet_init) = true)
    (kp_Sheet_init : PySem.W.keepIn K (.ref f_Sheet_init) = true)
    (at_Sheet_is_room : PySem.W.findIn K (.ref c_Sheet) "is_room" = some (some (.ref f_Sheet_is_room)))
    (fn_Sheet_is_room : PySem.W.isFn K (.ref f_Sheet_is_room) = true)
    (l_Sheet_is_room : K.lookup f_Sheet_is_room = some ⟨oc_Sheet_is_room, od_Sheet_is_room, .func (PySem.W.fnOf "is_room" "Sheet.is_room" (defArgs s_Sheet_is_room) (defBody s_Sheet_is_room) (defScope s_Sheet_is_room) .none kV_Sheet_is_room dc_Sheet_is_room pm_Sheet_is_room an_Sheet_is_room cd_Sheet_is_room ct_Sheet_is_room), sl_Sheet_is_room⟩)
    (cc_Sheet_is_room : PySem.W.codeIn K cd_Sheet_is_room "Sheet.is_room" = true)
    (kk_Sheet_is_room : PySem.W.keepIn K (.ref f_Sheet_is_room) = true)
    (kp_Sheet_is_room : PySem.W.keepIn K (.ref f_Sheet_is_room) = true)
    (at_Sheet_add_row : PySem.W.findIn K (.ref c_Sheet) "add_row" = some (some (.ref f_Sheet_add_row)))
    (fn_Sheet_add_row : PySem.W.isFn K (.ref f_Sheet_add_row) = true)
    (l_Sheet_add_row : K.lookup f_Sheet_add_row = some ⟨oc_Sheet_add_row, od_Sheet_add_row, .func (PySem.W.fnOf "add_row" "Sheet.add_row" (defArgs s_Sheet_add_row) (defBody s_Sheet_add_row) (defScope s_Sheet_add_row) .none kV_Sheet_add_row dc_Sheet_add_row pm_Sheet_add_row an_Sheet_add_row cd_Sheet_add_row ct_Sheet_add_row), sl_Sheet_add_row⟩)
    (cc_Sheet_add_row : PySem.W.codeIn K cd_Sheet_add_row "Sheet.add_row" = true)
    (kk_Sheet_add_row : PySem.W.keepIn K (.ref f_Sheet_add_row) = true)
    (kp_Sheet_add_row : PySem.W.keepIn K (.ref f_Sheet_add_row) = true)
    (at_Sheet_table_on : PySem.W.findIn K (.ref c_Sheet) "table_on" = some (some (.ref f_Sheet_table_on)))
    (fn_Sheet_table_on : PySem.W.isFn K (.ref f_Sheet_table_on) = true)
    (l_Sheet_table_on : K.lookup f_Sheet_table_on = some ⟨oc_Sheet_table_on, od_Sheet_table_on, .func (PySem.W.fnOf "table_on" "Sheet.table_on" (defArgs s_Sheet_table_on) (defBody s_Sheet_table_on) (defScope s_Sheet_table_on) .none kV_Sheet_table_on dc_Sheet_table_on pm_Sheet_table_on an_Sheet_table_on cd_Sheet_table_on ct_Sheet_table_on), sl_Sheet_table_on⟩)
    (cc_Sheet_table_on : PySem.W.codeIn K cd_Sheet_table_on "Sheet.table_on" = true)
    (kk_Sheet_table_on : PySem.W.keepIn K (.ref f_Sheet_table_on) = true)
    (kp_Sheet_table_on : PySem.W.keepIn K (.ref f_Sheet_table_on) = true)
    (mg_read_table : PySem.W.nsIn K mainGlobals "read_table" = some (some (.ref f_read_table)))
    (fn_read_table : PySem.W.isFn K (.ref f_read_table) = true)
    (l_read_table : K.lookup f_read_table = some ⟨oc_read_table, od_read_table, .func (PySem.W.fnOf "read_table" "read_table" (defArgs s_read_table) (defBody s_read_table) (defScope s_read_table) .none kV_read_table dc_read_table pm_read_table an_read_table cd_read_table ct_read_table), sl_read_table⟩)
    (cc_read_table : PySem.W.codeIn K cd_read_table "read_table" = true)
    (kk_read_table : PySem.W.keepIn K (.ref f_read_table) = true)
    (kp_read_table : PySem.W.keepIn K (.ref f_read_table) = true)
    (mg_law_pen : PySem.W.nsIn K mainGlobals "_law_pen" = some (some (.ref f_law_pen)))
    (fn_law_pen : PySem.W.isFn K (.ref f_law_pen) = true)
    (l_law_pen : K.lookup f_law_pen = some ⟨oc_law_pen, od_law_pen, .func (PySem.W.fnOf "_law_pen" "_law_pen" (defArgs s_law_pen) (defBody s_law_pen) (defScope s_law_pen) .none kV_law_pen dc_law_pen pm_law_pen an_law_pen cd_law_pen ct_law_pen), sl_law_pen⟩)
    (cc_law_pen : PySem.W.codeIn K cd_law_pen "_law_pen" = true)
    (kk_law_pen : PySem.W.keepIn K (.ref f_law_pen) = true)
    (kp_law_pen : PySem.W.keepIn K (.ref f_law_pen) = true)
    (mg_law_draw : PySem.W.nsIn K mainGlobals "_law_draw" = some (some (.ref f_law_draw)))
    (fn_law_draw : PySem.W.isFn K (.ref f_law_draw) = true)
    (l_law_draw : K.lookup f_law_draw = some ⟨oc_law_draw, od_law_draw, .func (PySem.W.fnOf "_law_draw" "_law_draw" (defArgs s_law_draw) (defBody s_law_draw) (defScope s_law_draw) .none kV_law_draw dc_law_draw pm_law_draw an_law_draw cd_law_draw ct_law_draw), sl_law_draw⟩)
    (cc_law_draw : PySem.W.codeIn K cd_law_draw "_law_draw" = true)
    (kk_law_draw : PySem.W.keepIn K (.ref f_law_draw) = true)
    (kp_law_draw : PySem.W.keepIn K (.ref f_law_draw) = true)
    (mg_law_pick : PySem.W.nsIn K mainGlobals "_law_pick" = some (some (.ref f_law_pick)))
    (fn_law_pick : PySem.W.isFn K (.ref f_law_pick) = true)
    (l_law_pick : K.lookup f_law_pick = some ⟨oc_law_pick, od_law_pick, .func (PySem.W.fnOf "_law_pick" "_law_pick" (defArgs s_law_pick) (defBody s_law_pick) (defScope s_law_pick) .none kV_law_pick dc_law_pick pm_law_pick an_law_pick cd_law_pick ct_law_pick), sl_law_pick⟩)
    (cc_law_pick : PySem.W.codeIn K cd_law_pick "_law_pick" = true)
    (kk_law_pick : PySem.W.keepIn K (.ref f_law_pick) = true)
    (kp_law_pick : PySem.W.keepIn K (.ref f_law_pick) = true)
    (mg_law_below : PySem.W.nsIn K mainGlobals "_law_below" = some (some (.ref f_law_below)))
    (fn_law_below : PySem.W.isFn K (.ref f_law_below) = true)
    (l_law_below : K.lookup f_law_below = some ⟨oc_law_below, od_law_below, .func (PySem.W.fnOf "_law_below" "_law_below" (defArgs s_law_below) (defBody s_law_below) (defScope s_law_below) .none kV_law_below dc_law_below pm_law_below an_law_below cd_law_below ct_law_below), sl_law_below⟩)
    (cc_law_below : PySem.W.codeIn K cd_law_below "_law_below" = true)
    (kk_law_below : PySem.W.keepIn K (.ref f_law_below) = true)
    (kp_law_below : PySem.W.keepIn K (.ref f_law_below) = true)
    (mg_law_names : PySem.W.nsIn K mainGlobals "_law_names" = some (some (.ref f_law_names)))
    (fn_law_names : PySem.W.isFn K (.ref f_law_names) = true)
    (l_law_names : K.lookup f_law_names = some ⟨oc_law_names, od_law_names, .func (PySem.W.fnOf "_law_names" "_law_names" (defArgs s_law_names) (defBody s_law_names) (defScope s_law_names) .none kV_law_names dc_law_names pm_law_names an_law_names cd_law_names ct_law_names), sl_law_names⟩)
    (cc_law_names : PySem.W.codeIn K cd_law_names "_law_names" = true)
    (kk_law_names : PySem.W.keepIn K (.ref f_law_names) = true)
    (kp_law_names : PySem.W.keepIn K (.ref f_law_names) = true)
    (mg_law_places : PySem.W.nsIn K mainGlobals "_law_places" = some (some (.ref f_law_places)))
    (fn_law_places : PySem.W.isFn K (.ref f_law_places) = true)
    (l_law_places : K.lookup f_law_places = some ⟨oc_law_places, od_law_places, .func (PySem.W.fnOf "_law_places" "_law_places" (defArgs s_law_places) (defBody s_law_places) (defScope s_law_places) .none kV_law_places dc_law_places pm_law_places an_law_places cd_law_places ct_law_places), sl_law_places⟩)
    (cc_law_places : PySem.W.codeIn K cd_law_places "_law_places" = true)
    (kk_law_places : PySem.W.keepIn K (.ref f_law_places) = true)
    (kp_law_places : PySem.W.keepIn K (.ref f_law_places) = true)
    (mg_law_drawn : PySem.W.nsIn K mainGlobals "_law_drawn" = some (some (.ref f_law_drawn)))
    (fn_law_drawn : PySem.W.isFn K (.ref f_law_drawn) = true)
    (l_law_drawn : K.lookup f_law_drawn = some ⟨oc_law_drawn, od_law_drawn, .func (PySem.W.fnOf "_law_drawn" "_law_drawn" (defArgs s_law_drawn) (defBody s_law_drawn) (defScope s_law_drawn) .none kV_law_drawn dc_law_drawn pm_law_drawn an_law_drawn cd_law_drawn ct_law_drawn), sl_law_drawn⟩)
    (cc_law_drawn : PySem.W.codeIn K cd_law_drawn "_law_drawn" = true)
    (kk_law_drawn : PySem.W.keepIn K (.ref f_law_drawn) = true)
    (kp_law_drawn : PySem.W.keepIn K (.ref f_law_drawn) = true)
    (mg_law_line : PySem.W.nsIn K mainGlobals "_law_line" = some (some (.ref f_law_line)))
    (fn_law_line : PySem.W.isFn K (.ref f_law_line) = true)
    (l_law_line : K.lookup f_law_line = some ⟨oc_law_line, od_law_line, .func (PySem.W.fnOf "_law_line" "_law_line" (defArgs s_law_line) (defBody s_law_line) (defScope s_law_line) .none kV_law_line dc_law_line pm_law_line an_law_line cd_law_line ct_law_line), sl_law_line⟩)
    (cc_law_line : PySem.W.codeIn K cd_law_line "_law_line" = true)
    (kk_law_line : PySem.W.keepIn K (.ref f_law_line) = true)
    (kp_law_line : PySem.W.keepIn K (.ref f_law_line) = true)
    (mg_law_text : PySem.W.nsIn K mainGlobals "_law_text" = some (some (.ref f_law_text)))
    (fn_law_text : PySem.W.isFn K (.ref f_law_text) = true)
    (l_law_text : K.lookup f_law_text = some ⟨oc_law_text, od_law_text, .func (PySem.W.fnOf "_law_text" "_law_text" (defArgs s_law_text) (defBody s_law_text) (defScope s_law_text) .none kV_law_text dc_law_text pm_law_text an_law_text cd_law_text ct_law_text), sl_law_text⟩)
    (cc_law_text : PySem.W.codeIn K cd_law_text "_law_text" = true)
    (kk_law_text : PySem.W.keepIn K (.ref f_law_text) = true)
    (kp_law_text : PySem.W.keepIn K (.ref f_law_text) = true)
    (mg_law_is_name : PySem.W.nsIn K mainGlobals "_law_is_name" = some (some (.ref f_law_is_name)))
    (fn_law_is_name : PySem.W.isFn K (.ref f_law_is_name) = true)
    (l_law_is_name : K.lookup f_law_is_name = some ⟨oc_law_is_name, od_law_is_name, .func (PySem.W.fnOf "_law_is_name" "_law_is_name" (defArgs s_law_is_name) (defBody s_law_is_name) (defScope s_law_is_name) .none kV_law_is_name dc_law_is_name pm_law_is_name an_law_is_name cd_law_is_name ct_law_is_name), sl_law_is_name⟩)
    (cc_law_is_name : PySem.W.codeIn K cd_law_is_name "_law_is_name" = true)
    (kk_law_is_name : PySem.W.keepIn K (.ref f_law_is_name) = true)
    (kp_law_is_name : PySem.W.keepIn K (.ref f_law_is_name) = true)
    (mg_law_is_place : PySem.W.nsIn K mainGlobals "_law_is_place" = some (some (.ref f_law_is_place)))
    (fn_law_is_place : PySem.W.isFn K (.ref f_law_is_place) = true)
    (l_law_is_place : K.lookup f_law_is_place = some ⟨oc_law_is_place, od_law_is_place, .func (PySem.W.fnOf "_law_is_place" "_law_is_place" (defArgs s_law_is_place) (defBody s_law_is_place) (defScope s_law_is_place) .none kV_law_is_place dc_law_is_place pm_law_is_place an_law_is_place cd_law_is_place ct_law_is_place), sl_law_is_place⟩)
    (cc_law_is_place : PySem.W.codeIn K cd_law_is_place "_law_is_place" = true)
    (kk_law_is_place : PySem.W.keepIn K (.ref f_law_is_place) = true)
    (kp_law_is_place : PySem.W.keepIn K (.ref f_law_is_place) = true)
    (mg_law_row_fault : PySem.W.nsIn K mainGlobals "_law_row_fault" = some (some (.ref f_law_row_fault)))
    (fn_law_row_fault : PySem.W.isFn K (.ref f_law_row_fault) = true)
    (l_law_row_fault : K.lookup f_law_row_fault = some ⟨oc_law_row_fault, od_law_row_fault, .func (PySem.W.fnOf "_law_row_fault" "_law_row_fault" (defArgs s_law_row_fault) (defBody s_law_row_fault) (defScope s_law_row_fault) .none kV_law_row_fault dc_law_row_fault pm_law_row_fault an_law_row_fault cd_law_row_fault ct_law_row_fault), sl_law_row_fault⟩)
    (cc_law_row_fault : PySem.W.codeIn K cd_law_row_fault "_law_row_fault" = true)
    (kk_law_row_fault : PySem.W.keepIn K (.ref f_law_row_fault) = true)
    (kp_law_row_fault : PySem.W.keepIn K (.ref f_law_row_fault) = true)
    (mg_law_head_fault : PySem.W.nsIn K mainGlobals "_law_head_fault" = some (some (.ref f_law_head_fault)))
    (fn_law_head_fault : PySem.W.isFn K (.ref f_law_head_fault) = true)
    (l_law_head_fault : K.lookup f_law_head_fault = some ⟨oc_law_head_fault, od_law_head_fault, .func (PySem.W.fnOf "_law_head_fault" "_law_head_fault" (defArgs s_law_head_fault) (defBody s_law_head_fault) (defScope s_law_head_fault) .none kV_law_head_fault dc_law_head_fault pm_law_head_fault an_law_head_fault cd_law_head_fault ct_law_head_fault), sl_law_head_fault⟩)
    (cc_law_head_fault : PySem.W.codeIn K cd_law_head_fault "_law_head_fault" = true)
    (kk_law_head_fault : PySem.W.keepIn K (.ref f_law_head_fault) = true)
    (kp_law_head_fault : PySem.W.keepIn K (.ref f_law_head_fault) = true)
    (mg_law_bent : PySem.W.nsIn K mainGlobals "_law_bent" = some (some (.ref f_law_bent)))
    (fn_law_bent : PySem.W.isFn K (.ref f_law_bent) = true)
    (l_law_bent : K.lookup f_law_bent = some ⟨oc_law_bent, od_law_bent, .func (PySem.W.fnOf "_law_bent" "_law_bent" (defArgs s_law_bent) (defBody s_law_bent) (defScope s_law_bent) .none kV_law_bent dc_law_bent pm_law_bent an_law_bent cd_law_bent ct_law_bent), sl_law_bent⟩)
    (cc_law_bent : PySem.W.codeIn K cd_law_bent "_law_bent" = true)
    (kk_law_bent : PySem.W.keepIn K (.ref f_law_bent) = true)
    (kp_law_bent : PySem.W.keepIn K (.ref f_law_bent) = true)
    (mg_law_fault : PySem.W.nsIn K mainGlobals "_law_fault" = some (some (.ref f_law_fault)))
    (fn_law_fault : PySem.W.isFn K (.ref f_law_fault) = true)
    (l_law_fault : K.lookup f_law_fault = some ⟨oc_law_fault, od_law_fault, .func (PySem.W.fnOf "_law_fault" "_law_fault" (defArgs s_law_fault) (defBody s_law_fault) (defScope s_law_fault) .none kV_law_fault dc_law_fault pm_law_fault an_law_fault cd_law_fault ct_law_fault), sl_law_fault⟩)
    (cc_law_fault : PySem.W.codeIn K cd_law_fault "_law_fault" = true)
    (kk_law_fault : PySem.W.keepIn K (.ref f_law_fault) = true)
    (kp_law_fault : PySem.W.keepIn K (.ref f_law_fault) = true)
    (mg_law_heard : PySem.W.nsIn K mainGlobals "_law_heard" = some (some (.ref f_law_heard)))
    (fn_law_heard : PySem.W.isFn K (.ref f_law_heard) = true)
    (l_law_heard : K.lookup f_law_heard = some ⟨oc_law_heard, od_law_heard, .func (PySem.W.fnOf "_law_heard" "_law_heard" (defArgs s_law_heard) (defBody s_law_heard) (defScope s_law_heard) .none kV_law_heard dc_law_heard pm_law_heard an_law_heard cd_law_heard ct_law_heard), sl_law_heard⟩)
    (cc_law_heard : PySem.W.codeIn K cd_law_heard "_law_heard" = true)
    (kk_law_heard : PySem.W.keepIn K (.ref f_law_heard) = true)
    (kp_law_heard : PySem.W.keepIn K (.ref f_law_heard) = true)
    (mg_law_many : PySem.W.nsIn K mainGlobals "_law_many" = some (some (.ref f_law_many)))
    (fn_law_many : PySem.W.isFn K (.ref f_law_many) = true)
    (l_law_many : K.lookup f_law_many = some ⟨oc_law_many, od_law_many, .func (PySem.W.fnOf "_law_many" "_law_many" (defArgs s_law_many) (defBody s_law_many) (defScope s_law_many) .none kV_law_many dc_law_many pm_law_many an_law_many cd_law_many ct_law_many), sl_law_many⟩)
    (cc_law_many : PySem.W.codeIn K cd_law_many "_law_many" = true)
    (kk_law_many : PySem.W.keepIn K (.ref f_law_many) = true)
    (kp_law_many : PySem.W.keepIn K (.ref f_law_many) = true)
    (mg_law : PySem.W.nsIn K mainGlobals "law" = some (some (.ref f_law)))
    (fn_law : PySem.W.isFn K (.ref f_law) = true)
    (l_law : K.lookup f_law = some ⟨oc_law, od_law, .func (PySem.W.fnOf "law" "law" (defArgs s_law) (defBody s_law) (defScope s_law) .none kV_law dc_law pm_law an_law cd_law ct_law), sl_law⟩)
    (cc_law : PySem.W.codeIn K cd_law "law" = true)
    (kk_law : PySem.W.keepIn K (.ref f_law) = true)
    (kp_law : PySem.W.keepIn K (.ref f_law) = true)
    (k_SIGNS : PySem.W.nsIn K mainGlobals "SIGNS" = some (some (.str "abcdefghijklmnopqrstuvwxyz0123456789" tt6)))
    (k_LONGEST_NAME : PySem.W.nsIn K mainGlobals "LONGEST_NAME" = some (some (.int 8 tt7)))
    (k_MOST_NAMES : PySem.W.nsIn K mainGlobals "MOST_NAMES" = some (some (.int 8 tt8)))
    (k_MOST_ROWS : PySem.W.nsIn K mainGlobals "MOST_ROWS" = some (some (.int 40 tt9)))
    (k_MOST_COLUMNS : PySem.W.nsIn K mainGlobals "MOST_COLUMNS" = some (some (.int 3 tt10)))
    (z_abs : PySem.W.nsIn K mainGlobals "abs" = some none)
    (z_all : PySem.W.nsIn K mainGlobals "all" = some none)
    (z_bool : PySem.W.nsIn K mainGlobals "bool" = some none)
    (z_dict : PySem.W.nsIn K mainGlobals "dict" = some none)
    (z_enumerate : PySem.W.nsIn K mainGlobals "enumerate" = some none)
    (z_int : PySem.W.nsIn K mainGlobals "int" = some none)
    (z_isinstance : PySem.W.nsIn K mainGlobals "isinstance" = some none)
    (z_len : PySem.W.nsIn K mainGlobals "len" = some none)
    (z_list : PySem.W.nsIn K mainGlobals "list" = some none)
    (z_range : PySem.W.nsIn K mainGlobals "range" = some none)
    (z_repr : PySem.W.nsIn K mainGlobals "repr" = some none)
    (z_sorted : PySem.W.nsIn K mainGlobals "sorted" = some none)
    (z_str : PySem.W.nsIn K mainGlobals "str" = some none)
    (z_super : PySem.W.nsIn K mainGlobals "super" = some none)
    (z_tuple : PySem.W.nsIn K mainGlobals "tuple" = some none)
    (tb_BadPlace : PySem.W.subIn K (.ref c_BadPlace) (.ref c_TableError) = some true)
    (tb_BadCells : PySem.W.subIn K (.ref c_BadCells) (.ref c_TableError) = some true)
    (tb_TooMany : PySem.W.subIn K (.ref c_TooMany) (.ref c_TableError) = some true)
    (tb_BadText : PySem.W.subIn K (.ref c_BadText) (.ref c_TableError) = some true)
    (nv_BadPlace : PySem.W.findIn K (.ref c_BadPlace) "value" = some none)
    (nv_BadCells : PySem.W.findIn K (.ref c_BadCells) "place" = some none)
    (nv_TooMany : PySem.W.findIn K (.ref c_TooMany) "most" = some none)
    (nvl_BadText : PySem.W.findIn K (.ref c_BadText) "line" = some none)
    (nvw_BadText : PySem.W.findIn K (.ref c_BadText) "word" = some none)
    (xBadPlace_BadCells : PySem.W.subIn K (.ref c_BadPlace) (.ref c_BadCells) = some false)
    (xBadPlace_TooMany : PySem.W.subIn K (.ref c_BadPlace) (.ref c_TooMany) = some false)
    (xBadPlace_BadText : PySem.W.subIn K (.ref c_BadPlace) (.ref c_BadText) = some false)
    (xBadCells_BadPlace : PySem.W.subIn K (.ref c_BadCells) (.ref c_BadPlace) = some false)
    (xBadCells_TooMany : PySem.W.subIn K (.ref c_BadCells) (.ref c_TooMany) = some false)
    (xBadCells_BadText : PySem.W.subIn K (.ref c_BadCells) (.ref c_BadText) = some false)
    (xTooMany_BadPlace : PySem.W.subIn K (.ref c_TooMany) (.ref c_BadPlace) = some false)
    (xTooMany_BadCells : PySem.W.subIn K (.ref c_TooMany) (.ref c_BadCells) = some false)
    (xTooMany_BadText : PySem.W.subIn K (.ref c_TooMany) (.ref c_BadText) = some false)
    (xBadText_BadPlace : PySem.W.subIn K (.ref c_BadText) (.ref c_BadPlace) = some false)
    (xBadText_BadCells : PySem.W.subIn K (.ref c_BadText) (.ref c_BadCells) = some false)
    (xBadText_TooMany : PySem.W.subIn K (.ref c_BadText) (.ref c_TooMany) = some false)
    (nn_BadPlace_BadCells : c_BadPlace ≠ c_BadCells)
    (nn_BadPlace_TooMany : c_BadPlace ≠ c_TooMany)
    (nn_BadPlace_BadText : c_BadPlace ≠ c_BadText)
    (nn_BadCells_TooMany : c_BadCells ≠ c_TooMany)
    (nn_BadCells_BadText : c_BadCells ≠ c_BadText)
    (nn_TooMany_BadText : c_TooMany ≠ c_BadText)
    (sub_Place_Table : PySem.W.subIn K (.ref c_Place) (.ref c_Table) = some false)
    (sub_Table_Place : PySem.W.subIn K (.ref c_Table) (.ref c_Place) = some false)
    (nn_Place_Table : c_Place ≠ c_Table)
    : Tx P K mg (⟨c_Place, c_Table, c_Sheet, c_TableError, c_BadPlace, c_BadCells, c_TooMany, c_BadText, f_BadPlace_init, f_BadCells_init, f_TooMany_init, f_BadText_init, f_is_name, f_is_text, f_names_in, f_text_of, f_Place_init, f_Place_read, p_Place_read, f_parts_at, f_text_at, f_need_columns, f_need_keys, f_is_cells, f_joined_rows, f_Table_init, f_Table_places, p_Table_places, f_Table_getitem, f_Table_setitem, f_Table_contains, f_Table_len, f_Table_bool, f_Table_cells, f_Table_eq, f_row_text, f_show_table, f_need, f_words_of, f_columns_in, f_cells_in, f_Sheet_init, f_Sheet_is_room, f_Sheet_add_row, f_Sheet_table_on, f_read_table, f_law_pen, f_law_draw, f_law_pick, f_law_below, f_law_names, f_law_places, f_law_drawn, f_law_line, f_law_text, f_law_is_name, f_law_is_place, f_law_row_fault, f_law_head_fault, f_law_bent, f_law_fault, f_law_heard, f_law_many, f_law⟩ : Ad) := ⟨PySem.W.mg_of X G mg_Place, pg_Place, hd_Place, po_Place, sa_Place, mk_Place, kc_Place, sf_Place, ca_Place, cn_Place, ct_Place, cm_Place, ob_Place, ne_Place, rd_Place, ga_Place, np_Place, ic_Place, ty_Place, ⟨_, most_Place⟩, ra_Place, su_Place, suNoneType_Place, subool_Place, suint_Place, sulist_Place, sutuple_Place, sudict_Place, sustr_Place, PySem.W.mg_of X G mg_Table, pg_Table, hd_Table, po_Table, sa_Table, mk_Table, kc_Table, sf_Table, ca_Table, cn_Table, ct_Table, cm_Table, ob_Table, ne_Table, rd_Table, ga_Table, ncolumns_Table, nrow_of_Table, ic_Table, ty_Table, nq_Table, ⟨_, most_Table⟩, suNoneType_Table, subool_Table, suint_Table, sustr_Table, sulist_Table, sutuple_Table, sudict_Table, dnNoneType_Table, dnbool_Table, dnint_Table, dnstr_Table, dnlist_Table, dntuple_Table, dndict_Table, ⟨_, widest_Table⟩, PySem.W.mg_of X G mg_Sheet, pg_Sheet, hd_Sheet, po_Sheet, sa_Sheet, mk_Sheet, kc_Sheet, sf_Sheet, ca_Sheet, cn_Sheet, ct_Sheet, cm_Sheet, ob_Sheet, ne_Sheet, rd_Sheet, ga_Sheet, nwide_Sheet, nsides_Sheet, nsplit_at_Sheet, nstage_Sheet, ic_Sheet, ty_Sheet, PySem.W.mg_of X G mg_TableError, ga_TableError, gg_TableError, be_TableError, hd_TableError, ca_TableError, ob_TableError, ic_TableError, ty_TableError, PySem.W.mg_of X G mg_BadPlace, ga_BadPlace, gg_BadPlace, be_BadPlace, hd_BadPlace, ca_BadPlace, ob_BadPlace, ic_BadPlace, ty_BadPlace, PySem.W.mg_of X G mg_BadCells, ga_BadCells, gg_BadCells, be_BadCells, hd_BadCells, ca_BadCells, ob_BadCells, ic_BadCells, ty_BadCells, PySem.W.mg_of X G mg_TooMany, ga_TooMany, gg_TooMany, be_TooMany, hd_TooMany, ca_TooMany, ob_TooMany, ic_TooMany, ty_TooMany, PySem.W.mg_of X G mg_BadText, ga_BadText, gg_BadText, be_BadText, hd_BadText, ca_BadText, ob_BadText, ic_BadText, ty_BadText, ⟨⟨⟨_, _, _, _, _, _, _, _, _, _, _, _, _, _, _, xa_BadPlace_init, xb_BadPlace_init⟩, xc_BadPlace_init, xd_BadPlace_init, xe_BadPlace_init, xf_BadPlace_init⟩, xg_BadPlace_init, xh_BadPlace_init, xi_BadPlace_init, xj_BadPlace_init, xk_BadPlace_init, xl_BadPlace_init, xm_BadPlace_init, PySem.W.mg_none_of X G xn_BadPlace_init, xo_BadPlace_init, ⟨_, _, _, _, _, _, _, _, _, _, _, xp_BadPlace_init, xq_BadPlace_init, ⟨_, _, _, xr_BadPlace_init⟩, _, _, _, _, _, _, xs_BadPlace_init, xt_BadPlace_init, xu_BadPlace_init⟩, ⟨_, by decide +kernel, _, _, _, _, _, _, _, _, _, _, _, rfl, fun env => ⟨_, rfl⟩⟩, rfl, rfl, rfl, rfl, rfl, rfl, rfl, rfl, by decide +kernel, by decide +kernel, by decide +kernel, by decide, by decide, fun _ _ _ _ _ _ _ _ _ _ => rfl⟩, ⟨⟨⟨_, _, _, _, _, _, _, _, _, _, _, _, _, _, _, xa_BadCells_init, xb_BadCells_init⟩, xc_BadCells_init, xd_BadCells_init, xe_BadCells_init, xf_BadCells_init⟩, xg_BadCells_init, xh_BadCells_init, xi_BadCells_init, xj_BadCells_init, xk_BadCells_init, xl_BadCells_init, xm_BadCells_init, PySem.W.mg_none_of X G xn_BadCells_init, xo_BadCells_init, ⟨_, _, _, _, _, _, _, _, _, _, _, xp_BadCells_init, xq_BadCells_init, ⟨_, _, _, xr_BadCells_init⟩, _, _, _, _, _, _, xs_BadCells_init, xt_BadCells_init, xu_BadCells_init⟩, ⟨_, by decide +kernel, _, _, _, _, _, _, _, _, _, _, _, rfl, fun env => ⟨_, rfl⟩⟩, rfl, rfl, rfl, rfl, rfl, rfl, rfl, rfl, by decide +kernel, by decide +kernel, by decide +kernel, by decide, by decide, fun _ _ _ _ _ _ _ _ _ _ => rfl⟩, ⟨⟨⟨_, _, _, _, _, _, _, _, _, _, _, _, _, _, _, xa_TooMany_init, xb_TooMany_init⟩, xc_TooMany_init, xd_TooMany_init, xe_TooMany_init, xf_TooMany_init⟩, xg_TooMany_init, xh_TooMany_init, xi_TooMany_init, xj_TooMany_init, xk_TooMany_init, xl_TooMany_init, xm_TooMany_init, PySem.W.mg_none_of X G xn_TooMany_init, xo_TooMany_init, ⟨_, _, _, _, _, _, _, _, _, _, _, xp_TooMany_init, xq_TooMany_init, ⟨_, _, _, xr_TooMany_init⟩, _, _, _, _, _, _, xs_TooMany_init, xt_TooMany_init, xu_TooMany_init⟩, ⟨_, by decide +kernel, _, _, _, _, _, _, _, _, _, _, _, rfl, fun env => ⟨_, rfl⟩⟩, rfl, rfl, rfl, rfl, rfl, rfl, rfl, rfl, by decide +kernel, by decide +kernel, by decide +kernel, by decide, by decide, fun _ _ _ _ _ _ _ _ _ _ => rfl⟩, ⟨⟨⟨_, _, _, _, _, _, _, _, _, _, _, _, _, _, _, xa_BadText_init, xb_BadText_init⟩, xc_BadText_init, xd_BadText_init, xe_BadText_init, xf_BadText_init⟩, xg_BadText_init, xh_BadText_init, xi_BadText_init, xi2_BadText_init, xj_BadText_init, xk_BadText_init, xl_BadText_init, xm_BadText_init, PySem.W.mg_none_of X G xn_BadText_init, xo_BadText_init, ⟨_, _, _, _, _, _, _, _, _, _, _, xp_BadText_init, xq_BadText_init, ⟨_, _, _, xr_BadText_init⟩, _, _, _, _, _, _, xs_BadText_init, xt_BadText_init, xu_BadText_init⟩, ⟨_, by decide +kernel, _, _, _, _, _, _, _, _, _, _, _, _, _, _, _, rfl, fun env => ⟨_, rfl⟩⟩, rfl, rfl, rfl, rfl, rfl, rfl, rfl, rfl, rfl, by decide +kernel, by decide +kernel, by decide +kernel, by decide +kernel, by decide +kernel, by decide, by decide, by decide, by decide, fun _ _ _ _ _ _ _ _ _ _ _ => rfl⟩, PySem.W.mg_of X G mg_is_name, fn_is_name, ⟨_, fun_mk (st := s_is_name) l_is_name cc_is_name kk_is_name⟩, kp_is_name, PySem.W.mg_of X G mg_is_text, fn_is_text, ⟨_, fun_mk (st := s_is_text) l_is_text cc_is_text kk_is_text⟩, kp_is_text, PySem.W.mg_of X G mg_names_in, fn_names_in, ⟨_, fun_mk (st := s_names_in) l_names_in cc_names_in kk_names_in⟩, kp_names_in, PySem.W.mg_of X G mg_text_of, fn_text_of, ⟨_, fun_mk (st := s_text_of) l_text_of cc_text_of kk_text_of⟩, kp_text_of, at_Place_init, fn_Place_init, ⟨_, fun_mk (st := s_Place_init) l_Place_init cc_Place_init kk_Place_init⟩, kp_Place_init, at_Place_read, ⟨_, rc_Place_read⟩, fi_Place_read, fn_Place_read, ⟨_, fun_mk (st := s_Place_read) l_Place_read cc_Place_read kk_Place_read⟩, kp_Place_read, PySem.W.mg_of X G mg_parts_at, fn_parts_at, ⟨_, fun_mk (st := s_parts_at) l_parts_at cc_parts_at kk_parts_at⟩, kp_parts_at, PySem.W.mg_of X G mg_text_at, fn_text_at, ⟨_, fun_mk (st := s_text_at) l_text_at cc_text_at kk_text_at⟩, kp_text_at, PySem.W.mg_of X G mg_need_columns, fn_need_columns, ⟨_, fun_mk (st := s_need_columns) l_need_columns cc_need_columns kk_need_columns⟩, kp_need_columns, PySem.W.mg_of X G mg_need_keys, fn_need_keys, ⟨_, fun_mk (st := s_need_keys) l_need_keys cc_need_keys kk_need_keys⟩, kp_need_keys, PySem.W.mg_of X G mg_is_cells, fn_is_cells, ⟨_, fun_mk (st := s_is_cells) l_is_cells cc_is_cells kk_is_cells⟩, kp_is_cells, PySem.W.mg_of X G mg_joined_rows, fn_joined_rows, ⟨_, fun_mk (st := s_joined_rows) l_joined_rows cc_joined_rows kk_joined_rows⟩, kp_joined_rows, at_Table_init, fn_Table_init, fund_mk (st := s_Table_init) l_Table_init cc_Table_init kk_Table_init lT_Table_init, kp_Table_init, at_Table_places, ge_Table_places, tk_Table_places, ⟨_, rc_Table_places⟩, fn_Table_places, ⟨_, fun_mk (st := s_Table_places) l_Table_places cc_Table_places kk_Table_places⟩, kp_Table_places, at_Table_getitem, fn_Table_getitem, ⟨_, fun_mk (st := s_Table_getitem) l_Table_getitem cc_Table_getitem kk_Table_getitem⟩, fi_Table_getitem, kp_Table_getitem, at_Table_setitem, fn_Table_setitem, ⟨_, fun_mk (st := s_Table_setitem) l_Table_setitem cc_Table_setitem kk_Table_setitem⟩, kp_Table_setitem, at_Table_contains, fn_Table_contains, ⟨_, fun_mk (st := s_Table_contains) l_Table_contains cc_Table_contains kk_Table_contains⟩, kp_Table_contains, at_Table_len, fn_Table_len, ⟨_, fun_mk (st := s_Table_len) l_Table_len cc_Table_len kk_Table_len⟩, kp_Table_len, at_Table_bool, fn_Table_bool, ⟨_, fun_mk (st := s_Table_bool) l_Table_bool cc_Table_bool kk_Table_bool⟩, kp_Table_bool, at_Table_cells, fn_Table_cells, ⟨_, fun_mk (st := s_Table_cells) l_Table_cells cc_Table_cells kk_Table_cells⟩, kp_Table_cells, at_Table_eq, fn_Table_eq, ⟨_, fun_mk (st := s_Table_eq) l_Table_eq cc_Table_eq kk_Table_eq⟩, kp_Table_eq, PySem.W.mg_of X G mg_row_text, fn_row_text, ⟨_, fun_mk (st := s_row_text) l_row_text cc_row_text kk_row_text⟩, kp_row_text, PySem.W.mg_of X G mg_show_table, fn_show_table, ⟨_, fun_mk (st := s_show_table) l_show_table cc_show_table kk_show_table⟩, kp_show_table, PySem.W.mg_of X G mg_need, fn_need, ⟨_, fun_mk (st := s_need) l_need cc_need kk_need⟩, kp_need, PySem.W.mg_of X G mg_words_of, fn_words_of, ⟨_, fun_mk (st := s_words_of) l_words_of cc_words_of kk_words_of⟩, kp_words_of, PySem.W.mg_of X G mg_columns_in, fn_columns_in, ⟨_, fun_mk (st := s_columns_in) l_columns_in cc_columns_in kk_columns_in⟩, kp_columns_in, PySem.W.mg_of X G mg_cells_in, fn_cells_in, ⟨_, fun_mk (st := s_cells_in) l_cells_in cc_cells_in kk_cells_in⟩, kp_cells_in, at_Sheet_init, fn_Sheet_init, ⟨_, fun_mk (st := s_Sheet_init) l_Sheet_init cc_Sheet_init kk_Sheet_init⟩, kp_Sheet_init, at_Sheet_is_room, fn_Sheet_is_room, ⟨_, fun_mk (st := s_Sheet_is_room) l_Sheet_is_room cc_Sheet_is_room kk_Sheet_is_room⟩, kp_Sheet_is_room, at_Sheet_add_row, fn_Sheet_add_row, ⟨_, fun_mk (st := s_Sheet_add_row) l_Sheet_add_row cc_Sheet_add_row kk_Sheet_add_row⟩, kp_Sheet_add_row, at_Sheet_table_on, fn_Sheet_table_on, ⟨_, fun_mk (st := s_Sheet_table_on) l_Sheet_table_on cc_Sheet_table_on kk_Sheet_table_on⟩, kp_Sheet_table_on, PySem.W.mg_of X G mg_read_table, fn_read_table, ⟨_, fun_mk (st := s_read_table) l_read_table cc_read_table kk_read_table⟩, kp_read_table, PySem.W.mg_of X G mg_law_pen, fn_law_pen, ⟨_, fun_mk (st := s_law_pen) l_law_pen cc_law_pen kk_law_pen⟩, kp_law_pen, PySem.W.mg_of X G mg_law_draw, fn_law_draw, ⟨_, fun_mk (st := s_law_draw) l_law_draw cc_law_draw kk_law_draw⟩, kp_law_draw, PySem.W.mg_of X G mg_law_pick, fn_law_pick, ⟨_, fun_mk (st := s_law_pick) l_law_pick cc_law_pick kk_law_pick⟩, kp_law_pick, PySem.W.mg_of X G mg_law_below, fn_law_below, ⟨_, fun_mk (st := s_law_below) l_law_below cc_law_below kk_law_below⟩, kp_law_below, PySem.W.mg_of X G mg_law_names, fn_law_names, ⟨_, fun_mk (st := s_law_names) l_law_names cc_law_names kk_law_names⟩, kp_law_names, PySem.W.mg_of X G mg_law_places, fn_law_places, ⟨_, fun_mk (st := s_law_places) l_law_places cc_law_places kk_law_places⟩, kp_law_places, PySem.W.mg_of X G mg_law_drawn, fn_law_drawn, ⟨_, fun_mk (st := s_law_drawn) l_law_drawn cc_law_drawn kk_law_drawn⟩, kp_law_drawn, PySem.W.mg_of X G mg_law_line, fn_law_line, ⟨_, fun_mk (st := s_law_line) l_law_line cc_law_line kk_law_line⟩, kp_law_line, PySem.W.mg_of X G mg_law_text, fn_law_text, ⟨_, fun_mk (st := s_law_text) l_law_text cc_law_text kk_law_text⟩, kp_law_text, PySem.W.mg_of X G mg_law_is_name, fn_law_is_name, ⟨_, fun_mk (st := s_law_is_name) l_law_is_name cc_law_is_name kk_law_is_name⟩, kp_law_is_name, PySem.W.mg_of X G mg_law_is_place, fn_law_is_place, ⟨_, fun_mk (st := s_law_is_place) l_law_is_place cc_law_is_place kk_law_is_place⟩, kp_law_is_place, PySem.W.mg_of X G mg_law_row_fault, fn_law_row_fault, ⟨_, fun_mk (st := s_law_row_fault) l_law_row_fault cc_law_row_fault kk_law_row_fault⟩, kp_law_row_fault, PySem.W.mg_of X G mg_law_head_fault, fn_law_head_fault, ⟨_, fun_mk (st := s_law_head_fault) l_law_head_fault cc_law_head_fault kk_law_head_fault⟩, kp_law_head_fault, PySem.W.mg_of X G mg_law_bent, fn_law_bent, ⟨_, fun_mk (st := s_law_bent) l_law_bent cc_law_bent kk_law_bent⟩, kp_law_bent, PySem.W.mg_of X G mg_law_fault, fn_law_fault, ⟨_, fun_mk (st := s_law_fault) l_law_fault cc_law_fault kk_law_fault⟩, kp_law_fault, PySem.W.mg_of X G mg_law_heard, fn_law_heard, ⟨_, fun_mk (st := s_law_heard) l_law_heard cc_law_heard kk_law_heard⟩, kp_law_heard, PySem.W.mg_of X G mg_law_many, fn_law_many, ⟨_, fun_mk (st := s_law_many) l_law_many cc_law_many kk_law_many⟩, kp_law_many, PySem.W.mg_of X G mg_law, fn_law, ⟨_, fun_mk (st := s_law) l_law cc_law kk_law⟩, kp_law, ⟨_, PySem.W.mg_of X G k_SIGNS⟩, ⟨_, PySem.W.mg_of X G k_LONGEST_NAME⟩, ⟨_, PySem.W.mg_of X G k_MOST_NAMES⟩, ⟨_, PySem.W.mg_of X G k_MOST_ROWS⟩, ⟨_, PySem.W.mg_of X G k_MOST_COLUMNS⟩, PySem.W.mg_none_of X G z_abs, PySem.W.mg_none_of X G z_all, PySem.W.mg_none_of X G z_bool, PySem.W.mg_none_of X G z_dict, PySem.W.mg_none_of X G z_enumerate, PySem.W.mg_none_of X G z_int, PySem.W.mg_none_of X G z_isinstance, PySem.W.mg_none_of X G z_len, PySem.W.mg_none_of X G z_list, PySem.W.mg_none_of X G z_range, PySem.W.mg_none_of X G z_repr, PySem.W.mg_none_of X G z_sorted, PySem.W.mg_none_of X G z_str, PySem.W.mg_none_of X G z_super, PySem.W.mg_none_of X G z_tuple, tb_BadPlace, tb_BadCells, tb_TooMany, tb_BadText, nv_BadPlace, nv_BadCells, nv_TooMany, nvl_BadText, nvw_BadText, xBadPlace_BadCells, xBadPlace_TooMany, xBadPlace_BadText, xBadCells_BadPlace, xBadCells_TooMany, xBadCells_BadText, xTooMany_BadPlace, xTooMany_BadCells, xTooMany_BadText, xBadText_BadPlace, xBadText_BadCells, xBadText_TooMany, nn_BadPlace_BadCells, nn_BadPlace_TooMany, nn_BadPlace_BadText, nn_BadCells_TooMany, nn_BadCells_BadText, nn_TooMany_BadText, sub_Place_Table, sub_Table_Place, nn_Place_Table⟩
end NK

namespace NK
open PySem PySem.Spec PyProof.Rows L2 NA TL
section
variable {P : Program} {w : World} {K : PySem.W.Frag} {mg : Str → Option Value} {base : Heap} {A : Ad}
def sp_is_name (K : PySem.W.Frag) : Sp := fun vs H Q _ => (∃ z : Str, vs = [.str z] ∧ z.length ≤ sizeLine ∧ ∀ H', Same H H' → Q (.bl (isNm z)) H') ∨
  ∃ x t, vs = [x] ∧ TyX K H x t ∧ PySem.W.kitOne K t (.type "str") = some false ∧ Q (.bl false) H
theorem ok_is_name (T : Tx P K mg A) : FnR P w K mg base CX0 1 A.f_is_name (sp_is_name K) := by
  obtain ⟨t1, k1⟩ := T.k_LONGEST_NAME
  obtain ⟨t2, k2⟩ := T.k_SIGNS
  refine fnr T.F_is_name sc_is_name (fun _ _ _ _ _ _ us hl => match us, hl with | [_], _ => rfl) (fun vs H Q E h => ?_) (fun cdv A' outer s H vs Q E hr h => ?_)
  · rcases h with ⟨z, rfl, _⟩ | ⟨x, t, rfl, _⟩ <;> rfl
  · refine ⟨_, pss_cons (ps_if (PW.pt (pw_or (pt_not (pt_val (pe_callB call_isi (by rfl) T.z_isinstance (by decide +kernel) (pa_cons (pv 0) (pa_cons (pe_bltn (v := .ty "str") (by rfl) T.z_str (by decide +kernel) rfl) pa_nil)))))
        (pw_or1 (pt_not (pt_chain op_le op_le pe_int (pe_callB call_len_str (by rfl) T.z_len PySem.boot_len (pa_cons (pv 0) pa_nil)) (pe_glob (v := .int 8) (by rfl) k1 ⟨_, rfl⟩))))))
        (pss_one (ps_ret pe_bl)) pss_nil)
      (pss_one (ps_ret (pe_callB (cr_all rfl) (by rfl) T.z_all (by decide +kernel) (pa_cons
        (pe_lc (own := [("sign", 1)]) (g := gName 1) (tt := tYes) rfl sc_is_name.nd (pi_str (pv 0)) (blkOk_by (N := ["value", "sign"]) (sc := defScope s_is_name) (by decide +kernel)) (fun _ _ _ _ _ => pg_name (i := 1) sc_is_name.nd rfl (Or.inl rfl)) (fun _ _ _ _ _ => pts_nil)
          (fun _ _ _ _ _ => pe_cmpR op_in_sign (pv 1) (pe_glob (v := .str sgn) (by rfl) k2 ⟨_, rfl⟩) rfl)) pa_nil)))), ?_⟩
    rcases h with ⟨z, rfl, hz, k⟩ | ⟨x, t, rfl, ty, kt, k⟩
    · refine ⟨_, rfl, .str z, .ty "str", .type "str", .type "str", true, rfl, .ty "str", .base (.str z), kit_self, true, rfl, iteF ?_⟩
      refine ⟨_, rfl, z, rfl, hz, 1, _, rfl, rfl, _, rfl, ?_⟩
      by_cases h1 : 1 ≤ z.length
      · rw [if_pos (decide_eq_true (by omega))]
        refine ⟨_, _, rfl, rfl, _, rfl, ?_⟩
        by_cases h8 : z.length ≤ 8
        · have e8 : decide ((z.length : Int) ≤ 8) = true := decide_eq_true (by omega)
          rw [e8]
          refine iteF ⟨_, rfl, z, rfl, fun D hD => ?_⟩
          refine lc_all walk_str (fun i v H' => v = .bl (decide ((z.cps.toList.getD i 0) ∈ sgn.cps.toList))) hD (fun _ _ _ _ _ _ _ h => h) (fun _ _ => trivial) (by show z.length < sizeLine; exact Nat.lt_of_le_of_lt h8 (by decide)) ?_ g_name_mono ?_
          · rintro i x H1 H2 hi s1 ⟨rfl, c, hc, rfl⟩
            refine ⟨Same.refl _, rfl, Same.refl _, fun Q' hQ => ⟨_, rfl, c, sgn, rfl, rfl, hQ _ _ (Same.refl _) ?_⟩⟩
            have e : z.cps.toList.getD i 0 = c := by
              rw [List.getD_eq_getElem?_getD, Array.getElem?_toList, hc] <;> rfl
            rw [e]
          · intro H1 ys s1 e1 hl hy
            have ey := list_fn hl hy
            have eb : ys = (z.cps.toList.map fun c => decide (c ∈ sgn.cps.toList)).map V.bl := by
              rw [ey, ← range_map z.cps.toList 0 (fun c => decide (c ∈ sgn.cps.toList)), List.map_map, Array.length_toList]; rfl
            rw [eb] at e1
            refine ⟨D, _, rfl, SqL.of e1, ?_⟩
            have e : isNm z = ((z.cps.toList.map fun c => decide (c ∈ sgn.cps.toList)).all id) := by
              unfold isNm
              rw [decide_eq_true h1, decide_eq_true h8, Bool.true_and, Bool.true_and, List.all_map]
              rfl
            rw [← e]
            exact k _ s1
        · have e8 : decide ((z.length : Int) ≤ 8) = false := decide_eq_false (by omega)
          have e : isNm z = false := by
            unfold isNm
            rw [decide_eq_false h8, Bool.and_false, Bool.false_and]
          rw [e8]
          rw [e] at k
          exact iteT (k H (Same.refl H))
      · have e1 : decide ((1 : Int) ≤ (z.length : Int)) = false := decide_eq_false (by omega)
        have e : isNm z = false := by
          unfold isNm
          rw [decide_eq_false h1, Bool.false_and, Bool.false_and]
        rw [e] at k
        rw [e1]
        exact iteF ⟨_, rfl, iteT (k H (Same.refl H))⟩
    · refine ⟨_, rfl, x, .ty "str", t, .type "str", false, rfl, .ty "str", ty, kt, false, rfl, ?_⟩
      exact iteT (iteT k)

def sp_names_in : Sp := fun vs H Q _ => ∃ z : Str, vs = [.str z] ∧ z.length ≤ 100000 ∧ ∀ p H', H p = none → Same H H' → H' p = some (.tup ((namesIn z).map V.str)) → Q (.ref p) H'
theorem ok_names_in (T : Tx P K mg A) : FnR P w K mg base CX0 1 A.f_names_in sp_names_in := by
  refine fnr T.F_names_in sc_names_in (fun _ _ _ _ _ _ us hl => match us, hl with | [_], _ => rfl) (fun vs H Q E h => ?_) (fun cdv A' outer s H vs Q E hr h => ?_)
  · obtain ⟨z, rfl, _⟩ := h; rfl
  · obtain ⟨z, rfl, hz, k⟩ := h
    refine ⟨_, pss_cons (ps_set (i := 1) sc_names_in.nd rfl (.inl rfl) (pe_lst pa_nil))
      (pss_cons (ps_par (i := 2) (j := 3) (by rfl) sc_names_in.nd rfl rfl (by decide) rfl rfl (pa_cons (pe_slice sl_str (pv 0) (po_some pe_int) po_none) (pa_cons (pe_ifExp (pt_cmpR op_ne (pv 0) pe_str (nomark _)) pe_str pe_str) pa_nil)) (by rfl))
      (pss_cons (ps_while PassesOwn.never (pt_cmpR op_eq (pv 3) pe_str (nomark _))
        (pss_cons (ps_asg (pe_partition (pv 2) pe_str) (pg_tup (by rfl) (pgs_cons (pg_name (i := 4) sc_names_in.nd rfl (.inl rfl)) (pgs_cons (pg_name (i := 3) sc_names_in.nd rfl (.inl rfl)) (pgs_cons (pg_name (i := 2) sc_names_in.nd rfl (.inl rfl)) pgs_nil)))))
        (pss_one (ps_expr (pe_bm PySem.F.plainAttrs_list PySem.F.slot_list_append PySem.F.type_list_append mt_append (pv 1) (pa_cons (pv 4) pa_nil))))))
      (pss_one (ps_ret (pe_callTy call_tuple_of (by rfl) T.z_tuple (by decide +kernel) (pa_cons (pv 1) pa_nil)))))), ?_⟩
    refine ⟨Nat.zero_le _, fun l hl => ?_⟩
    refine ⟨_, rfl, _, rfl, z, rfl, Nat.le_trans hz (by decide), _, rfl, rfl, _, rfl, ?_⟩
    have e1 : cutS z (some 1) none = Sx ((tl z).drop 1) := cut_from z 1
    refine ite_c ⟨_, _, rfl, ?_⟩
    have hd : ((tl z).drop 1).length ≤ 100000 := by
      have : z.length = (tl z).length := len_tl z
      rw [List.length_drop]; omega
    rw [e1]
    refine ⟨fun m σ H' => ∃ (acc : List Str) (r : List Nat) (s1 : Str) (nm : Option V), σ = [some (.str z), some (.ref l), some (.str (Sx r)), some (.str s1), nm] ∧ Same H H' ∧ H' l = some (.lst (acc.map V.str)) ∧ acc.length + r.length ≤ 100001 ∧ acc.length + m ≤ 100001 ∧
        ((s1 = "/" ∧ m = r.length + 1 ∧ acc ++ (spt r).map Sx = namesIn z) ∨ (s1 = "" ∧ m = 0 ∧ acc = namesIn z)), ?_, ?_⟩
    · by_cases hz1 : z = "/"
      · have e : decide (V.str z = V.str (Str.ofString "/")) = true := by simp [hz1]
        rw [e]
        exact ⟨0, [], _, "", none, rfl, Same.new hl, upd_same, by show 0 + _ ≤ _; omega, by show 0 + 0 ≤ _; omega, .inr ⟨rfl, rfl, by unfold namesIn; rw [if_pos hz1]⟩⟩
      · have e : decide (V.str z = V.str (Str.ofString "/")) = false := by simp [hz1]
        rw [e]
        exact ⟨_, [], _, "/", none, rfl, Same.new hl, upd_same, by show 0 + _ ≤ _; omega, by show 0 + _ ≤ _; omega, .inl ⟨rfl, rfl, by unfold namesIn; rw [if_neg hz1]; rfl⟩⟩
    · rintro m σ H' ⟨acc, r, s1, nm, rfl, sH, eL, hb, hm, hc⟩
      refine ⟨_, rfl, rfl, _, rfl, ?_⟩
      rcases hc with ⟨rfl, hm2, hc⟩ | ⟨rfl, hm2, hc⟩
      · refine iteT' (by simp) ⟨fun σ2 H2 => ∃ m', m' < m ∧ _, fun σ2 H2 h => h, ?_⟩
        have hr : (Sx r).length ≤ sizeLine := by rw [Sx_len]; exact sz (by omega)
        refine ⟨_, rfl, ⟨_, rfl⟩, _, _, rfl, rfl, by decide +kernel, hr, fun p hp => ?_⟩
        have npl : l ≠ p := ne_of_none eL hp
        have eLp : (upd H' p (HO.tup [V.str (Txt.partition (Sx r) "/").fst, V.str (Txt.partition (Sx r) "/").snd.fst, V.str (Txt.partition (Sx r) "/").snd.snd])) l = some (.lst (acc.map V.str)) := by rw [upd_ne npl]; exact eL
        refine ⟨p, _, rfl, SqT.of upd_same, rfl, _, _, rfl, _, _, rfl, _, _, rfl, rfl, ?_⟩
        refine ⟨_, rfl, .inl ⟨rfl, _, SqL.of eLp⟩, _, rfl, l, _, _, rfl, rfl, eLp, ?_, ?_⟩
        · rw [List.length_map]; exact szl (by omega)
        have sH2 := Same.mut (o := .lst (acc.map V.str ++ [V.str (Txt.partition (Sx r) "/").fst])) (sH.trans (Same.new (o := HO.tup [V.str (Txt.partition (Sx r) "/").fst, V.str (Txt.partition (Sx r) "/").snd.fst, V.str (Txt.partition (Sx r) "/").snd.snd]) hp)) hl
        by_cases h47 : 47 ∈ r
        · obtain ⟨a, b, rfl, ha⟩ := first_slash h47
          rw [part_some ha] at sH2 ⊢
          rw [spt_some ha] at hc
          refine ⟨b.length + 1, by rw [hm2]; simp; omega, acc ++ [Sx a], b, "/", _, rfl, sH2, ?_, ?_, ?_, .inl ⟨rfl, rfl, by rw [← hc]; simp⟩⟩
          · rw [upd_same, List.map_append]; rfl
          · simp at hb ⊢; omega
          · simp at hm2 hm ⊢; omega
        · rw [part_none h47] at sH2 ⊢
          rw [spt_none h47] at hc
          refine ⟨0, by omega, acc ++ [Sx r], [], Str.empty, _, rfl, sH2, ?_, ?_, ?_, .inr ⟨rfl, rfl, by rw [← hc]; rfl⟩⟩
          · rw [upd_same, List.map_append]; rfl
          · rw [List.length_append, List.length_singleton]; show _ + 0 ≤ _; omega
          · rw [List.length_append, List.length_singleton]; omega
      · refine iteF' (by decide +kernel) ?_
        rw [hc] at eL
        exact ⟨_, rfl, l, _, rfl, .inl ⟨SqL.of eL, fun p hp => k p _ (sH.free hp) (sH.trans (Same.new hp)) upd_same⟩⟩
end
end NK

namespace NK
open PySem PySem.Spec PyProof.Rows L2 NA TL
section
variable {P : Program} {w : World} {K : PySem.W.Frag} {mg : Str → Option Value} {base : Heap} {A : Ad}
def sp_text_of (K : PySem.W.Frag) : Sp := fun vs H Q _ => ∃ (p : Addr) (ns : List Str), vs = [.ref p] ∧ SqT K H p (ns.map V.str) ∧ Good ns ∧ Q (.str (txt ns)) H
theorem sum_len {ns : List Str} (h : ∀ n ∈ ns, n.length ≤ 8) : (ns.map (·.length)).sum ≤ 8 * ns.length := by
  induction ns with
  | nil => simp
  | cons a l ih =>
    have h1 := h a (by simp)
    have h2 := ih fun n hn => h n (List.mem_cons_of_mem _ hn)
    simp only [List.map_cons, List.sum_cons, List.length_cons]
    omega
theorem slash_len : ("/" : Str).length = 1 := by decide +kernel
theorem Good.len8 {ns : List Str} (h : Good ns) : ∀ n ∈ ns, n.length ≤ 8 := fun n hn => (isNm_iff.mp (h.2 n hn)).2.1
theorem join_len {ns : List Str} (h : Good ns) : (Txt.join "/" ns).length ≤ 72 := by
  have := txt_len h
  unfold txt at this
  rw [len_tl, tl_append, List.length_append, slash_tl] at this
  rw [len_tl]
  simp at this ⊢
  omega
theorem ok_text_of (T : Tx P K mg A) : FnR P w K mg base CX0 1 A.f_text_of (sp_text_of K) := by
  refine fnr T.F_text_of sc_text_of (fun _ _ _ _ _ _ us hl => match us, hl with | [_], _ => rfl) (fun vs H Q E h => ?_) (fun cdv A' outer s H vs Q E hr h => ?_)
  · obtain ⟨p, ns, rfl, _⟩ := h; rfl
  · obtain ⟨p, ns, rfl, hp, g, k⟩ := h
    refine ⟨_, pss_one (ps_ret (pe_op op_add_str pe_str (pe_join pe_str (pv 0)))), ?_⟩
    have h1 := sum_len g.len8
    have h2 := g.1
    have h3 := join_len g
    exact ⟨⟨_, rfl⟩, _, rfl, _, p, ns, rfl, rfl, .inr hp, by rw [slash_len]; omega, _, _, rfl, rfl, by rw [slash_len]; exact sz (by omega), k⟩
def sp_is_text (K : PySem.W.Frag) : Sp := fun vs H Q _ => (∃ z : Str, vs = [.str z] ∧ z.length ≤ 100000 ∧ ∀ H', Same H H' → Q (.bl (isTx z)) H') ∨
  ∃ x t, vs = [x] ∧ TyX K H x t ∧ PySem.W.kitOne K t (.type "str") = some false ∧ Q (.bl false) H
theorem spt_len : ∀ r : List Nat, (spt r).length ≤ r.length + 1
  | [] => by simp [spt]
  | c :: r => by
    have := spt_len r
    unfold spt
    split
    · simp; omega
    · split
      · simp
      · rename_i e; rw [e] at this; simp at this ⊢; omega
theorem spt_item : ∀ (r : List Nat), ∀ p ∈ spt r, p.length ≤ r.length
  | [], p, h => by simp [spt] at h; simp [h]
  | c :: r, p, h => by
    have ih := spt_item r
    unfold spt at h
    split at h
    · rcases List.mem_cons.mp h with e | e
      · simp [e]
      · have := ih p e; simp; omega
    · split at h
      · simp at h; simp [h]
      · rename_i e
        rw [e] at ih
        rcases List.mem_cons.mp h with e | e
        · have := ih _ (List.mem_cons_self ..); simp [e]; omega
        · have := ih p (List.mem_cons_of_mem _ e); simp; omega
theorem names_len {z : Str} (hz : z.length ≤ 100000) : (namesIn z).length ≤ 100001 ∧ ∀ n ∈ namesIn z, n.length ≤ 100000 := by
  unfold namesIn
  split
  · simp
  · have h1 : ((tl z).drop 1).length ≤ 100000 := by
      have := len_tl z
      rw [List.length_drop]; omega
    have h2 := spt_len ((tl z).drop 1)
    rw [List.length_map]
    refine ⟨by omega, fun n hn => ?_⟩
    obtain ⟨p, hp, rfl⟩ := List.mem_map.mp hn
    have := spt_item _ p hp
    rw [Sx_len]; omega
theorem ok_is_text (T : Tx P K mg A) : FnR P w K mg base CX0 2 A.f_is_text (sp_is_text K) := by
  obtain ⟨t1, k1⟩ := T.k_MOST_NAMES
  refine fnr T.F_is_text sc_is_text (fun _ _ _ _ _ _ us hl => match us, hl with | [_], _ => rfl) (fun vs H Q E h => ?_) (fun cdv A' outer s H vs Q E hr h => ?_)
  · rcases h with ⟨z, rfl, _⟩ | ⟨x, t, rfl, _⟩ <;> rfl
  · refine ⟨_, pss_cons (ps_if (PW.pt (pw_or (pt_not (pt_val (pe_callB call_isi (by rfl) T.z_isinstance (by decide +kernel) (pa_cons (pv 0) (pa_cons (pe_bltn (v := .ty "str") (by rfl) T.z_str (by decide +kernel) rfl) pa_nil)))))
        (pw_or1 (pt_cmpR op_ne (pe_slice sl_str (pv 0) po_none (po_some pe_int)) pe_str (nomark _)))))
        (pss_one (ps_ret pe_bl)) pss_nil)
      (pss_cons (ps_set (i := 1) sc_is_text.nd rfl (.inl rfl) (pe_cl (ok_names_in T) hr (by rfl) T.mg_names_in T.kp_names_in pass0 (pa_cons (pv 0) pa_nil)))
      (pss_one (ps_ret (pe_and (pe_cmpR op_le (pe_callB call_len_seq (by rfl) T.z_len PySem.boot_len (pa_cons (pv 1) pa_nil)) (pe_glob (v := .int 8) (by rfl) k1 ⟨_, rfl⟩) (nomark _)) (pe_one (pe_callB (cr_all rfl) (by rfl) T.z_all (by decide +kernel) (pa_cons
        (pe_lc (own := [("name", 2)]) (g := gName 2) (tt := tYes) rfl sc_is_text.nd (pi_tup (pv 1)) (blkOk_by (N := ["value", "names", "name"]) (sc := defScope s_is_text) (by decide +kernel)) (fun _ _ _ _ _ => pg_name (i := 2) sc_is_text.nd rfl (Or.inl rfl)) (fun _ _ _ _ _ => pts_nil)
          (fun _ _ _ _ _ => pe_cl (ok_is_name T) hr (by rfl) T.mg_is_name T.kp_is_name pass0 (pa_cons (pv 2) pa_nil))) pa_nil))))))), ?_⟩
    rcases h with ⟨z, rfl, hz, k⟩ | ⟨x, t, rfl, ty, kt, k⟩
    · refine ⟨_, rfl, .str z, .ty "str", .type "str", .type "str", true, rfl, .ty "str", .base (.str z), kit_self, true, rfl, iteF ?_⟩
      refine ⟨_, rfl, _, rfl, z, rfl, sz (by omega), rfl, _, rfl, ?_⟩
      have ec : cutS z none (some 1) = Sx ((tl z).take 1) := cut_to z 1
      have e0 : decide (V.str (cutS z none (some 1)) = V.str "/") = decide ((tl z).take 1 = [47]) := by
        rw [ec, Bool.eq_iff_iff, decide_eq_true_eq, decide_eq_true_eq]
        constructor
        · intro h
          have h2 : Sx ((tl z).take 1) = "/" := by injection h
          have := congrArg tl h2
          rw [slash_tl] at this
          exact this
        · intro h; rw [h, slash_Sx]
      show if (!decide (V.str (cutS z none (some 1)) = V.str "/")) = true then _ else _
      rw [e0]
      have hk : isTx z = (decide ((tl z).take 1 = [47]) && decide ((namesIn z).length ≤ 8) && (namesIn z).all isNm) := rfl
      cases h0 : decide ((tl z).take 1 = [47]) with
      | false =>
        rw [h0, Bool.false_and, Bool.false_and] at hk
        rw [hk] at k
        exact iteT (k H (Same.refl H))
      | true =>
        rw [h0, Bool.true_and] at hk
        refine iteF ⟨_, rfl, z, rfl, hz, fun p H1 hp s1 e1 => ?_⟩
        refine ⟨_, rfl, p, _, rfl, .inr (SqT.of e1), _, _, rfl, rfl, _, rfl, ?_⟩
        have hl := names_len hz
        have el : decide ((((namesIn z).map V.str).length : Int) ≤ 8) = decide ((namesIn z).length ≤ 8) := by
          rw [List.length_map, Bool.eq_iff_iff, decide_eq_true_eq, decide_eq_true_eq]; omega
        show if decide ((((namesIn z).map V.str).length : Int) ≤ 8) = true then _ else _
        rw [el]
        cases h1 : decide ((namesIn z).length ≤ 8) with
        | false =>
          rw [h1, Bool.false_and] at hk
          rw [hk] at k
          exact iteF (k H1 s1)
        | true =>
          rw [h1, Bool.true_and] at hk
          refine iteT ⟨_, rfl, p, rfl, ⟨_, SqT.of e1⟩, fun D hD => ?_⟩
          refine lc_all (walk_tup (K := K) (a := p) (xs := (namesIn z).map V.str)) (fun i v H' => v = .bl (isNm ((namesIn z).getD i ""))) hD (fun _ _ _ _ _ _ _ h => h) (fun H' s' => SqT.of (s' _ _ e1)) (by rw [List.length_map]; exact szl (by omega)) ?_ g_name_mono ?_
          · rintro i x H2 H3 hi s2 ⟨rfl, hx⟩
            rw [List.getElem?_map] at hx
            obtain ⟨n, hn, rfl⟩ := Option.map_eq_some_iff.mp hx
            refine ⟨Same.refl _, rfl, Same.refl _, fun Q' hQ => ⟨_, rfl, .inl ⟨n, rfl, sz (by have := hl.2 n (List.mem_of_getElem? hn); omega), fun H4 s4 => hQ _ _ s4 ?_⟩⟩⟩
            rw [List.getD_eq_getElem?_getD, hn] <;> rfl
          · intro H2 ys s2 e2 hy1 hy2
            rw [List.length_map] at hy1
            have ey := list_fn hy1 hy2
            have eb : ys = ((namesIn z).map isNm).map V.bl := by
              rw [ey, ← range_map (namesIn z) "" isNm, List.map_map]; rfl
            rw [eb] at e2
            refine ⟨D, _, rfl, SqL.of e2, ?_⟩
            have e : isTx z = ((namesIn z).map isNm).all id := by rw [hk, List.all_map]; rfl
            rw [← e]
            exact k _ (s1.trans s2)
    · exact ⟨_, rfl, x, .ty "str", t, .type "str", false, rfl, .ty "str", ty, kt, false, rfl, iteT (iteT k)⟩
end
end NK

namespace NK
open PySem PySem.Spec PyProof.Rows L2 NA TL
/-- a place: an instance whose parts are a tuple of good names -/
def Pl (A : Ad) (H : Hp) (a : Addr) (ns : List Str) : Prop := Good ns ∧ ∃ dx t, H a = some (.ins A.c_Place dx [("parts", .ref t)]) ∧ H t = some (.tup (ns.map V.str))
theorem Pl.same {A : Ad} {H H' : Hp} {a : Addr} {ns : List Str} (h : Pl A H a ns) (e : Same H H') : Pl A H' a ns :=
  let ⟨g, dx, t, h1, h2⟩ := h
  ⟨g, dx, t, e _ _ h1, e _ _ h2⟩
theorem Pl.sam {A : Ad} {H H' : Hp} {a p : Addr} {ns : List Str} {xs : List V} (h : Pl A H a ns) (hp : H p = some (.lst xs)) (e : Sam p H H') : Pl A H' a ns :=
  let ⟨g, dx, t, h1, h2⟩ := h
  ⟨g, dx, t, e _ _ (ne_of h1 hp (by intro z; cases z)) h1, e _ _ (ne_of h2 hp (by intro z; cases z)) h2⟩
theorem Pl.inj {A : Ad} {H : Hp} {a : Addr} {ns ms : List Str} (h : Pl A H a ns) (h' : Pl A H a ms) : ns = ms := by
  obtain ⟨_, dx, t, h1, h2⟩ := h
  obtain ⟨_, dy, u, h3, h4⟩ := h'
  rw [h1] at h3
  injection h3 with h3
  injection h3 with _ _ h3
  injection h3 with h3 _
  injection h3 with _ h3
  injection h3 with h3
  subst h3
  rw [h2] at h4
  injection h4 with h4
  injection h4 with h4
  exact (List.map_inj_right (fun a b h => by injection h)).mp h4
theorem lkp (t : Addr) : (([("parts", V.ref t)] : List (Str × V)).lookup ("parts" : Str)) = some (.ref t) := by
  simp [List.lookup]
section
variable {P : Program} {w : World} {K : PySem.W.Frag} {mg : Str → Option Value} {base : Heap} {A : Ad}
theorem Tx.cl (T : Tx P K mg A) : Cls K A.c_Place := ⟨T.pg_Place, T.hd_Place, T.po_Place, T.sa_Place⟩
theorem Tx.np (T : Tx P K mg A) : NoAttr K A.c_Place "parts" := T.np_Place
theorem Tx.tyP (T : Tx P K mg A) {H : Hp} {a dx : Addr} {fs : List (Str × V)} (h : H a = some (.ins A.c_Place dx fs)) : TyX K H (.ref a) (.ref A.c_Place) := .base (.ins h T.cl T.ca_Place T.cn_Place T.ct_Place T.cm_Place)
theorem Tx.kSC (T : Tx P K mg A) : PySem.W.kitOne K (.type "str") (.ref A.c_Place) = some false := kit_sub rfl T.ic_Place T.ty_Place T.su_Place
end
end NK

namespace NK
open PySem PySem.Spec PyProof.Rows L2 NA TL
section
variable {P : Program} {w : World} {K : PySem.W.Frag} {mg : Str → Option Value} {base : Heap} {A : Ad}
/-- a place is made and handed back -/
def RetP (A : Ad) (H : Hp) (ns : List Str) (Q : VK) : Prop := ∀ x H', H x = none → Same H H' → Pl A H' x ns → Q (.ref x) H'
theorem RetP.up {H H1 : Hp} {ns : List Str} {Q : VK} (k : RetP A H ns Q) (e : Same H H1) : RetP A H1 ns Q := fun x H' hx e2 h => k x H' (e.free hx) (e.trans e2) h
end
end NK

namespace NK
open PySem PySem.Spec PyProof.Rows L2 NA TL
/-- the law's pen: the script's numbers, how many were drawn (at most b more may be), what is left of a great one -/
def Pen (L : Addr) (H : Hp) (pn : Addr) (b : Nat) : Prop := ∃ (ns : List Int) (at_ rest : Int), H pn = some (.lst [.ref L, .int at_, .int rest]) ∧ H L = some (.lst (ns.map V.int)) ∧ L ≠ pn ∧ ns.length ≤ 63 ∧ 0 ≤ at_ ∧ at_ + b ≤ 1000000
theorem Pen.same {L : Addr} {H H' : Hp} {pn : Addr} {b : Nat} (h : Pen L H pn b) (e : Same H H') : Pen L H' pn b := by
  obtain ⟨ns, a, r, h1, h2, h3⟩ := h
  exact ⟨ns, a, r, e _ _ h1, e _ _ h2, h3⟩
theorem Pen.less {L : Addr} {H : Hp} {pn : Addr} {b c : Nat} (h : Pen L H pn b) (hc : c ≤ b) : Pen L H pn c := by
  obtain ⟨ns, a, r, h1, h2, h3, h4, h5, h6⟩ := h
  exact ⟨ns, a, r, h1, h2, h3, h4, h5, by omega⟩
theorem Pen.lst {L : Addr} {H : Hp} {pn : Addr} {b : Nat} (h : Pen L H pn b) : ∃ xs, H pn = some (.lst xs) := by
  obtain ⟨ns, a, r, h1, _⟩ := h
  exact ⟨_, h1⟩
theorem Pen.ints {L : Addr} {H : Hp} {pn : Addr} {b : Nat} (h : Pen L H pn b) : ∃ xs, H L = some (.lst xs) := by
  obtain ⟨ns, a, r, h1, h2, _⟩ := h
  exact ⟨_, h2⟩
theorem Pen.mut {L : Addr} {H : Hp} {pn D : Addr} {b : Nat} {o : HO} (h : Pen L H pn b) (h1 : D ≠ pn) (h2 : D ≠ L) : Pen L (upd H D o) pn b := by
  obtain ⟨ns, a, r, g1, g2, g3⟩ := h
  exact ⟨ns, a, r, by rw [upd_ne (Ne.symm h1)]; exact g1, by rw [upd_ne (Ne.symm h2)]; exact g2, g3⟩
theorem eqvAll_nil : ∀ ns : List Int, PyData.eqvAll (ns.map PyData.int) [] = ns.isEmpty
  | [] => by simp [PyData.eqvAll]
  | _ :: _ => by simp [PyData.eqvAll]
theorem dp_ints {K : PySem.W.Frag} {H : Hp} : ∀ ns : List Int, DpAll K H (ns.map V.int) (ns.map PyData.int)
  | [] => .nil
  | a :: as => .cons (.int a) (dp_ints as)
theorem canLay_ints : ∀ ns : List Int, PyData.canLayAll0 (ns.map PyData.int) = true
  | [] => by simp [PyData.canLayAll0]
  | a :: as => by simp only [List.map_cons, PyData.canLayAll0, PyData.canLay0, canLay_ints as, Bool.and_self]
theorem depth_ints : ∀ ns : List Int, PyData.depthAll (ns.map PyData.int) ≤ 1
  | [] => by simp [PyData.depthAll]
  | a :: as => by
    have := depth_ints as
    simp only [List.map_cons, PyData.depthAll, PyData.depth]
    omega
theorem shaped_ints (ns : List Int) : SeqAt.shaped (.list (ns.map PyData.int)) = true := by
  unfold SeqAt.shaped
  have := depth_ints ns
  rw [Bool.and_eq_true]
  exact ⟨by rw [PyData.canLay0]; exact canLay_ints ns, decide_eq_true (by rw [PyData.depth]; omega)⟩
/-- xs != [] -/
theorem c_neL {K : PySem.W.Frag} {H : Hp} {l q : Addr} {ns : List Int} {Q : VK} (h : SqL K H l (ns.map V.int)) (hq : SqL K H q []) (k : Q (.bl (!ns.isEmpty)) H) : rNeD K (.ref l) (.ref q) H Q :=
  ⟨_, .list (([] : List Int).map PyData.int), .lst h (dp_ints ns), .lst hq .nil, shaped_ints ns, shaped_ints [], by
    have e : PyData.eqv (.list (ns.map PyData.int)) (.list (([] : List Int).map PyData.int)) = ns.isEmpty := by rw [PyData.eqv]; exact eqvAll_nil ns
    rw [e]; exact k⟩
section
variable {P : Program} {w : World} {K : PySem.W.Frag} {mg : Str → Option Value} {base : Heap} {A : Ad}
def sp_pen (K : PySem.W.Frag) : Sp := fun vs H Q _ => ∃ (a : Addr) (ns : List Int), vs = [.ref a] ∧ SqL K H a (ns.map V.int) ∧ ∀ pn L H', H pn = none → Same H H' → Pen L H' pn 1000000 → Q (.ref pn) H'
theorem ok_pen (T : Tx P K mg A) : FnR P w K mg base CX0 1 A.f_law_pen (sp_pen K) := by
  refine fnr T.F_law_pen sc_law_pen (fun _ _ _ _ _ _ us hl => match us, hl with | [_], _ => rfl) (fun vs H Q E h => ?_) (fun cdv A' outer s H vs Q E hr h => ?_)
  · obtain ⟨a, ns, rfl, _⟩ := h; rfl
  · obtain ⟨a, ns, rfl, hS, k⟩ := h
    refine ⟨_, pss_one (ps_ret (pe_lst (pa_cons (pe_callTy call_list_of (by rfl) T.z_list (by decide +kernel) (pa_cons (pe_slice sl_list (pv 0) po_none (po_some pe_int)) pa_nil)) (pa_cons pe_int (pa_cons pe_int pa_nil))))), ?_⟩
    refine ⟨_, rfl, _, rfl, a, _, rfl, hS, fun p hp => ?_⟩
    refine ⟨p, _, rfl, .inl (SqL.of upd_same), fun l hl => ⟨sz (by show 3 ≤ 1000000; omega), fun pn hpn => ?_⟩⟩
    have e : cutV (ns.map V.int) none (some 63) = (ns.take 63).map V.int := by
      unfold cutV
      rw [HT.sIx_none, List.drop_zero, Nat.sub_zero, show (63 : Int) = ((63 : Nat) : Int) from rfl, HT.sIx_nat, List.map_take]
      by_cases h : 63 ≤ (ns.map V.int).length
      · rw [Nat.min_eq_left h]
      · rw [Nat.min_eq_right (by omega), List.take_of_length_le (Nat.le_refl _), List.take_of_length_le (by omega)]
    rw [e] at hl hpn ⊢
    have s1 := (Same.new (o := .lst ((ns.take 63).map V.int)) hp).trans (Same.new (o := .lst ((ns.take 63).map V.int)) hl)
    have hll : l ≠ pn := ne_of_none upd_same hpn
    refine k pn l _ (s1.free hpn) (s1.trans (Same.new hpn)) ⟨ns.take 63, 0, 0, upd_same, ?_, hll, ?_, by omega, by omega⟩
    · rw [upd_ne hll, upd_same]
    · rw [List.length_take]; omega
def sp_draw : Sp := fun vs H Q _ => ∃ (pn L : Addr) (m : Int) (b : Nat), vs = [.ref pn, .int m] ∧ Pen L H pn (b + 1) ∧ 1 ≤ m ∧ m ≤ 100000 ∧ ∀ (d : Nat) H', (d : Int) < m → Sam pn H H' → Pen L H' pn b → Q (.int d) H'
theorem pow_bd1 {x a c1 c2 : Int} (h1 : 0 ≤ a) (h2 : a ≤ 1000000) (hx : 0 ≤ x) (hx2 : x < 2147483648) (h3 : 0 ≤ c1) (h4 : c1 ≤ 100000) (h5 : 0 ≤ c2) (h6 : c2 ≤ 100000) : (x + c1 * a + c2).natAbs < 2 ^ 64 := by
  have m1 : c1 * a ≤ 100000 * 1000000 := Int.mul_le_mul h4 h2 h1 (by omega)
  have m0 : 0 ≤ c1 * a := Int.mul_nonneg h3 h1
  omega
theorem pow_bd2 {st a c1 c2 c3 : Int} (hs : 0 ≤ st) (hs2 : st < 2147483648) (h1 : 0 ≤ a) (h2 : a ≤ 1000000) (h3 : 0 ≤ c1) (h4 : c1 ≤ 100000) (h5 : 0 ≤ c2) (h6 : c2 ≤ 100000) (h7 : 0 ≤ c3) (h8 : c3 ≤ 100000) :
    (st * (2 * a + c1) + c2 * a * a + c3).natAbs < 2 ^ 64 := by
  have m1 : st * (2 * a + c1) ≤ 2147483648 * 2100000 := Int.mul_le_mul (by omega) (by omega) (by omega) (by omega)
  have m2 : 0 ≤ st * (2 * a + c1) := Int.mul_nonneg hs (by omega)
  have m3 : c2 * a ≤ 100000 * 1000000 := Int.mul_le_mul h6 h2 h1 (by omega)
  have m4 : 0 ≤ c2 * a := Int.mul_nonneg h5 h1
  have m5 : c2 * a * a ≤ 100000 * 1000000 * 1000000 := Int.mul_le_mul m3 h2 h1 (by omega)
  have m6 : 0 ≤ c2 * a * a := Int.mul_nonneg m4 h1
  omega
theorem ok_draw (T : Tx P K mg A) : FnR P w K mg base CX0 1 A.f_law_draw sp_draw := by
  refine fnr T.F_law_draw sc_law_draw (fun _ _ _ _ _ _ us hl => match us, hl with | [_, _], _ => rfl) (fun vs H Q E h => ?_) (fun cdv A' outer s H vs Q E hr h => ?_)
  · obtain ⟨pn, l, m, b, rfl, _⟩ := h; rfl
  · obtain ⟨pn, l, m, b, rfl, ⟨ns, a, r, hp, hL, hne, hn, ha, hb⟩, hm, hm2, k⟩ := h
    refine ⟨_, pss_cons (ps_if (pt_cmpR op_gt (pe_ix ix_list (pv 0) pe_int (fun _ _ => rfl)) pe_int (nomark _))
        (pss_cons (ps_set (i := 2) sc_law_draw.nd rfl (.inl rfl) (pe_op op_mod (pe_callTy call_int1 (by rfl) T.z_int (by decide +kernel) (pa_cons (pe_ix ix_list (pv 0) pe_int (fun _ _ => rfl)) pa_nil)) (pv 1)))
        (pss_cons (ps_asg (pe_op op_fdiv (pe_callTy call_int1 (by rfl) T.z_int (by decide +kernel) (pa_cons (pe_ix ix_list (pv 0) pe_int (fun _ _ => rfl)) pa_nil)) (pv 1)) (pg_sub (pv 0) pe_int set_list))
        (pss_one (ps_ret (pv 2))))) pss_nil)
      (pss_cons (ps_set (i := 3) sc_law_draw.nd rfl (.inl rfl) (pe_ix ix_list (pv 0) pe_int (fun _ _ => rfl)))
      (pss_cons (ps_asg (pe_op op_add (pv 3) pe_int) (pg_sub (pv 0) pe_int set_list))
      (pss_cons (ps_set (i := 4) sc_law_draw.nd rfl (.inl rfl) (pe_op op_add (pe_op op_mul pe_int (pv 3)) pe_int))
      (pss_jn (ps_if (pt_cmpR (op_neD hr.units) (pe_ix ix_list (pv 0) pe_int (fun _ _ => rfl)) (pe_lst pa_nil) (nomark _))
        (pss_one (ps_set (i := 4) sc_law_draw.nd rfl (.inl rfl) (pe_ix ix_list (pe_ix ix_list (pv 0) pe_int (fun _ _ => rfl)) (pe_op op_mod (pe_callTy call_int1 (by rfl) T.z_int (by decide +kernel) (pa_cons (pv 3) pa_nil))
          (pe_callB call_len_seq (by rfl) T.z_len PySem.boot_len (pa_cons (pe_ix ix_list (pv 0) pe_int (fun _ _ => rfl)) pa_nil))) (fun _ _ => rfl)))) pss_nil)
      (pss_jn (ps_if (PW.pt (pw_and (pt_cmpR op_lt (pv 3) (pe_callB call_len_seq (by rfl) T.z_len PySem.boot_len (pa_cons (pe_ix ix_list (pv 0) pe_int (fun _ _ => rfl)) pa_nil)) (nomark _))
          (pw_and1 (pt_cmpR op_ge (pe_callB call_abs (by rfl) T.z_abs (by decide +kernel) (pa_cons (pv 4) pa_nil)) (pe_op op_pow pe_int pe_int) (nomark _)))))
        (pss_cons (ps_set (i := 5) sc_law_draw.nd rfl (.inl rfl) (pe_op op_add (pe_op op_mul pe_int (pe_op op_sub (pe_callB call_abs (by rfl) T.z_abs (by decide +kernel) (pa_cons (pv 4) pa_nil)) (pe_op op_pow pe_int pe_int)))
          (pe_callTy call_int1 (by rfl) T.z_int (by decide +kernel) (pa_cons (pe_cmpR op_lt (pv 4) pe_int (nomark _)) pa_nil))))
        (pss_cons (ps_asg (pe_op op_fdiv (pe_callTy call_int1 (by rfl) T.z_int (by decide +kernel) (pa_cons (pv 5) pa_nil)) (pv 1)) (pg_sub (pv 0) pe_int set_list))
        (pss_one (ps_ret (pe_op op_mod (pe_callTy call_int1 (by rfl) T.z_int (by decide +kernel) (pa_cons (pv 5) pa_nil)) (pv 1)))))) pss_nil)
      (pss_cons (ps_set (i := 6) sc_law_draw.nd rfl (.inl rfl) (pe_op op_mod (pe_callTy call_int1 (by rfl) T.z_int (by decide +kernel) (pa_cons (pe_op op_pow (pe_op op_add (pe_op op_add (pe_op op_mod (pe_callTy call_int1 (by rfl) T.z_int (by decide +kernel) (pa_cons (pv 4) pa_nil)) pe_int) (pe_op op_mul pe_int (pv 3))) pe_int) pe_int) pa_nil)) pe_int))
      (pss_cons (ps_set (i := 6) sc_law_draw.nd rfl (.inl rfl) (pe_op op_mod (pe_callTy call_int1 (by rfl) T.z_int (by decide +kernel) (pa_cons (pe_op op_pow (pe_op op_add (pe_op op_add (pe_op op_mul (pv 6) (pe_op op_add (pe_op op_mul pe_int (pv 3)) pe_int)) (pe_op op_mul (pe_op op_mul pe_int (pv 3)) (pv 3))) pe_int) pe_int) pa_nil)) pe_int))
      (pss_one (ps_ret (pe_op op_mod (pe_callTy call_int1 (by rfl) T.z_int (by decide +kernel) (pa_cons (pe_op op_fdiv (pv 6) pe_int) pa_nil)) (pv 1))))))))))), ?_⟩
    have i0 : ∀ x y z : V, atI [x, y, z] 0 = some x := fun _ _ _ => rfl
    have i1 : ∀ x y z : V, atI [x, y, z] 1 = some y := fun _ _ _ => rfl
    have i2 : ∀ x y z : V, atI [x, y, z] 2 = some z := fun _ _ _ => rfl
    have res : ∀ (X : Int) H', Sam pn H H' → Pen l H' pn b → Q (.int (X % m)) H' := fun X H' e1 e2 => by
      have h0 := Int.emod_nonneg X (by omega : m ≠ 0)
      have h1 := Int.emod_lt_of_pos X (by omega : 0 < m)
      have := k (X % m).toNat H' (by omega) e1 e2
      rw [Int.toNat_of_nonneg h0] at this
      exact this
    have hm0 : 0 < m := by omega
    have hmd : CDiv 0 m := ⟨hm0, by omega⟩
    refine ⟨_, rfl, pn, _, _, _, rfl, rfl, SqL.of hp, i2 _ _ _, _, _, rfl, rfl, _, rfl, ite2 (fun _ => ?_) (fun _ => ?_)⟩
    · refine ⟨_, rfl, pn, _, _, _, rfl, rfl, SqL.of hp, i2 _ _ _, .inl ⟨_, rfl, _, rfl, _, _, rfl, rfl, hm0, ?_⟩⟩
      refine ⟨_, rfl, pn, _, _, _, rfl, rfl, SqL.of hp, i2 _ _ _, .inl ⟨_, rfl, _, rfl, _, _, rfl, rfl, hmd, ?_⟩⟩
      refine ⟨_, rfl, pn, _, _, 2, rfl, rfl, hp, rfl, _, rfl, res _ _ (Sam.upd (Sam.refl H)) ?_⟩
      exact ⟨ns, a, _, by rw [upd_same]; rfl, by rw [upd_ne hne]; exact hL, hne, hn, ha, by omega⟩
    · refine ⟨_, rfl, pn, _, _, _, rfl, rfl, SqL.of hp, i1 _ _ _, ?_⟩
      refine ⟨_, rfl, _, _, rfl, rfl, _, rfl, pn, _, _, 1, rfl, rfl, hp, rfl, ?_⟩
      have hp1 : upd H pn (.lst ([V.ref l, V.int a, V.int r].set 1 (.int (a + 1)))) pn = some (.lst [V.ref l, V.int (a + 1), V.int r]) := by rw [upd_same]; rfl
      have hL1 : upd H pn (.lst ([V.ref l, V.int a, V.int r].set 1 (.int (a + 1)))) l = some (.lst (ns.map V.int)) := by rw [upd_ne hne]; exact hL
      have e1 : Sam pn H (upd H pn (.lst ([V.ref l, V.int a, V.int r].set 1 (.int (a + 1))))) := Sam.upd (Sam.refl H)
      generalize upd H pn (.lst ([V.ref l, V.int a, V.int r].set 1 (.int (a + 1)))) = H1 at hp1 hL1 e1 ⊢
      refine ⟨_, rfl, _, _, rfl, rfl, .inl ⟨by decide, by decide⟩, _, _, rfl, rfl, ?_⟩
      refine ⟨fun σ' H' => ∃ c : Int, σ' = [some (.ref pn), some (.int m), none, some (.int a), some (.int c), none, none] ∧ Sam pn H H' ∧ H' pn = some (.lst [V.ref l, V.int (a + 1), V.int r]) ∧ H' l = some (.lst (ns.map V.int)),
        ⟨_, rfl, pn, _, _, _, rfl, rfl, SqL.of hp1, i0 _ _ _, Nat.zero_le _, fun q hq => ?_⟩, ?_⟩
      · have s1 := Same.new (o := .lst []) hq
        have hp2 := s1 _ _ hp1
        have hL2 := s1 _ _ hL1
        have e2 : Sam pn H (upd H1 q (.lst [])) := e1.trans (Sam.of s1)
        refine c_neL (SqL.of hL2) (SqL.of upd_same) ⟨_, rfl, ?_⟩
        cases hns : ns.isEmpty with
        | true => exact iteF ⟨_, rfl, e2, hp2, hL2⟩
        | false =>
          have hlen : 0 < ns.length := by
            rcases ns with _ | ⟨x, r⟩
            · cases hns
            · simp
          have h0 := Int.emod_nonneg a (by omega : (ns.length : Int) ≠ 0)
          have h1 := Int.emod_lt_of_pos a (by omega : 0 < (ns.length : Int))
          have hj : (a % (ns.length : Int)).toNat < ns.length := by omega
          refine iteT ⟨_, rfl, pn, _, _, _, rfl, rfl, SqL.of hp2, i0 _ _ _, _, rfl, .inl ⟨_, rfl, ?_⟩⟩
          refine ⟨_, rfl, pn, _, _, _, rfl, rfl, SqL.of hp2, i0 _ _ _, l, _, rfl, .inl (SqL.of hL2), _, _, rfl, rfl, by rw [List.length_map]; omega, ?_⟩
          refine ⟨l, _, _, .int ns[(a % (ns.length : Int)).toNat], rfl, rfl, SqL.of hL2, ?_, _, rfl, e2, hp2, hL2⟩
          refine at_of (j := (a % (ns.length : Int)).toNat) ?_ ?_
          · rw [List.length_map]; omega
          · rw [List.getElem?_map, List.getElem?_eq_getElem hj] <;> rfl
      · rintro σ' H' ⟨c, rfl, e2, hp2, hL2⟩
        have pn2 : Pen l H' pn b := ⟨ns, a + 1, r, hp2, hL2, hne, hn, by omega, by omega⟩
        have p18 : CPow 10 18 := ⟨by decide, by decide, by decide⟩
        refine ⟨fun σ' H2 => σ' = [some (.ref pn), some (.int m), none, some (.int a), some (.int c), none, none] ∧ H2 = H', ?_, ?_⟩
        · refine ⟨_, rfl, _, rfl, pn, _, _, _, rfl, rfl, SqL.of hp2, i0 _ _ _, l, _, rfl, .inl (SqL.of hL2), _, _, rfl, rfl, _, rfl, ite2 (fun _ => ?_) (fun _ => iteF ⟨rfl, rfl⟩)⟩
          refine ⟨_, rfl, _, rfl, _, _, rfl, rfl, p18, _, _, rfl, rfl, _, rfl, ite2 (fun _ => ?_) (fun _ => ⟨rfl, rfl⟩)⟩
          refine ⟨_, rfl, _, rfl, _, _, rfl, rfl, p18, _, _, rfl, rfl, _, _, rfl, rfl, .inl ⟨by decide, by decide⟩, _, rfl, _, _, rfl, rfl, .inr ⟨_, rfl, _, _, rfl, rfl, ?_⟩⟩
          refine ⟨_, rfl, .inl ⟨_, rfl, _, rfl, _, _, rfl, rfl, hmd, ?_⟩⟩
          refine ⟨_, rfl, pn, _, _, 2, rfl, rfl, hp2, rfl, _, rfl, .inl ⟨_, rfl, _, rfl, _, _, rfl, rfl, hm0, res _ _ (Sam.upd e2) ?_⟩⟩
          exact ⟨ns, a + 1, _, by rw [upd_same]; rfl, by rw [upd_ne hne]; exact hL2, hne, hn, by omega, by omega⟩
        · rintro σ' H2 ⟨rfl, rfl⟩
          have md : ∀ (X : Int) (k : Int), 0 < k → k < 2147483648 → 0 ≤ X % k ∧ X % k < 2147483648 := fun X k h1 h2 => ⟨Int.emod_nonneg X (by omega), by have := Int.emod_lt_of_pos X h1; omega⟩
          have mdb : ∀ (X : Int) (k : Int), 0 < k → k < 2147483648 → -(2 ^ 64) < X % k ∧ X % k < 2 ^ 64 := fun X k h1 h2 => by have := md X k h1 h2; omega
          refine ⟨_, rfl, .inl ⟨_, rfl, _, _, rfl, rfl, (by dsimp only; decide), _, rfl, _, _, rfl, rfl, .inl ⟨by decide, by decide⟩, _, _, rfl, rfl, _, _, rfl, rfl, _, _, rfl, rfl,
            ⟨by decide, by decide, pow_bd1 ha (by omega) (md _ _ (by decide) (by decide)).1 (md _ _ (by decide) (by decide)).2 (by decide) (by decide) (by decide) (by decide)⟩, .inl ⟨_, rfl, _, _, rfl, rfl, (by dsimp only; decide), ?_⟩⟩⟩
          refine ⟨_, rfl, _, rfl, _, _, rfl, rfl, .inl ⟨by decide, by decide⟩, _, _, rfl, rfl, _, _, rfl, rfl, .inl (mdb _ _ (by decide) (by decide)), _, rfl, _, _, rfl, rfl, .inl ⟨by decide, by decide⟩, _, rfl, _, _, rfl, rfl, .inr ⟨by omega, by omega⟩, _, _, rfl, rfl, _, _, rfl, rfl, _, _, rfl, rfl,
            ⟨by decide, by decide, pow_bd2 (md _ _ (by decide) (by decide)).1 (md _ _ (by decide) (by decide)).2 ha (by omega) (by decide) (by decide) (by decide) (by decide) (by decide) (by decide)⟩, .inl ⟨_, rfl, _, _, rfl, rfl, (by dsimp only; decide), ?_⟩⟩
          exact ⟨_, rfl, _, _, rfl, rfl, ⟨by decide, by decide⟩, .inl ⟨_, rfl, _, rfl, _, _, rfl, rfl, hm0, res _ _ e2 pn2⟩⟩
def sp_pick : Sp := fun vs H Q _ => ∃ (pn L l : Addr) (xs : List V) (b : Nat), vs = [.ref pn, .ref l] ∧ Pen L H pn (b + 1) ∧ H l = some (.lst xs) ∧ l ≠ pn ∧ 1 ≤ xs.length ∧ xs.length ≤ 100000 ∧ ∀ v H', v ∈ xs → Sam pn H H' → Pen L H' pn b → Q v H'
theorem ok_pick (T : Tx P K mg A) : FnR P w K mg base CX0 2 A.f_law_pick sp_pick := by
  refine fnr T.F_law_pick sc_law_pick (fun _ _ _ _ _ _ us hl => match us, hl with | [_, _], _ => rfl) (fun vs H Q E h => ?_) (fun cdv A' outer s H vs Q E hr h => ?_)
  · obtain ⟨pn, L, l, xs, b, rfl, _⟩ := h; rfl
  · obtain ⟨pn, L, l, xs, b, rfl, hp, hl, hne, h1, h2, k⟩ := h
    refine ⟨_, pss_one (ps_ret (pe_ix ix_list (pv 1) (pe_cl (ok_draw T) hr (by rfl) T.mg_law_draw T.kp_law_draw pass0 (pa_cons (pv 0) (pa_cons (pe_callB call_len_seq (by rfl) T.z_len PySem.boot_len (pa_cons (pv 1) pa_nil)) pa_nil))) (fun _ _ => rfl))), ?_⟩
    refine ⟨_, rfl, _, rfl, _, rfl, l, _, rfl, .inl (SqL.of hl), pn, L, _, b, rfl, hp, by omega, by omega, fun d H' hd e1 p1 => ?_⟩
    have hd' : d < xs.length := by omega
    refine ⟨l, xs, _, xs[d], rfl, rfl, SqL.of (e1 _ _ hne hl), atI_nat (List.getElem?_eq_getElem hd'), k _ H' (List.getElem_mem hd') e1 p1⟩
end
end NK

namespace NK
open PySem PySem.Spec PyProof.Rows L2 NA TL
theorem tx_good {z : Str} (h : isTx z = true) : Good (namesIn z) := by
  unfold isTx at h
  simp only [Bool.and_eq_true, decide_eq_true_eq, List.all_eq_true] at h
  exact ⟨h.1.2, h.2⟩
section
variable {P : Program} {w : World} {K : PySem.W.Frag} {mg : Str → Option Value} {base : Heap} {A : Ad}
/-- what is_text answers of x -/
def TxV (K : PySem.W.Frag) (H : Hp) (x : V) (b : Bool) : Prop := (∃ z : Str, x = .str z ∧ z.length ≤ 100000 ∧ b = isTx z) ∨ (b = false ∧ ∃ t, TyX K H x t ∧ PySem.W.kitOne K t (.type "str") = some false)
theorem TxV.str {H : Hp} {x : V} (h : TxV K H x true) : ∃ z : Str, x = .str z ∧ z.length ≤ 100000 ∧ isTx z = true := by
  rcases h with ⟨z, rfl, hz, e⟩ | ⟨e, _⟩
  · exact ⟨z, rfl, hz, e.symm⟩
  · cases e
/-- x's type, and whether it is a Place -/
def IsP (A : Ad) (K : PySem.W.Frag) (H : Hp) (x : V) (b : Bool) : Prop := ∃ t, TyX K H x t ∧ PySem.W.kitOne K t (.ref A.c_Place) = some b
def ErrP (A : Ad) (H : Hp) (x : V) (E : XK) : Prop := ∀ H' d, Same H H' → H' d = none → E (.ref A.c_BadPlace) (some d) (upd H' d (.xd [("value", x)]))
end
end NK

namespace NK
open PySem PySem.Spec PyProof.Rows L2 NA TL
section
variable {P : Program} {w : World} {K : PySem.W.Frag} {mg : Str → Option Value} {base : Heap} {A : Ad}
/-- what a call lets out, the running def lets out too -/
theorem passX {N : List Str} {qual : Str} {sc : Scope} {f : Addr} {cdv : Value} {A : Around} {outer : List Env} {s : Shared} {H : Hp} {E : XK} : Passes (L2.CX P w) (cxOf (L2.CX P w) P w K mg base N qual sc f cdv A outer s H E) E :=
  passes_call (X := cxOf (L2.CX P w) P w K mg base N qual sc f cdv A outer s H E) takesX (fun _ _ _ _ h => h)
theorem passF {X : Cx} : Passes (L2.CX X.prog X.w) X (fun _ _ _ => False) := passes_call LamX.takes0 (fun _ _ _ _ h => h)
/-- x tells the place of the names ns -/
def PlV (A : Ad) (H : Hp) (x : V) (ns : List Str) : Prop := Good ns ∧ ((∃ a, x = .ref a ∧ Pl A H a ns) ∨ ∃ z : Str, x = .str z ∧ z.length ≤ 100000 ∧ isTx z = true ∧ namesIn z = ns)
/-- x tells none -/
def NoP (A : Ad) (K : PySem.W.Frag) (H : Hp) (x : V) : Prop := IsP A K H x false ∧ TxV K H x false
theorem PlV.same {H H' : Hp} {x : V} {ns : List Str} (h : PlV A H x ns) (e : Same H H') : PlV A H' x ns := ⟨h.1, h.2.imp (fun ⟨a, e1, h1⟩ => ⟨a, e1, h1.same e⟩) fun h => h⟩
theorem PlV.isP (T : Tx P K mg A) {H : Hp} {x : V} {ns : List Str} (h : PlV A H x ns) : (∃ a, x = .ref a ∧ Pl A H a ns ∧ IsP A K H x true) ∨ (IsP A K H x false ∧ ∃ z : Str, x = .str z ∧ z.length ≤ 100000 ∧ isTx z = true ∧ namesIn z = ns) := by
  rcases h.2 with ⟨a, rfl, hp⟩ | ⟨z, rfl, h'⟩
  · obtain ⟨g, dx, t, h1, h2⟩ := id hp
    exact .inl ⟨a, rfl, hp, _, T.tyP h1, kit_self⟩
  · exact .inr ⟨⟨_, .base (.str z), T.kSC⟩, z, rfl, h'⟩
def sp_parts_at (A : Ad) (K : PySem.W.Frag) : Sp := fun vs H Q E => ∃ x, vs = [x] ∧ ((∃ ns, PlV A H x ns ∧ ∀ p H', Same H H' → H' p = some (.tup (ns.map V.str)) → Q (.ref p) H') ∨ (NoP A K H x ∧ ErrP A H x E))
theorem ok_parts_at (T : Tx P K mg A) : FnR P w K mg base (L2.CX P w) 3 A.f_parts_at (sp_parts_at A K) := by
  refine fnx T.F_parts_at sc_parts_at (fun _ _ _ _ _ _ us hl => match us, hl with | [_], _ => rfl) (fun vs H Q E h => ?_) (fun cdv A' outer s H vs Q E hr h => ?_)
  · obtain ⟨x, rfl, _⟩ := h; rfl
  · obtain ⟨x, rfl, h⟩ := h
    refine ⟨_, pss_cons (ps_if (pt_val (pe_callB call_isi (by rfl) T.z_isinstance (by decide +kernel) (pa_cons (pv 0) (pa_cons (pe_glob (v := .ref A.c_Place) (by rfl) T.mg_Place rfl) pa_nil)))) (pss_one (ps_ret (pe_fld (pv 0) rfl))) pss_nil)
      (pss_cons (ps_if (pt_not (pt_val (pe_cl (ok_is_text T) hr (by rfl) T.mg_is_text T.kp_is_text pass0 (pa_cons (pv 0) pa_nil)))) (pss_one (ps_raise rfl takesX (pmk_err T.er_BadPlace hr (by rfl) T.mg_BadPlace (pv 0)))) pss_nil)
      (pss_one (ps_ret (pe_cl (ok_names_in T) (hr.mono (by decide)) (by rfl) T.mg_names_in T.kp_names_in pass0 (pa_cons (pv 0) pa_nil))))), ?_⟩
    rcases h with ⟨ns, hv, k⟩ | ⟨⟨⟨t, ty, hk⟩, hx⟩, k⟩
    · rcases hv.isP T with ⟨a, rfl, ⟨g, dx, u, h1, h2⟩, t, ty, hk⟩ | ⟨⟨t, ty, hk⟩, z, rfl, hz, e1, e2⟩
      · refine ⟨_, rfl, .ref a, .ref A.c_Place, t, .ref A.c_Place, true, rfl, .own _, ty, hk, true, rfl, iteT ?_⟩
        exact ⟨_, rfl, a, _, dx, _, _, rfl, h1, T.cl, T.np, lkp u, k u H (Same.refl H) h2⟩
      · refine ⟨_, rfl, .str z, .ref A.c_Place, t, .ref A.c_Place, false, rfl, .own _, ty, hk, false, rfl, iteF ?_⟩
        refine ⟨_, rfl, .inl ⟨z, rfl, hz, fun H1 s1 => ⟨_, rfl, iteF' (by rw [e1]; rfl) ?_⟩⟩⟩
        exact ⟨_, rfl, z, rfl, hz, fun p H2 hp s2 h2 => k p H2 (s1.trans s2) (by rw [← e2]; exact h2)⟩
    · refine ⟨_, rfl, x, .ref A.c_Place, t, .ref A.c_Place, false, rfl, .own _, ty, hk, false, rfl, iteF ?_⟩
      rcases hx with ⟨z, rfl, hz, e⟩ | ⟨_, t', h1, h2⟩
      · exact ⟨_, rfl, .inl ⟨z, rfl, hz, fun H1 s1 => ⟨_, rfl, iteT' (by rw [← e]; rfl) ⟨_, rfl, v_err fun d hd => k _ _ s1 hd⟩⟩⟩⟩
      · exact ⟨_, rfl, .inr ⟨x, t', rfl, h1, h2, _, rfl, iteT ⟨_, rfl, v_err fun d hd => k _ _ (Same.refl H) hd⟩⟩⟩
def sp_text_at (A : Ad) (K : PySem.W.Frag) : Sp := fun vs H Q E => ∃ x, vs = [x] ∧ ((∃ ns, PlV A H x ns ∧ ∀ H', Same H H' → Q (.str (txt ns)) H') ∨ (NoP A K H x ∧ ErrP A H x E))
theorem ok_text_at (T : Tx P K mg A) : FnR P w K mg base (L2.CX P w) 4 A.f_text_at (sp_text_at A K) := by
  refine fnx T.F_text_at sc_text_at (fun _ _ _ _ _ _ us hl => match us, hl with | [_], _ => rfl) (fun vs H Q E h => ?_) (fun cdv A' outer s H vs Q E hr h => ?_)
  · obtain ⟨x, rfl, _⟩ := h; rfl
  · obtain ⟨x, rfl, h⟩ := h
    refine ⟨_, pss_one (ps_ret (pe_cl (ok_text_of T) (hr.mono (by decide)) (by rfl) T.mg_text_of T.kp_text_of pass0 (pa_cons (pe_cl (ok_parts_at T) hr (by rfl) T.mg_parts_at T.kp_parts_at passX (pa_cons (pv 0) pa_nil)) pa_nil))), ?_⟩
    rcases h with ⟨ns, hv, k⟩ | ⟨hn, k⟩
    · refine ⟨_, rfl, x, rfl, .inl ⟨ns, hv, fun p H1 s1 h1 => ⟨p, ns, rfl, SqT.of h1, hv.1, k H1 s1⟩⟩⟩
    · exact ⟨_, rfl, x, rfl, .inr ⟨hn, k⟩⟩
end
end NK

/-! rows in plain Lean, and on the heap -/
namespace NK
open PySem PySem.Spec PyProof.Rows L2 NA TL
abbrev Row := List (Str × Str)
abbrev Rows := List (Str × Row)
section
variable {β : Type}
def look (l : List (Str × β)) (k : Str) : Option β := (l.find? fun p => decide (p.1 = k)).map (·.2)
def putR (l : List (Str × β)) (k : Str) (v : β) : List (Str × β) := if (l.any fun p => decide (p.1 = k)) = true then l.map fun p => if p.1 = k then (p.1, v) else p else l ++ [(k, v)]
def dropR (l : List (Str × β)) (k : Str) : List (Str × β) := l.filter fun p => decide (p.1 ≠ k)
theorem look_cons (p : Str × β) (l : List (Str × β)) (k : Str) : look (p :: l) k = if p.1 = k then some p.2 else look l k := by
  unfold look
  rw [List.find?_cons]
  by_cases h : p.1 = k
  · simp [h]
  · simp [h]
theorem look_mem {l : List (Str × β)} {k : Str} {v : β} (h : look l k = some v) : (k, v) ∈ l := by
  unfold look at h
  obtain ⟨p, h1, h2⟩ := Option.map_eq_some_iff.mp h
  have := List.find?_some h1
  have e : p.1 = k := by simpa using this
  have m := List.mem_of_find?_eq_some h1
  cases p; subst e; subst h2; exact m
theorem look_none {l : List (Str × β)} {k : Str} : look l k = none ↔ ∀ p ∈ l, p.1 ≠ k := by
  unfold look
  rw [Option.map_eq_none_iff, List.find?_eq_none]
  simp
theorem look_any (l : List (Str × β)) (k : Str) : (l.any fun p => decide (p.1 = k)) = (look l k).isSome := by
  induction l with
  | nil => rfl
  | cons p l ih =>
    rw [List.any_cons, look_cons, ih]
    by_cases h : p.1 = k
    · simp [h]
    · simp [h]
theorem keys_put (l : List (Str × β)) (k : Str) (v : β) : (putR l k v).map (·.1) = if (look l k).isSome = true then l.map (·.1) else l.map (·.1) ++ [k] := by
  unfold putR
  rw [look_any]
  split
  · rw [List.map_map]
    refine List.map_congr_left fun p _ => ?_
    show (if p.1 = k then (p.1, v) else p).1 = p.1
    split <;> rfl
  · rw [List.map_append]; rfl
theorem keys_drop (l : List (Str × β)) (k : Str) : (dropR l k).map (·.1) = (l.map (·.1)).filter fun x => decide (x ≠ k) := by
  unfold dropR; rw [List.filter_map]; rfl
theorem mem_put {l : List (Str × β)} {k : Str} {v : β} {p : Str × β} (h : p ∈ putR l k v) : p = (k, v) ∨ p ∈ l := by
  unfold putR at h
  split at h
  · obtain ⟨q, hq, e⟩ := List.mem_map.mp h
    by_cases hk : q.1 = k
    · rw [if_pos hk] at e; subst e; exact .inl (by rw [hk])
    · rw [if_neg hk] at e; subst e; exact .inr hq
  · rcases List.mem_append.mp h with h | h
    · exact .inr h
    · exact .inl (List.mem_singleton.mp h)
theorem len_put (l : List (Str × β)) (k : Str) (v : β) : (putR l k v).length = if (look l k).isSome = true then l.length else l.length + 1 := by
  have := congrArg List.length (keys_put l k v)
  rw [List.length_map] at this
  rw [this]; split <;> simp
end
/-- the cells of a row -/
def Cel (H : Hp) (a : Addr) (r : Row) : Prop := (r ≠ [] ∧ (r.map (·.1)).Nodup) ∧ H a = some (.dK (r.map fun p => ((Sum.inr p.1 : Key), V.str p.2)))
theorem cel_val (r : Row) (c : Str) : valV (r.map fun p => ((Sum.inr p.1 : Key), V.str p.2)) (Sum.inr c) = (look r c).map V.str := by
  induction r with
  | nil => rfl
  | cons p r ih =>
    rw [List.map_cons, look_cons]
    by_cases h : p.1 = c
    · rw [if_pos h]; exact valV_pos (by rw [h])
    · rw [if_neg h, ← ih]; exact valV_neg fun e => h (Sum.inr.inj e)
/-- a dict of rows -/
def RwR (H : Hp) (kv : Key × V) (p : Str × Row) : Prop := kv.1 = Sum.inr p.1 ∧ ∃ a, kv.2 = V.ref a ∧ Cel H a p.2
abbrev RwF (H : Hp) : List (Key × V) → Rows → Prop := Paired (RwR H)
theorem RwF.keys {H : Hp} {kvs : List (Key × V)} {rs : Rows} (h : RwF H kvs rs) : kvs.map (·.1) = rs.map (fun p => (Sum.inr p.1 : Key)) := by
  induction h with
  | nil => rfl
  | cons h _ ih => rw [List.map_cons, List.map_cons, ih, h.1]
theorem RwF.refs {H : Hp} {kvs : List (Key × V)} {rs : Rows} (h : RwF H kvs rs) : ∀ p ∈ kvs, ∃ a, p.2 = V.ref a := by
  induction h with
  | nil => exact fun _ z => (List.not_mem_nil z).elim
  | cons h _ ih =>
    intro p hp
    rcases List.mem_cons.mp hp with e | e
    · obtain ⟨_, a, e1, _⟩ := h; exact ⟨a, by rw [e]; exact e1⟩
    · exact ih p e
theorem RwF.some {H : Hp} {kvs : List (Key × V)} {rs : Rows} (h : RwF H kvs rs) (t : Str) (r : Row) (e : look rs t = some r) : ∃ a, valV kvs (Sum.inr t) = some (.ref a) ∧ Cel H a r := by
  induction h with
  | nil => cases e
  | @cons kv p kvs rs h _ ih =>
    obtain ⟨e1, a, e2, c⟩ := h
    rw [look_cons] at e
    by_cases q : p.1 = t
    · rw [if_pos q] at e; injection e with e
      exact ⟨a, by rw [valV_pos (by rw [e1, q]), e2], e ▸ c⟩
    · rw [if_neg q] at e
      obtain ⟨b, e3, cb⟩ := ih e
      exact ⟨b, by rw [valV_neg (fun z => q (Sum.inr.inj (e1.symm.trans z)))]; exact e3, cb⟩
theorem RwF.none {H : Hp} {kvs : List (Key × V)} {rs : Rows} (h : RwF H kvs rs) (t : Str) (e : look rs t = none) : valV kvs (Sum.inr t) = none := by
  induction h with
  | nil => rfl
  | @cons kv p kvs rs h _ ih =>
    obtain ⟨e1, _⟩ := h
    rw [look_cons] at e
    by_cases q : p.1 = t
    · rw [if_pos q] at e; cases e
    · rw [if_neg q] at e
      rw [valV_neg (fun z => q (Sum.inr.inj (e1.symm.trans z)))]; exact ih e
theorem RwF.imp {H H' : Hp} {kvs : List (Key × V)} {rs : Rows} (h : RwF H kvs rs) (f : ∀ a r, Cel H a r → Cel H' a r) : RwF H' kvs rs := by
  induction h with
  | nil => exact .nil
  | cons h _ ih => exact .cons ⟨h.1, let ⟨a, e, c⟩ := h.2; ⟨a, e, f _ _ c⟩⟩ ih
theorem RwF.length {H : Hp} {kvs : List (Key × V)} {rs : Rows} (h : RwF H kvs rs) : kvs.length = rs.length := by
  induction h with
  | nil => rfl
  | cons _ _ ih => rw [List.length_cons, List.length_cons, ih]
def RwsK (H : Hp) (d : Addr) (kvs : List (Key × V)) (rs : Rows) : Prop := H d = some (.dK kvs) ∧ RwF H kvs rs
def Rws (H : Hp) (d : Addr) (rs : Rows) : Prop := ∃ kvs, RwsK H d kvs rs
theorem RwsK.pt {H : Hp} {d : Addr} {kvs : List (Key × V)} {rs : Rows} (h : RwsK H d kvs rs) : H d = some (.dK kvs) ∧ kvs.map (·.1) = rs.map (fun p => (Sum.inr p.1 : Key)) ∧ (∀ p ∈ kvs, ∃ a, p.2 = V.ref a) ∧
  (∀ t r, look rs t = some r → ∃ a, valV kvs (Sum.inr t) = some (.ref a) ∧ Cel H a r) ∧ ∀ t, look rs t = none → valV kvs (Sum.inr t) = none :=
  ⟨h.1, h.2.keys, h.2.refs, h.2.some, h.2.none⟩
/-- no cells stand at p -/
def NoCel (H : Hp) (p : Addr) : Prop := ∀ r, ¬ Cel H p r
theorem NoCel.lst {H : Hp} {p : Addr} {xs : List V} (h : H p = some (.lst xs)) : NoCel H p := fun r c => by have c2 := c.2; rw [h] at c2; cases c2
theorem NoCel.refs {H : Hp} {p : Addr} {kvs : List (Key × V)} (h : H p = some (.dK kvs)) (hr : ∀ q ∈ kvs, ∃ a, q.2 = V.ref a) : NoCel H p := fun r c => by
  obtain ⟨c1, c2⟩ := c
  rw [h] at c2
  injection c2 with c2; injection c2 with c2
  cases r with
  | nil => exact c1.1 rfl
  | cons q r =>
    obtain ⟨a, e⟩ := hr ((Sum.inr q.1 : Key), V.str q.2) (by rw [c2]; exact List.mem_cons_self ..)
    cases e
theorem NoCel.rws {H : Hp} {p : Addr} {rs : Rows} (h : Rws H p rs) : NoCel H p := let ⟨_, h1, h2⟩ := h; NoCel.refs h1 h2.refs
theorem NoCel.free {H : Hp} {p : Addr} (h : H p = none) : NoCel H p := fun r c => by have c2 := c.2; rw [h] at c2; cases c2
theorem Cel.sam {H H' : Hp} {p a : Addr} {r : Row} (h : Cel H a r) (n : NoCel H p) (e : Sam p H H') : Cel H' a r := ⟨h.1, e a _ (fun q => n r (q ▸ h)) h.2⟩
theorem Cel.same {H H' : Hp} {a : Addr} {r : Row} (h : Cel H a r) (e : Same H H') : Cel H' a r := ⟨h.1, e a _ h.2⟩
theorem RwsK.same {H H' : Hp} {d : Addr} {kvs : List (Key × V)} {rs : Rows} (h : RwsK H d kvs rs) (e : Same H H') : RwsK H' d kvs rs := ⟨e _ _ h.1, h.2.imp fun _ _ c => c.same e⟩
theorem Rws.same {H H' : Hp} {d : Addr} {rs : Rows} (h : Rws H d rs) (e : Same H H') : Rws H' d rs := let ⟨kvs, h⟩ := h; ⟨kvs, h.same e⟩
theorem Rws.sam {H H' : Hp} {p d : Addr} {rs : Rows} (h : Rws H d rs) (hd : d ≠ p) (n : NoCel H p) (e : Sam p H H') : Rws H' d rs := let ⟨kvs, h1, h2⟩ := h; ⟨kvs, e _ _ hd h1, h2.imp fun _ _ c => c.sam n e⟩
theorem Rws.nil {H : Hp} {d : Addr} (h : H d = some (.dK [])) : Rws H d [] := ⟨[], h, .nil⟩
theorem any_kvs {kvs : List (Key × V)} {rs : Rows} (h : kvs.map (·.1) = rs.map (fun p => (Sum.inr p.1 : Key))) (t : Str) : (kvs.any fun kv => decide (kv.1 = Sum.inr t)) = (rs.any fun p => decide (p.1 = t)) := by
  have e1 : (kvs.any fun kv => decide (kv.1 = Sum.inr t)) = ((kvs.map (·.1)).any fun k => decide (k = Sum.inr t)) := by rw [List.any_map]; rfl
  rw [e1, h, List.any_map]
  refine congrArg (List.any rs) (funext fun p => ?_)
  show decide ((Sum.inr p.1 : Key) = Sum.inr t) = _
  by_cases h : p.1 = t
  · simp [h]
  · simp [h]
theorem RwF.put {H : Hp} {kvs : List (Key × V)} {rs : Rows} {t : Str} {a : Addr} {r : Row} (h : RwF H kvs rs) (c : Cel H a r) : RwF H (putK kvs (Sum.inr t) (.ref a)) (putR rs t r) := by
  have ea := any_kvs h.keys t
  unfold putK putR
  rw [ea]
  split
  · clear ea
    rename_i hh
    clear hh
    induction h with
    | nil => exact .nil
    | @cons kv p kvs rs h _ ih =>
      rw [List.map_cons, List.map_cons]
      refine .cons ?_ ih
      by_cases q : p.1 = t
      · rw [if_pos q, if_pos (by rw [h.1, q])]; exact ⟨h.1, a, rfl, c⟩
      · rw [if_neg q, if_neg (fun z => q (Sum.inr.inj (h.1.symm.trans z)))]; exact h
  · exact Paired.snoc h ⟨rfl, a, rfl, c⟩
theorem Rws.put {H : Hp} {d a : Addr} {kvs : List (Key × V)} {rs : Rows} {t : Str} {r : Row} (h : RwsK H d kvs rs) (c : Cel H a r) : Rws (upd H d (.dK (putK kvs (Sum.inr t) (.ref a)))) d (putR rs t r) := by
  have n := NoCel.rws ⟨kvs, h⟩
  exact ⟨_, upd_same, (h.2.put c).imp fun _ _ c => c.sam n (Sam.refl H).upd⟩
theorem RwF.drop {H : Hp} {kvs : List (Key × V)} {rs : Rows} {t : Str} (h : RwF H kvs rs) : RwF H (dropK kvs (Sum.inr t)) (dropR rs t) := by
  unfold dropK dropR
  induction h with
  | nil => exact .nil
  | @cons kv p kvs rs h _ ih =>
    rw [List.filter_cons, List.filter_cons]
    have hk : kv.1 = Sum.inr p.1 := h.1
    by_cases q : p.1 = t
    · rw [if_neg (by simp [hk, q]), if_neg (by simp [q])]; exact ih
    · rw [if_pos (by simp [hk, q]), if_pos (by simp [q])]; exact .cons h ih
theorem Rws.drop {H : Hp} {d : Addr} {kvs : List (Key × V)} {rs : Rows} {t : Str} (h : RwsK H d kvs rs) : Rws (upd H d (.dK (dropK kvs (Sum.inr t)))) d (dropR rs t) := by
  have n := NoCel.rws ⟨kvs, h⟩
  exact ⟨_, upd_same, h.2.drop.imp fun _ _ c => c.sam n (Sam.refl H).upd⟩
/-- {**a, **b} -/
def mergeR (rs more : Rows) : Rows := more.foldl (fun acc p => putR acc p.1 p.2) rs
theorem RwF.merge {H : Hp} {more : List (Key × V)} {ms : Rows} (h : RwF H more ms) : ∀ {kvs : List (Key × V)} {rs : Rows}, RwF H kvs rs → RwF H (mergeK kvs more) (mergeR rs ms) := by
  induction h with
  | nil => exact fun h => h
  | @cons kv p more ms h _ ih =>
    intro kvs rs h0
    obtain ⟨e1, a, e2, c⟩ := h
    have := ih (h0.put (t := p.1) c)
    show RwF H (mergeK (putK kvs kv.1 kv.2) more) (mergeR (putR rs p.1 p.2) ms)
    rw [e1, e2]
    exact this
theorem nd_put {β : Type} {rs : List (Str × β)} {t : Str} {r : β} (h : (rs.map (·.1)).Nodup) : ((putR rs t r).map (·.1)).Nodup := by
  rw [keys_put]
  split
  · exact h
  · rename_i hn
    have e : look rs t = none := by cases q : look rs t with | none => rfl | some _ => rw [q] at hn; exact absurd rfl hn
    rw [List.nodup_append]
    refine ⟨h, by simp, fun a ha b hb => ?_⟩
    obtain ⟨q, hq, rfl⟩ := List.mem_map.mp ha
    rw [List.mem_singleton.mp hb]
    exact look_none.mp e q hq
theorem nd_drop {β : Type} {rs : List (Str × β)} {t : Str} (h : (rs.map (·.1)).Nodup) : ((dropR rs t).map (·.1)).Nodup := by
  rw [keys_drop]; exact h.filter _
end NK

namespace NK
open PySem PySem.Spec PyProof.Rows L2 NA TL
/-- cells that may stand in a table of the columns cs -/
def GRow (cs : List Str) (r : Row) : Prop := r ≠ [] ∧ r.length ≤ 1000 ∧ ∀ p ∈ r, p.1 ∈ cs ∧ isNm p.2 = true
structure GCol (cs : List Str) : Prop where
  lo : 1 ≤ cs.length
  hi : cs.length ≤ 3
  nm : ∀ c ∈ cs, isNm c = true
  nd : cs.Nodup
structure GTb (cs : List Str) (rs : Rows) : Prop where
  col : GCol cs
  row : ∀ p ∈ rs, isTx p.1 = true ∧ p.1.length ≤ 73 ∧ GRow cs p.2
  nd : (rs.map (·.1)).Nodup
  len : rs.length ≤ 40
/-- a table at a, its dict of rows at d -/
def Tbl (A : Ad) (H : Hp) (a d : Addr) (cs : List Str) (rs : Rows) : Prop := GTb cs rs ∧ (∃ dx tc, H a = some (.ins A.c_Table dx [("columns", .ref tc), ("row_of", .ref d)]) ∧ H tc = some (.tup (cs.map V.str))) ∧ Rws H d rs
theorem Tbl.same {A : Ad} {H H' : Hp} {a d : Addr} {cs : List Str} {rs : Rows} (h : Tbl A H a d cs rs) (e : Same H H') : Tbl A H' a d cs rs := by
  obtain ⟨g, ⟨dx, tc, h1, h2⟩, h3⟩ := h
  exact ⟨g, ⟨dx, tc, e _ _ h1, e _ _ h2⟩, h3.same e⟩
theorem lkc (t d : Addr) : (([("columns", V.ref t), ("row_of", V.ref d)] : List (Str × V)).lookup ("columns" : Str)) = some (.ref t) := by
  rw [List.lookup]; rfl
theorem lkr (t d : Addr) : (([("columns", V.ref t), ("row_of", V.ref d)] : List (Str × V)).lookup ("row_of" : Str)) = some (.ref d) := by
  have e : (("row_of" : Str) == ("columns" : Str)) = false := by decide +kernel
  rw [List.lookup, e, List.lookup]; rfl
theorem inV_str (c : Str) (cs : List Str) : inV (.str c) (cs.map V.str) = decide (c ∈ cs) := by
  unfold inV
  rw [List.any_map]
  have e : (fun y => eqV y (.str c)) ∘ V.str = fun x => decide (x = c) := funext fun x => by
    show (x == c) = _
    by_cases h : x = c
    · simp [h]
    · rw [decide_eq_false h]; exact beq_false_of_ne h
  rw [e]
  by_cases h : c ∈ cs
  · rw [decide_eq_true h]; exact List.any_eq_true.mpr ⟨c, h, by simp⟩
  · rw [decide_eq_false h]
    refine List.any_eq_false.mpr fun x hx => ?_
    simp only [decide_eq_true_eq]
    exact fun e => h (e ▸ hx)
theorem flat_strs (cs : List Str) : (cs.map V.str).all flatV = true := by
  rw [List.all_map]; exact List.all_eq_true.mpr fun _ _ => rfl
section
variable {P : Program} {w : World} {K : PySem.W.Frag} {mg : Str → Option Value} {base : Heap} {A : Ad}
theorem Tx.clT (T : Tx P K mg A) : Cls K A.c_Table := ⟨T.pg_Table, T.hd_Table, T.po_Table, T.sa_Table⟩
theorem Tx.nCol (T : Tx P K mg A) : NoAttr K A.c_Table "columns" := T.ncolumns_Table
theorem Tx.nRow (T : Tx P K mg A) : NoAttr K A.c_Table "row_of" := T.nrow_of_Table
end
end NK

namespace NK
open PySem PySem.Spec PyProof.Rows L2 NA TL
/-! ### texts in order -/
def LeS (a b : Str) : Prop := ltCps b.cps.toList a.cps.toList = false
theorem leS_iff {a b : Str} : LeS a b ↔ ¬ tl b < tl a := by
  unfold LeS
  rw [ltCps_eq]
  exact decide_eq_false_iff_not
theorem LeS.refl (a : Str) : LeS a a := leS_iff.mpr (List.lt_irrefl _)
theorem LeS.trans {a b c : Str} (h1 : LeS a b) (h2 : LeS b c) : LeS a c := by
  rw [leS_iff] at *
  exact List.le_trans (l₁ := tl a) (l₂ := tl b) (l₃ := tl c) h1 h2
theorem LeS.anti {a b : Str} (h1 : LeS a b) (h2 : LeS b a) : a = b := by
  rw [leS_iff] at *
  have : tl a = tl b := List.le_antisymm (as := tl a) (bs := tl b) h1 h2
  cases a; cases b; exact congrArg Str.mk (Array.toList_inj.mp this)
theorem risingS_pw : ∀ (p : Str) (l : List Str), risingS p l = true → (p :: l).Pairwise LeS
  | p, [], _ => by simp
  | p, x :: r, h => by
    rw [risingS, Bool.and_eq_true, Bool.not_eq_true'] at h
    have ih := risingS_pw x r h.2
    refine List.pairwise_cons.mpr ⟨fun y hy => ?_, ih⟩
    rcases List.mem_cons.mp hy with e | e
    · rw [e]; exact h.1
    · exact LeS.trans (b := x) h.1 ((List.pairwise_cons.mp ih).1 y e)
theorem sortedS_pw : ∀ {l : List Str}, sortedS l = true → l.Pairwise LeS
  | [], _ => .nil
  | x :: r, h => risingS_pw x r h
/-- the least text that is so -/
def LeastS (m : Str) (S : Str → Prop) : Prop := S m ∧ ∀ t, S t → LeS m t
theorem LeastS.one {m m' : Str} {S : Str → Prop} (h : LeastS m S) (h' : LeastS m' S) : m = m' := (h.2 _ h'.1).anti (h'.2 _ h.1)
theorem least_head {m : Str} {r xs : List Str} (hp : (m :: r).Perm xs) (hs : sortedS (m :: r) = true) : LeastS m (· ∈ xs) := by
  refine ⟨hp.subset (List.mem_cons_self ..), fun t ht => ?_⟩
  rcases List.mem_cons.mp (hp.symm.subset ht) with e | e
  · rw [e]; exact LeS.refl m
  · exact (List.pairwise_cons.mp (sortedS_pw hs)).1 t e
/-! ### what a comprehension with a test leaves -/
theorem flt_strs {ts : List Str} {b : Nat → Bool} {p : Str → Bool} {ys : List V} (hb : ∀ i t, ts[i]? = some t → b i = p t) (hl : ys.length = ((List.range ts.length).filter b).length)
    (hy : ∀ (j i : Nat) v, ((List.range ts.length).filter b)[j]? = some i → ys[j]? = some v → ∃ t, ts[i]? = some t ∧ v = .str t) : ys = (ts.filter p).map V.str := by
  have e1 : ts = (List.range ts.length).map fun i => ts.getD i "" := by
    refine List.ext_getElem? fun i => ?_
    rw [List.getElem?_map]
    by_cases h : i < ts.length
    · rw [List.getElem?_range h]; simp [List.getD_eq_getElem?_getD, List.getElem?_eq_getElem h]
    · rw [List.getElem?_eq_none (by omega), List.getElem?_eq_none (by rw [List.length_range]; omega)]; rfl
  have e2 : ts.filter p = ((List.range ts.length).filter b).map fun i => ts.getD i "" := by
    conv => lhs; rw [e1]
    rw [List.filter_map]
    congr 1
    refine List.filter_congr fun i hi => ?_
    have h : i < ts.length := List.mem_range.mp hi
    rw [hb i ts[i] (List.getElem?_eq_getElem h)]
    simp [Function.comp, List.getD_eq_getElem?_getD, List.getElem?_eq_getElem h]
  rw [e2, List.map_map]
  refine List.ext_getElem? fun j => ?_
  by_cases h : j < ys.length
  · have h' : j < ((List.range ts.length).filter b).length := by rw [← hl]; exact h
    obtain ⟨t, h1, h2⟩ := hy j _ _ (List.getElem?_eq_getElem h') (List.getElem?_eq_getElem h)
    rw [List.getElem?_eq_getElem h, h2, List.getElem?_map, List.getElem?_eq_getElem h']
    simp [Function.comp, List.getD_eq_getElem?_getD, h1]
  · rw [List.getElem?_eq_none (by omega), List.getElem?_eq_none (by rw [List.length_map]; omega)]
end NK

namespace NK
open PySem PySem.Spec PyProof.Rows L2 NA TL
theorem Same.unlock {H H' : Hp} {d : Addr} {u : HO} {od : Obj} (h : H d = some u) (e : Same (upd H d (.frz od u)) H') : Same H (upd H' d u) := fun b o hb => by
  by_cases n : b = d
  · subst n; rw [upd_same]; exact h.symm.trans hb
  · rw [upd_ne n]; exact e b o (by rw [upd_ne n]; exact hb)
theorem cut_take (xs : List V) (k : Nat) : cutV xs none (some (k : Int)) = xs.take k := by
  unfold cutV
  rw [HT.sIx_none, HT.sIx_nat, List.drop_zero, Nat.sub_zero]
  by_cases h : k ≤ xs.length
  · rw [Nat.min_eq_left h]
  · rw [Nat.min_eq_right (by omega), List.take_length, List.take_of_length_le (by omega)]
theorem shaped_strsL {ns : List Str} (h : Oks ns) : SeqAt.shaped (.list (ns.map PyData.str)) = true := by
  unfold SeqAt.shaped
  have := depth_strs ns
  rw [Bool.and_eq_true]
  exact ⟨by rw [PyData.canLay0]; exact canLay_strs ns h, decide_eq_true (by rw [PyData.depth]; omega)⟩
theorem eqv_nilS : ∀ ns : List Str, PyData.eqv (.list (ns.map PyData.str)) (.list (([] : List Str).map PyData.str)) = ns.isEmpty
  | [] => by simp [PyData.eqv, PyData.eqvAll]
  | _ :: _ => by simp [PyData.eqv, PyData.eqvAll]
theorem c_neLS {K : PySem.W.Frag} {H : Hp} {l q : Addr} {ns : List Str} {Q : VK} (o : Oks ns) (h : SqL K H l (ns.map V.str)) (hq : SqL K H q []) (k : Q (.bl (!ns.isEmpty)) H) : rNeD K (.ref l) (.ref q) H Q :=
  ⟨_, .list (([] : List Str).map PyData.str), .lst h (dp_strs ns), .lst hq .nil, shaped_strsL o, shaped_strsL (fun _ z => (List.not_mem_nil z).elim), by rw [eqv_nilS]; exact k⟩
section
variable {P : Program} {w : World} {K : PySem.W.Frag} {mg : Str → Option Value} {base : Heap} {A : Ad}
/-- a text that may be a key: short and laid out -/
def Shk (t : Str) : Prop := t.length ≤ 100000 ∧ PyData.strOk t = true
/-- an error of the class C with one field -/
def ErrF (C : Addr) (f : Str) (H : Hp) (x : V) (E : XK) : Prop := ∀ H' d, Same H H' → H' d = none → E (.ref C) (some d) (upd H' d (.xd [(f, x)]))
theorem ErrF.up {C : Addr} {f : Str} {H H' : Hp} {x : V} {E : XK} (h : ErrF C f H x E) (e : Same H H') : ErrF C f H' x E := fun H2 d e2 hd => h H2 d (e.trans e2) hd
/-- a wrong key among ts -/
def BadK (ts : List Str) (t : Str) : Prop := t ∈ ts ∧ isTx t = false
def sp_need_keys (A : Ad) (K : PySem.W.Frag) : Sp := fun vs H Q E => ∃ (d : Addr) (kvs : List (Key × V)) (ts : List Str), vs = [.ref d] ∧ H d = some (.dK kvs) ∧ kvs.map (·.1) = ts.map (fun t => (Sum.inr t : Key)) ∧ (∀ t ∈ ts, Shk t) ∧ ts.length < 64 ∧
  ((∀ t ∈ ts, isTx t = true) → ∀ H', Same H H' → Q .non H') ∧ (∀ m, LeastS m (BadK ts) → ErrF A.c_BadPlace "value" H (.str m) E)
theorem ok_need_keys (T : Tx P K mg A) : FnR P w K mg base (L2.CX P w) 3 A.f_need_keys (sp_need_keys A K) := by
  refine fnx T.F_need_keys sc_need_keys (fun _ _ _ _ _ _ us hl => match us, hl with | [_], _ => rfl) (fun vs H Q E h => ?_) (fun cdv A' outer s H vs Q E hr h => ?_)
  · obtain ⟨d, kvs, ts, rfl, _⟩ := h; rfl
  · obtain ⟨d, kvs, ts, rfl, hd, hk, hg, hl, k, kE⟩ := h
    refine ⟨_, pss_cons (ps_set (i := 1) sc_need_keys.nd rfl (.inl rfl) (pe_callB cr_sortedS (by rfl) T.z_sorted (by decide +kernel) (pa_cons
        (pe_lock (pe_lc (own := [("key", 2)]) (g := gName 2) rfl sc_need_keys.nd (pi_keys (pv 0)) (blkOk_by (N := ["rows", "wrong", "key"]) (sc := defScope s_need_keys) (by decide +kernel)) (fun _ _ _ _ _ => pg_name (i := 2) sc_need_keys.nd rfl (Or.inl rfl))
          (fun _ _ _ _ _ => pts_one (pt_not (pt_val (pe_cl (ok_is_text T) hr (by rfl) T.mg_is_text T.kp_is_text pass0 (pa_cons (pv 2) pa_nil)))))
          (fun _ _ _ _ _ => pe_callTy SkE.call_str_str (by rfl) T.z_str (by decide +kernel) (pa_cons (pv 2) pa_nil)))) pa_nil)))
      (pss_one (ps_if (pt_cmpR (op_neD hr.units) (pv 1) (pe_lst pa_nil) (nomark _)) (pss_one (ps_raise rfl takesX (pmk_err T.er_BadPlace hr (by rfl) T.mg_BadPlace (pe_ix ix_list (pv 1) pe_int (fun _ _ => rfl))))) pss_nil)), ?_⟩
    refine ⟨d, _, hd, trivial, fun od => ⟨_, rfl, d, od, rfl, .inl ⟨kvs, upd_same, fun D hD => ?_⟩⟩⟩
    have hlen : kvs.length = ts.length := by have := congrArg List.length hk; simpa using this
    refine lc_flt (walk_keys (d := d) (o := od) (kvs := kvs)) (fun i v _ => ∃ t, ts[i]? = some t ∧ v = .str t) (fun i => !isTx (ts.getD i "")) hD (fun _ _ _ _ _ _ _ h => h) (fun H3 s3 => s3 _ _ upd_same) (by rw [hlen]; exact szl (by omega)) ?_ g_name_mono ?_
    · rintro i x H3 H4 hi s3 ⟨rfl, key, v, e, rfl⟩
      have ek : (ts.map (fun t => (Sum.inr t : Key)))[i]? = some key := by rw [← hk, List.getElem?_map, e]; rfl
      rw [List.getElem?_map] at ek
      obtain ⟨t, ht, rfl⟩ := Option.map_eq_some_iff.mp ek
      have eg : ts.getD i "" = t := by rw [List.getD_eq_getElem?_getD, ht]; rfl
      refine ⟨Same.refl _, rfl, Same.refl _, fun Q' hQ => ⟨_, rfl, .inl ⟨t, rfl, (hg t (List.mem_of_getElem? ht)).1, fun H5 s5 => ⟨_, rfl, ?_⟩⟩⟩⟩
      dsimp only
      rw [eg] at hQ
      exact hQ H5 s5 fun _ Q'' hQ2 => ⟨_, rfl, t, rfl, hQ2 _ _ (Same.refl _) ⟨t, ht, rfl⟩⟩
    · intro H3 ys s3 e3 hl3 hy
      have ey : ys = (ts.filter fun t => !isTx t).map V.str := flt_strs (b := fun i => !isTx (ts.getD i "")) (fun i t ht => by rw [List.getD_eq_getElem?_getD, ht]; rfl) (by rw [← hlen]; exact hl3) (by rw [← hlen]; exact hy)
      rw [ey] at e3
      have sU := Same.unlock hd s3
      have hnd : D ≠ d := fun z => by subst z; rw [upd_same] at hD; cases hD
      have hlf : (ts.filter fun t => !isTx t).length < 64 := Nat.lt_of_le_of_lt (List.length_filter_le _ _) hl
      refine ⟨s3 _ _ upd_same, D, _, rfl, SqL.of (by rw [upd_ne hnd]; exact e3), hlf, fun zs p hp hs hpn => ?_⟩
      refine ⟨_, rfl, Nat.zero_le _, fun q hq => ?_⟩
      have npq : p ≠ q := fun z => by subst z; rw [upd_same] at hq; cases hq
      have s4 := (sU.trans (Same.new (o := .lst (zs.map V.str)) hpn)).trans (Same.new (o := .lst []) hq)
      have hpz : (upd (upd (upd H3 d (.dK kvs)) p (.lst (zs.map V.str))) q (.lst [])) p = some (.lst (zs.map V.str)) := by rw [upd_ne npq]; exact upd_same
      have oz : Oks zs := fun t ht => (hg t (List.mem_filter.mp (hp.subset ht)).1).2
      refine c_neLS oz (SqL.of hpz) (SqL.of upd_same) ⟨_, rfl, ?_⟩
      cases zs with
      | nil =>
        refine iteF (k (fun t ht => ?_) _ s4)
        cases e : isTx t with
        | true => rfl
        | false => exact absurd (hp.symm.subset (List.mem_filter.mpr ⟨ht, by rw [e]; rfl⟩)) (List.not_mem_nil)
      | cons m r =>
        have lm := least_head hp hs
        refine iteT ⟨_, rfl, p, _, _, .str m, rfl, rfl, SqL.of hpz, atI_nat (j := 0) rfl, v_err fun d hd => kE m ⟨?_, fun t ht => ?_⟩ _ _ s4 hd⟩
        · have := List.mem_filter.mp lm.1
          exact ⟨this.1, by simpa using this.2⟩
        · exact lm.2 t (List.mem_filter.mpr ⟨ht.1, by rw [ht.2]; rfl⟩)
end
end NK

namespace NK
open PySem PySem.Spec PyProof.Rows L2 NA TL
theorem putR_new {β : Type} {l : List (Str × β)} {k : Str} {v : β} (h : look l k = none) : putR l k v = l ++ [(k, v)] := by
  unfold putR
  rw [look_any, h, if_neg (by simp)]
theorem mergeR_app : ∀ (ms acc : Rows), ((acc ++ ms).map (·.1)).Nodup → mergeR acc ms = acc ++ ms
  | [], acc, _ => by simp [mergeR]
  | p :: ms, acc, h => by
    have hn : look acc p.1 = none := look_none.mpr fun q hq e => by
      rw [List.map_append, List.map_cons, List.nodup_append] at h
      exact h.2.2 q.1 (List.mem_map.mpr ⟨q, hq, rfl⟩) p.1 (List.mem_cons_self ..) e
    show mergeR (putR acc p.1 p.2) ms = _
    rw [putR_new hn, mergeR_app ms _ (by simpa using h)]
    simp
theorem mergeR_nil {ms : Rows} (h : (ms.map (·.1)).Nodup) : mergeR [] ms = ms := by
  rw [mergeR_app ms [] (by simpa using h)]; rfl
theorem look_of_mem {β : Type} : ∀ {l : List (Str × β)} {p : Str × β}, (l.map (·.1)).Nodup → p ∈ l → look l p.1 = some p.2
  | q :: l, p, hn, hp => by
    rw [List.map_cons, List.nodup_cons] at hn
    rw [look_cons]
    rcases List.mem_cons.mp hp with e | e
    · rw [e, if_pos rfl]
    · rw [if_neg (fun z => hn.1 (List.mem_map.mpr ⟨p, e, z.symm⟩))]
      exact look_of_mem hn.2 e
/-- look goes by the keys alone -/
theorem look_perm {β : Type} {fs rs : List (Str × β)} (h : fs.Perm rs) (hn : (rs.map (·.1)).Nodup) (t : Str) : look fs t = look rs t := by
  have hf : (fs.map (·.1)).Nodup := (h.map _).nodup_iff.mpr hn
  cases e : look rs t with
  | none =>
    refine look_none.mpr fun p hp => ?_
    exact look_none.mp e p (h.subset hp)
  | some r => exact look_of_mem (p := (t, r)) hf (h.symm.subset (look_mem e))
/-! ### dicts with texts as keys and any values -/
abbrev XRow := List (Str × V)
abbrev xM (r : XRow) : List (Key × V) := r.map fun p => ((Sum.inr p.1 : Key), p.2)
abbrev sR (r : Row) : XRow := r.map fun p => (p.1, V.str p.2)
theorem xM_sR (r : Row) : xM (sR r) = r.map fun p => ((Sum.inr p.1 : Key), V.str p.2) := by
  unfold xM sR; rw [List.map_map]; rfl
theorem xM_val (r : XRow) (c : Str) : valV (xM r) (Sum.inr c) = look r c := by
  induction r with
  | nil => rfl
  | cons p r ih =>
    show valV ((Sum.inr p.1, p.2) :: xM r) _ = _
    rw [look_cons]
    by_cases h : p.1 = c
    · rw [if_pos h]; exact valV_pos (by rw [h])
    · rw [if_neg h, ← ih]; exact valV_neg fun e => h (Sum.inr.inj e)
theorem look_sR (r : Row) (c : Str) : look (sR r) c = (look r c).map V.str := by
  induction r with
  | nil => rfl
  | cons p r ih =>
    rw [look_cons]
    show look ((p.1, V.str p.2) :: sR r) c = _
    rw [look_cons, ih]
    dsimp only
    split <;> rfl
def nmB : V → Bool
  | .str z => isNm z
  | _ => false
/-- whether cells may stand in a table of the columns cs -/
def okR (cs : List Str) (xr : XRow) : Bool := !xr.isEmpty && xr.all fun p => isNm p.1 && (decide (p.1 ∈ cs) && nmB ((look xr p.1).getD .non))
theorem okR_good {cs : List Str} {r : Row} (gc : GCol cs) (gr : GRow cs r) : okR cs (sR r) = true := by
  unfold okR
  rw [Bool.and_eq_true]
  refine ⟨?_, List.all_eq_true.mpr fun p hp => ?_⟩
  · cases r with
    | nil => exact absurd rfl gr.1
    | cons _ _ => rfl
  · obtain ⟨q, hq, rfl⟩ := List.mem_map.mp hp
    obtain ⟨g1, g2⟩ := gr.2.2 q hq
    rw [look_sR]
    dsimp only
    rw [gc.nm _ g1, decide_eq_true g1]
    cases e : look r q.1 with
    | none => exact absurd rfl (look_none.mp e q hq)
    | some z => exact (gr.2.2 _ (look_mem e)).2
section
variable {P : Program} {w : World} {K : PySem.W.Frag} {mg : Str → Option Value} {base : Heap} {A : Ad}
/-- a value of which is_name may be asked, while the object at a is locked -/
def NmS (K : PySem.W.Frag) (H : Hp) (a : Addr) (v : V) : Prop := (∃ z : Str, v = .str z ∧ z.length ≤ sizeLine) ∨ ((∀ z, v ≠ .str z) ∧ ∃ t, (∀ H', Sam a H H' → TyX K H' v t) ∧ PySem.W.kitOne K t (.type "str") = some false)
theorem NmS.same {H H' : Hp} {a : Addr} {v : V} (h : NmS K H a v) (e : Same H H') : NmS K H' a v := h.imp (fun h => h) fun ⟨n, t, h1, h2⟩ => ⟨n, t, fun H2 e2 => h1 H2 ((Sam.of e).trans e2), h2⟩
theorem nmB_no {v : V} (h : ∀ z, v ≠ .str z) : nmB v = false := by
  cases v <;> first | rfl | exact absurd rfl (h _)
def sp_is_cells (K : PySem.W.Frag) : Sp := fun vs H Q E => ∃ (tc : Addr) (x : V) (cs : List Str), vs = [.ref tc, x] ∧ H tc = some (.tup (cs.map V.str)) ∧ GCol cs ∧
  ((∃ t, TyX K H x t ∧ PySem.W.kitOne K t (.type "dict") = some false ∧ ∀ H', Same H H' → Q (.bl false) H') ∨
   ∃ (a : Addr) (xr : XRow), x = .ref a ∧ H a = some (.dK (xM xr)) ∧ xr.length ≤ 1000 ∧ (∀ p ∈ xr, p.1.length ≤ sizeLine ∧ NmS K H a p.2) ∧ ∀ H', Same H H' → Q (.bl (okR cs xr)) H')
theorem ok_is_cells (T : Tx P K mg A) : FnR P w K mg base CX0 2 A.f_is_cells (sp_is_cells K) := by
  refine fnr T.F_is_cells sc_is_cells (fun _ _ _ _ _ _ us hl => match us, hl with | [_, _], _ => rfl) (fun vs H Q E h => ?_) (fun cdv A' outer s H vs Q E hr h => ?_)
  · obtain ⟨tc, x, cs, rfl, _⟩ := h; rfl
  · obtain ⟨tc, x, cs, rfl, htc, gc, h⟩ := h
    refine ⟨_, pss_cons (ps_if (PW.pt (pw_or (pt_not (pt_val (pe_callB call_isi (by rfl) T.z_isinstance (by decide +kernel) (pa_cons (pv 1) (pa_cons (pe_bltn (v := .ty "dict") (by rfl) T.z_dict (by decide +kernel) rfl) pa_nil)))))
        (pw_or1 (pt_cmpR op_eq (pe_callB call_lenD (by rfl) T.z_len PySem.boot_len (pa_cons (pv 1) pa_nil)) pe_int (nomark _))))) (pss_one (ps_ret pe_bl)) pss_nil)
      (pss_one (ps_ret (pe_callB (cr_all rfl) (by rfl) T.z_all (by decide +kernel) (pa_cons
        (pe_lock (pe_lc (own := [("column", 2)]) (g := gName 2) (tt := tYes) rfl sc_is_cells.nd (pi_keys (pv 1)) (blkOk_by (N := ["columns", "value", "column"]) (sc := defScope s_is_cells) (by decide +kernel)) (fun _ _ _ _ _ => pg_name (i := 2) sc_is_cells.nd rfl (Or.inl rfl)) (fun _ _ _ _ _ => pts_nil)
          (fun _ _ _ _ _ => pe_and (pe_cl (ok_is_name T) hr (by rfl) T.mg_is_name T.kp_is_name pass0 (pa_cons (pv 2) pa_nil)) (pe_and (pe_cmpR (r := rIn K false) op_in_seq (pv 2) (pv 0) rfl)
            (pe_one (pe_cl (ok_is_name T) hr (by rfl) T.mg_is_name T.kp_is_name pass0 (pa_cons (pe_dget (hu_of hr) (pv 1) (pv 2) (fun _ _ => rfl)) pa_nil))))))) pa_nil)))), ?_⟩
    rcases h with ⟨t, ty, kt, k⟩ | ⟨a, xr, rfl, ha, hl, hx, k⟩
    · exact ⟨_, rfl, x, .ty "dict", t, .type "dict", false, rfl, .ty "dict", ty, kt, false, rfl, iteT (iteT (k H (Same.refl H)))⟩
    refine ⟨_, rfl, .ref a, .ty "dict", .type "dict", .type "dict", true, rfl, .ty "dict", .base (.dK ha), kit_self, true, rfl, iteF ?_⟩
    refine ⟨_, rfl, a, _, rfl, ha, rfl, _, rfl, ?_⟩
    cases xr with
    | nil => exact iteT (k H (Same.refl H))
    | cons p0 xr0 =>
    generalize hxr : p0 :: xr0 = xr at *
    refine iteF' ?_ ?_
    · rw [List.length_map, ← hxr]
      refine decide_eq_false fun e => ?_
      injection e with e
      rw [List.length_cons] at e; omega
    refine ⟨a, _, ha, trivial, fun od => ⟨_, rfl, a, od, rfl, .inl ⟨_, upd_same, fun D hD => ?_⟩⟩⟩
    have hna : tc ≠ a := fun z => by subst z; rw [htc] at ha; cases ha
    have hsm : ∀ {H3 : Hp}, Same (upd H a (.frz od (.dK (xM xr)))) H3 → Sam a H H3 := fun {H3} s b o n hb => s b o (by rw [upd_ne n]; exact hb)
    refine lc_all (walk_keys (d := a) (o := od)) (fun i v _ => v = .bl ((xr.map fun p => isNm p.1 && (decide (p.1 ∈ cs) && nmB ((look xr p.1).getD .non))).getD i false)) hD (fun _ _ _ _ _ _ _ h => h) (fun H3 s3 => s3 _ _ upd_same) (by rw [List.length_map]; exact szl (by omega)) ?_ g_name_mono ?_
    · rintro i x H3 H4 hi s3 ⟨rfl, key, v, e, rfl⟩
      rw [List.getElem?_map] at e
      obtain ⟨q, hq, eq⟩ := Option.map_eq_some_iff.mp e
      injection eq with e1 e2
      subst e1 e2
      have hqm := List.mem_of_getElem? hq
      have eg : (xr.map fun p => isNm p.1 && (decide (p.1 ∈ cs) && nmB ((look xr p.1).getD .non))).getD i false = (isNm q.1 && (decide (q.1 ∈ cs) && nmB ((look xr q.1).getD .non))) := by
        rw [List.getD_eq_getElem?_getD, List.getElem?_map, hq]; rfl
      rw [eg]
      obtain ⟨v, hv⟩ : ∃ v, look xr q.1 = some v := by
        cases e : look xr q.1 with
        | some z => exact ⟨z, rfl⟩
        | none => exact absurd rfl (look_none.mp e q hqm)
      obtain ⟨_, nm⟩ := hx _ (look_mem hv)
      rw [hv]
      refine ⟨Same.refl _, rfl, Same.refl _, fun Q' hQ => ⟨_, rfl, .inl ⟨q.1, rfl, (hx q hqm).1, fun H5 s5 => ⟨_, rfl, ?_⟩⟩⟩⟩
      cases en : isNm q.1 with
      | false => exact iteF (hQ _ _ s5 (by rw [en]; rfl))
      | true =>
      have htc5 : H5 tc = some (.tup (cs.map V.str)) := s5 _ _ (s3 _ _ (by rw [upd_ne hna]; exact htc))
      refine iteT ⟨_, rfl, _, rfl, tc, _, rfl, .inr (SqT.of htc5), rfl, flat_strs cs, _, rfl, ?_⟩
      have ha5 : H5 a = some (.frz od (.dK (xM xr))) := s5 _ _ (s3 _ _ upd_same)
      by_cases hc : q.1 ∈ cs
      · refine iteT' (by show inV (.str q.1) (cs.map V.str) = true; rw [inV_str]; exact decide_eq_true hc) ?_
        have ev := xM_val xr q.1
        rw [hv] at ev
        refine ⟨_, rfl, _, rfl, a, v, rfl, .inl ⟨_, Sum.inr q.1, .inr ⟨od, ha5⟩, rfl, ev.symm⟩, ?_⟩
        rcases nm with ⟨z, rfl, hz⟩ | ⟨ns, t, ty, kt⟩
        · exact .inl ⟨z, rfl, hz, fun H6 s6 => hQ _ _ (s5.trans s6) (by rw [en, decide_eq_true hc]; rfl)⟩
        · exact .inr ⟨v, t, rfl, ty _ (hsm (s3.trans s5)), kt, hQ _ _ s5 (by rw [en, decide_eq_true hc]; show V.bl false = .bl (nmB v); rw [nmB_no ns])⟩
      · refine iteF' (by show inV (.str q.1) (cs.map V.str) = false; rw [inV_str]; exact decide_eq_false hc) (hQ _ _ s5 ?_)
        rw [en, decide_eq_false hc]; rfl
    · intro H3 ys s3 e3 hl3 hy
      have ey := list_fn hl3 hy
      have sU := Same.unlock ha s3
      have hnd : D ≠ a := fun z => by subst z; rw [upd_same] at hD; cases hD
      have eb : ys = (xr.map fun p => isNm p.1 && (decide (p.1 ∈ cs) && nmB ((look xr p.1).getD .non))).map V.bl := by
        rw [ey, List.length_map]
        have := range_map (xr.map fun p => isNm p.1 && (decide (p.1 ∈ cs) && nmB ((look xr p.1).getD .non))) false V.bl
        rw [List.length_map] at this
        exact this
      rw [eb] at e3
      refine ⟨s3 _ _ upd_same, D, _, rfl, SqL.of (by rw [upd_ne hnd]; exact e3), ?_⟩
      have et : ((xr.map fun p => isNm p.1 && (decide (p.1 ∈ cs) && nmB ((look xr p.1).getD .non))).all id) = okR cs xr := by
        unfold okR
        rw [← hxr, List.all_map]; rfl
      rw [et]
      exact k _ sU
end
end NK

namespace NK
open PySem PySem.Spec PyProof.Rows L2 NA TL
theorem mem_putK {ks : List (Key × V)} {k : Key} {v : V} {p : Key × V} (h : p ∈ putK ks k v) : p ∈ ks ∨ p.2 = v := by
  unfold putK at h
  split at h
  · obtain ⟨q, hq, e⟩ := List.mem_map.mp h
    split at e
    · right; rw [← e]
    · left; rw [← e]; exact hq
  · rcases List.mem_append.mp h with h | h
    · exact .inl h
    · right; rw [List.mem_singleton.mp h]
theorem mem_mergeK {p : Key × V} : ∀ {ms ks : List (Key × V)}, p ∈ mergeK ks ms → p ∈ ks ∨ ∃ q ∈ ms, p.2 = q.2
  | [], ks, h => .inl h
  | m :: ms, ks, h => by
    rcases mem_mergeK (ms := ms) (ks := putK ks m.1 m.2) h with h | ⟨q, hq, e⟩
    · rcases mem_putK h with h | h
      · exact .inl h
      · exact .inr ⟨m, List.mem_cons_self .., h⟩
    · exact .inr ⟨q, List.mem_cons_of_mem _ hq, e⟩
/-- the rows that stand in the dict at d lie at addresses that are so -/
def Cls (F : Addr → Prop) (H : Hp) (d : Addr) : Prop := ∀ kvs, H d = some (.dK kvs) → ∀ p ∈ kvs, ∀ b, p.2 = .ref b → F b
theorem Cls.at {F : Addr → Prop} {H H' : Hp} {d : Addr} (h : Cls F H d) (e : H' d = H d) : Cls F H' d := fun kvs hk => h kvs (by rw [← e]; exact hk)
theorem Cls.imp {F G : Addr → Prop} {H : Hp} {d : Addr} (h : Cls F H d) (i : ∀ b, F b → G b) : Cls G H d := fun kvs hk p hp b e => i b (h kvs hk p hp b e)
theorem Cls.same {F : Addr → Prop} {H H' : Hp} {d : Addr} {kvs : List (Key × V)} (h : Cls F H d) (hd : H d = some (.dK kvs)) (e : Same H H') : Cls F H' d := h.at (by rw [e _ _ hd, hd])
/-- old rows, or new ones -/
abbrev Newer (H H' : Hp) (d d' : Addr) : Prop := ∀ F : Addr → Prop, Cls F H d → (∀ b, H b = none → F b) → Cls F H' d'
section
variable {P : Program} {w : World} {K : PySem.W.Frag} {mg : Str → Option Value} {base : Heap} {A : Ad}
/-- x is no row of cells -/
def NoCells (K : PySem.W.Frag) (H : Hp) (cs : List Str) (x : V) : Prop := (∃ t, (∀ H', Same H H' → TyX K H' x t) ∧ PySem.W.kitOne K t (.type "dict") = some false) ∨
  ∃ (a : Addr) (xr : XRow), x = .ref a ∧ H a = some (.dK (xM xr)) ∧ xr.length ≤ 1000 ∧ (∀ p ∈ xr, p.1.length ≤ sizeLine ∧ NmS K H a p.2) ∧ okR cs xr = false
/-- x is a row of cells -/
def OkCells (H : Hp) (cs : List Str) (x : V) (r : Row) : Prop := ∃ a, x = .ref a ∧ Cel H a r ∧ GRow cs r
theorem NoCells.same {H H' : Hp} {cs : List Str} {x : V} (h : NoCells K H cs x) (e : Same H H') : NoCells K H' cs x :=
  h.imp (fun ⟨t, h1, h2⟩ => ⟨t, fun H2 e2 => h1 H2 (e.trans e2), h2⟩) fun ⟨a, xr, h1, h2, h3, h4, h5⟩ => ⟨a, xr, h1, e _ _ h2, h3, fun p hp => ⟨(h4 p hp).1, (h4 p hp).2.same e⟩, h5⟩
theorem OkCells.same {H H' : Hp} {cs : List Str} {x : V} {r : Row} (h : OkCells H cs x r) (e : Same H H') : OkCells H' cs x r := let ⟨a, h1, h2, h3⟩ := h; ⟨a, h1, h2.same e, h3⟩
theorem OkCells.ask {H : Hp} {cs : List Str} {x : V} {r : Row} {tc : Addr} {Q : VK} {E : XK} (h : OkCells H cs x r) (ht : H tc = some (.tup (cs.map V.str))) (gc : GCol cs) (k : ∀ H', Same H H' → Q (.bl true) H') : sp_is_cells K [.ref tc, x] H Q E := by
  obtain ⟨a, rfl, ca, gr⟩ := h
  refine ⟨tc, .ref a, cs, rfl, ht, gc, .inr ⟨a, sR r, rfl, by rw [xM_sR]; exact ca.2, by rw [List.length_map]; exact gr.2.1, fun p hp => ?_, fun H' s => by rw [okR_good gc gr]; exact k H' s⟩⟩
  obtain ⟨q, hq, rfl⟩ := List.mem_map.mp hp
  obtain ⟨g1, g2⟩ := gr.2.2 q hq
  exact ⟨sz (by show q.1.length ≤ 1000000; have := (isNm_iff.mp (gc.nm _ g1)).2.1; omega), .inl ⟨q.2, rfl, sz (by have := (isNm_iff.mp g2).2.1; omega)⟩⟩
theorem NoCells.ask {H : Hp} {cs : List Str} {x : V} {tc : Addr} {Q : VK} {E : XK} (h : NoCells K H cs x) (ht : H tc = some (.tup (cs.map V.str))) (gc : GCol cs) (k : ∀ H', Same H H' → Q (.bl false) H') : sp_is_cells K [.ref tc, x] H Q E := by
  rcases h with ⟨t, h1, h2⟩ | ⟨a, xr, rfl, h1, h2, h3, h4⟩
  · exact ⟨tc, x, cs, rfl, ht, gc, .inl ⟨t, h1 H (Same.refl H), h2, k⟩⟩
  · exact ⟨tc, _, cs, rfl, ht, gc, .inr ⟨a, xr, rfl, h1, h2, h3, fun H' s => by rw [h4]; exact k H' s⟩⟩
/-- the rows of the texts zs -/
abbrev atG (gr : Str → Row) (zs : List Str) : Rows := zs.map fun t => (t, gr t)
theorem atG_keys (gr : Str → Row) (zs : List Str) : (atG gr zs).map (·.1) = zs := by rw [List.map_map]; exact List.map_id zs
/-- what the joined rows of ps and the dict rs are, or how they are refused -/
structure Jn (A : Ad) (K : PySem.W.Frag) (H : Hp) (cs : List Str) (ps : Rows) (rs : XRow) (gr : Str → Row) (ok : Str → Bool) : Prop where
  nd : (rs.map (·.1)).Nodup
  len : rs.length < 64
  sh : ∀ p ∈ rs, Shk p.1
  cel : (∀ p ∈ rs, isTx p.1 = true) → ∀ p ∈ rs, if ok p.1 = true then OkCells H cs p.2 (gr p.1) else NoCells K H cs p.2
theorem Jn.same {H H' : Hp} {cs : List Str} {ps : Rows} {rs : XRow} {gr : Str → Row} {ok : Str → Bool} (h : Jn A K H cs ps rs gr ok) (e : Same H H') : Jn A K H' cs ps rs gr ok :=
  ⟨h.nd, h.len, h.sh, fun hx p hp => by
    have := h.cel hx p hp
    split
    · rename_i z; rw [if_pos z] at this; exact this.same e
    · rename_i z; rw [if_neg z] at this; exact this.same e⟩
/-- the refusals -/
structure JnE (A : Ad) (H : Hp) (ps : Rows) (rs : XRow) (gr : Str → Row) (ok : Str → Bool) (E : XK) : Prop where
  plc : ∀ m, LeastS m (BadK (rs.map (·.1))) → ErrF A.c_BadPlace "value" H (.str m) E
  cel : ∀ m, (∀ p ∈ rs, isTx p.1 = true) → LeastS m (fun t => t ∈ rs.map (·.1) ∧ ok t = false) → ErrF A.c_BadCells "place" H (.str m) E
  many : ∀ zs, (∀ p ∈ rs, isTx p.1 = true) → (∀ p ∈ rs, ok p.1 = true) → zs.Perm (rs.map (·.1)) → 40 < (mergeR ps (atG gr zs)).length → ErrF A.c_TooMany "most" H (.int 40) E
theorem JnE.up {H H' : Hp} {ps : Rows} {rs : XRow} {gr : Str → Row} {ok : Str → Bool} {E : XK} (h : JnE A H ps rs gr ok E) (e : Same H H') : JnE A H' ps rs gr ok E :=
  ⟨fun m hm => (h.plc m hm).up e, fun m h1 h2 => (h.cel m h1 h2).up e, fun zs h1 h2 h3 h4 => (h.many zs h1 h2 h3 h4).up e⟩
def sp_joined (A : Ad) (K : PySem.W.Frag) : Sp := fun vs H Q E => ∃ (tc pd rd : Addr) (cs : List Str) (ps : Rows) (rs : XRow) (gr : Str → Row) (ok : Str → Bool), vs = [.ref tc, .ref pd, .ref rd] ∧ H tc = some (.tup (cs.map V.str)) ∧ GCol cs ∧ Rws H pd ps ∧ (ps.map (·.1)).Nodup ∧ ps.length ≤ 40 ∧
  H rd = some (.dK (xM rs)) ∧ Jn A K H cs ps rs gr ok ∧ JnE A H ps rs gr ok E ∧
  ∀ q H' zs, (∀ p ∈ rs, isTx p.1 = true) → (∀ p ∈ rs, ok p.1 = true) → H q = none → Same H H' → zs.Perm (rs.map (·.1)) → (mergeR ps (atG gr zs)).length ≤ 40 → Rws H' q (mergeR ps (atG gr zs)) → Newer H H' pd q → Q (.ref q) H'
theorem ok_joined (T : Tx P K mg A) : FnR P w K mg base (L2.CX P w) 4 A.f_joined_rows (sp_joined A K) := by
  obtain ⟨t1, k1⟩ := T.k_MOST_ROWS
  refine fnx T.F_joined_rows sc_joined_rows (fun _ _ _ _ _ _ us hl => match us, hl with | [_, _, _], _ => rfl) (fun vs H Q E h => ?_) (fun cdv A' outer s H vs Q E hr h => ?_)
  · obtain ⟨tc, pd, rd, cs, ps, rs, gr, ok, rfl, _⟩ := h; rfl
  · obtain ⟨tc, pd, rd, cs, ps, rs, gr, ok, rfl, htc, gc, hps, np, lp, hrd, jn, je, k⟩ := h
    refine ⟨_, pss_cons (ps_expr (pe_cl (ok_need_keys T) hr (by rfl) T.mg_need_keys T.kp_need_keys passX (pa_cons (pv 2) pa_nil)))
      (pss_cons (ps_set (i := 3) sc_joined_rows.nd rfl (.inl rfl) pe_dnewK)
      (pss_cons (ps_for (passes_of rfl) rfl (pi_list (pe_callB cr_sortedS (by rfl) T.z_sorted (by decide +kernel) (pa_cons
          (pe_lock (pe_lc (own := [("key", 6)]) (g := gName 6) (tt := tYes) rfl sc_joined_rows.nd (pi_keys (pv 2)) (blkOk_by (N := ["columns", "present", "rows", "fresh", "text", "found", "key"]) (sc := defScope s_joined_rows) (by decide +kernel)) (fun _ _ _ _ _ => pg_name (i := 6) sc_joined_rows.nd rfl (Or.inl rfl))
            (fun _ _ _ _ _ => pts_nil) (fun _ _ _ _ _ => pe_callTy SkE.call_str_str (by rfl) T.z_str (by decide +kernel) (pa_cons (pv 6) pa_nil)))) pa_nil)))
          (pg_name (i := 4) sc_joined_rows.nd rfl (.inl rfl))
          (pss_cons (ps_if (pt_not (pt_val (pe_cl (ok_is_cells T) (hr.mono (by decide)) (by rfl) T.mg_is_cells T.kp_is_cells pass0 (pa_cons (pv 0) (pa_cons (pe_dget (hu_of hr) (pv 2) (pv 4) (fun _ _ => rfl)) pa_nil))))) (pss_one (ps_raise rfl takesX (pmk_err T.er_BadCells (hr.mono (by decide)) (by rfl) T.mg_BadCells (pv 4)))) pss_nil)
          (pss_one (ps_dput (hu_of hr) (pv 3) (pv 4) (pe_callTy call_dictD (by rfl) T.z_dict (by decide +kernel) (pa_cons (pe_dget (hu_of hr) (pv 2) (pv 4) (fun _ _ => rfl)) pa_nil)) rfl))))
      (pss_cons (ps_set (i := 5) sc_joined_rows.nd rfl (.inl rfl) (pe_mrg (pv 1) (pv 3)))
      (pss_cons (ps_if (pt_cmpR op_gt (pe_callB call_lenD (by rfl) T.z_len PySem.boot_len (pa_cons (pv 5) pa_nil)) (pe_glob (v := .int 40) (by rfl) k1 ⟨_, rfl⟩) (nomark _)) (pss_one (ps_raise rfl takesX (pmk_err T.er_TooMany (hr.mono (by decide)) (by rfl) T.mg_TooMany (pe_glob (v := .int 40) (by rfl) k1 ⟨_, rfl⟩)))) pss_nil)
      (pss_one (ps_ret (pv 5))))))), ?_⟩
    obtain ⟨kp, hpK⟩ := hps
    have lr := jn.len
    have ekm : (xM rs).map (·.1) = (rs.map (·.1)).map (fun t => (Sum.inr t : Key)) := by rw [List.map_map, List.map_map]; rfl
    refine ⟨_, rfl, rd, xM rs, rs.map (·.1), rfl, hrd, ekm, fun t ht => ?_, by rw [List.length_map]; exact lr, fun htx H1 s1 => ?_, je.plc⟩
    · obtain ⟨p, hp, rfl⟩ := List.mem_map.mp ht
      exact jn.sh p hp
    have htx' : ∀ p ∈ rs, isTx p.1 = true := fun p hp => htx _ (List.mem_map.mpr ⟨p, hp, rfl⟩)
    have cel := jn.cel htx'
    have nr := jn.nd
    refine fun f hf => ?_
    have s2 := s1.trans (Same.new (o := .dK []) hf)
    have hrd2 : (upd H1 f (.dK [])) rd = some (.dK (xM rs)) := s2 _ _ hrd
    have nfr : rd ≠ f := ne_of_none (s1 _ _ hrd) hf
    have hlen : (xM rs).length = rs.length := List.length_map ..
    refine ⟨rd, _, hrd2, trivial, fun od => ⟨_, rfl, rd, od, rfl, .inl ⟨xM rs, upd_same, fun D hD => ?_⟩⟩⟩
    refine lc_all (walk_keys (d := rd) (o := od) (kvs := xM rs)) (fun i v _ => v = .str ((rs.map (·.1)).getD i "")) hD (fun _ _ _ _ _ _ _ h => h) (fun H3 s3 => s3 _ _ upd_same) (by rw [hlen]; exact szl (by omega)) ?_ g_name_mono ?_
    · rintro i x H3 H4 hi s3 ⟨rfl, key, v, e, rfl⟩
      rw [List.getElem?_map] at e
      obtain ⟨q, hq, eq⟩ := Option.map_eq_some_iff.mp e
      injection eq with e1 e2
      subst e1
      refine ⟨Same.refl _, rfl, Same.refl _, fun Q' hQ => ⟨_, rfl, q.1, rfl, hQ _ _ (Same.refl _) ?_⟩⟩
      rw [List.getD_eq_getElem?_getD, List.getElem?_map, hq]; rfl
    · intro H3 ys s3 e3 hl3 hy
      have ey : ys = (rs.map (·.1)).map V.str := by
        have := list_fn hl3 hy
        rw [this, hlen, ← List.length_map (f := fun x : Str × V => x.1) (as := rs)]
        exact range_map (rs.map (·.1)) ("" : Str) V.str
      rw [ey] at e3
      have sU := s2.trans (Same.unlock hrd2 s3)
      have sU2 := Same.unlock hrd2 s3
      have hnd : D ≠ rd := fun z => by subst z; rw [upd_same] at hD; cases hD
      refine ⟨s3 _ _ upd_same, D, rs.map (·.1), rfl, SqL.of (by rw [upd_ne hnd]; exact e3), by rw [List.length_map]; exact lr, fun zs p hp hs hpn => ?_⟩
      generalize hH4 : upd H3 rd (HO.dK (xM rs)) = H4 at sU sU2 hpn ⊢
      have s5 : Same H (upd H4 p (.lst (zs.map V.str))) := sU.trans (Same.new hpn)
      have hf5 : (upd H4 p (.lst (zs.map V.str))) f = some (.dK []) := (sU2.trans (Same.new hpn)) _ _ upd_same
      have nfp : f ≠ p := fun z => by subst z; rw [upd_same] at hf5; cases hf5
      have hfn : H f = none := s1.free hf
      have hzn : zs.Nodup := hp.nodup_iff.mpr nr
      have hzl : zs.length < 64 := by rw [hp.length_eq, List.length_map]; exact lr
      refine ⟨p, rfl, ⟨_, SqL.of upd_same⟩, for_list (K := K) (a := p) (xs := zs.map V.str)
        (fun i σ H' => Same H H' ∧ H' p = some (.lst (zs.map V.str)) ∧ (∃ v w, σ = [some (.ref tc), some (.ref pd), some (.ref rd), some (.ref f), v, w, none]) ∧ (∀ t ∈ zs.take i, ok t = true) ∧ ∃ kf, RwsK H' f kf (atG gr (zs.take i)) ∧ ∀ p ∈ kf, ∀ b, p.2 = .ref b → H b = none)
        ⟨s5, upd_same, ⟨none, none, rfl⟩, (fun _ z => (List.not_mem_nil z).elim), [], ⟨hf5, .nil⟩, fun _ z => (List.not_mem_nil z).elim⟩ (fun i σ H' _ q => SqL.of q.2.1) ?_ ?_⟩
      · rintro i x σ H' hx ⟨s6, hp6, ⟨v, w', rfl⟩, hok, kf, hK, hnw⟩
        rw [List.getElem?_map] at hx
        obtain ⟨t, ht, rfl⟩ := Option.map_eq_some_iff.mp hx
        have htm : t ∈ rs.map (·.1) := hp.subset (List.mem_of_getElem? ht)
        obtain ⟨q, hq, rfl⟩ := List.mem_map.mp htm
        have hlk := look_of_mem nr hq
        have ev := xM_val rs q.1
        rw [hlk] at ev
        have dg : ∀ {Hx : Hp}, Same H' Hx → DGet Hx rd (.str q.1) (some q.2) := fun {Hx} e => by
          have := DGet.k (k := Sum.inr q.1) (e _ _ (s6 _ _ hrd))
          rw [ev] at this; exact this
        have hc := cel q hq
        refine ⟨_, rfl, _, rfl, _, rfl, rd, q.2, rfl, dg (Same.refl _), ?_⟩
        unfold tNil
        dsimp only
        cases eo : ok q.1 with
        | false =>
          rw [if_neg (by rw [eo]; exact Bool.false_ne_true)] at hc
          refine (hc.same s6).ask (s6 _ _ htc) gc fun H7 s7 => ⟨_, rfl, iteT ⟨_, rfl, v_err fun d hd => je.cel q.1 htx' ⟨⟨htm, eo⟩, fun u hu => ?_⟩ _ _ (s6.trans s7) hd⟩⟩
          obtain ⟨j, hj, ej⟩ := List.mem_iff_getElem.mp (hp.symm.subset hu.1)
          obtain ⟨hi', ei⟩ := List.getElem?_eq_some_iff.mp ht
          by_cases hji : j < i
          · have : ok u = true := hok u (by rw [← ej]; exact List.mem_take_iff_getElem.mpr ⟨j, by omega, rfl⟩)
            rw [hu.2] at this; cases this
          · by_cases hje : j = i
            · subst hje
              rw [← ej, ei]; exact LeS.refl _
            · have := List.pairwise_iff_getElem.mp (sortedS_pw hs) i j hi' hj (by omega)
              rw [ei, ej] at this; exact this
        | true =>
        rw [if_pos eo] at hc
        refine (hc.same s6).ask (s6 _ _ htc) gc fun H7 s7 => ⟨_, rfl, iteF ?_⟩
        obtain ⟨a, ea, ca, g3⟩ := hc.same s6
        refine ⟨_, rfl, _, rfl, rd, q.2, rfl, dg s7, a, _, ?_, .inl ((ca.same s7).2), fun b hb => ?_⟩
        · rw [ea]
        have cb : Cel (upd H7 b (.dK ((gr q.1).map fun p => ((Sum.inr p.1 : Key), V.str p.2)))) b (gr q.1) := ⟨ca.1, upd_same⟩
        have s8 := s7.trans (Same.new (o := .dK ((gr q.1).map fun p => ((Sum.inr p.1 : Key), V.str p.2))) hb)
        have hK8 := hK.same s8
        refine ⟨_, rfl, _, rfl, f, _, rfl, DPut.k (k := Sum.inr q.1) hK8.1 (szl (by rw [hK8.2.length, List.length_map, List.length_take]; omega)), ?_⟩
        have hK9 : RwsK (upd (upd H7 b (.dK ((gr q.1).map fun p => ((Sum.inr p.1 : Key), V.str p.2)))) f (.dK (putK kf (Sum.inr q.1) (.ref b)))) f (putK kf (Sum.inr q.1) (.ref b)) (putR (atG gr (zs.take i)) q.1 (gr q.1)) := by
          obtain ⟨k', e1, e2⟩ := Rws.put (t := q.1) hK8 cb
          have : k' = putK kf (Sum.inr q.1) (.ref b) := by
            rw [upd_same] at e1; injection e1 with e1; injection e1 with e1; exact e1.symm
          subst this
          exact ⟨e1, e2⟩
        refine ⟨Same.mut (s6.trans s8) hfn, ?_, ⟨_, _, rfl⟩, fun u hu => ?_, putK kf (Sum.inr q.1) (.ref b), ?_, fun p hp' c ec => ?_⟩
        · rw [upd_ne nfp.symm]; exact s8 _ _ hp6
        · rw [List.take_add_one, ht] at hu
          rcases List.mem_append.mp hu with h | h
          · exact hok u h
          · rw [List.mem_singleton.mp h]; exact eo
        · have en : look (atG gr (zs.take i)) q.1 = none := by
            refine look_none.mpr fun y hy e => ?_
            obtain ⟨t', ht', rfl⟩ := List.mem_map.mp hy
            have e' : t' = q.1 := e
            subst e'
            obtain ⟨j, hj, ej⟩ := List.mem_iff_getElem.mp ht'
            rw [List.getElem_take] at ej
            rw [List.length_take] at hj
            obtain ⟨hi', ei⟩ := List.getElem?_eq_some_iff.mp ht
            have := (List.getElem_inj (i := j) (j := i) hzn).mp (ej.trans ei.symm)
            omega
          have et : atG gr (zs.take (i + 1)) = putR (atG gr (zs.take i)) q.1 (gr q.1) := by
            rw [putR_new en, List.take_add_one, ht, atG, List.map_append]; rfl
          rw [et]
          exact hK9
        · rcases mem_putK hp' with h | h
          · exact hnw p h c ec
          · rw [h] at ec
            injection ec with ec
            rw [← ec]; exact (s6.trans s7).free hb
      · rintro σ H' ⟨s6, hp6, ⟨v, w', rfl⟩, hok, kf, hK, hnw⟩
        rw [List.length_map, List.take_length] at hK hok
        have hok' : ∀ p ∈ rs, ok p.1 = true := fun p hp' => hok _ (hp.symm.subset (List.mem_map.mpr ⟨p, hp', rfl⟩))
        have hp7 := hpK.same s6
        intro q hq
        have s8 := s6.trans (Same.new (o := .dK []) hq)
        have lk0 : kp.length ≤ 40 := by rw [hpK.2.length]; exact lp
        have lkf : kf.length < 64 := by rw [hK.2.length, List.length_map]; exact hzl
        have npd : q ≠ pd := fun z => by subst z; rw [hp7.1] at hq; cases hq
        have nf : q ≠ f := fun z => by subst z; rw [hK.1] at hq; cases hq
        have hqn : H q = none := s6.free hq
        refine ⟨_, rfl, pd, kp, rfl, .inl (by rw [upd_ne npd.symm]; exact hp7.1), npd, upd_same, sz (by omega), ?_⟩
        refine ⟨_, rfl, f, kf, rfl, .inl ?_, nf, upd_same, sz (by omega), ?_⟩
        · rw [upd_ne nf.symm, upd_ne nf.symm]; exact hK.1
        have fin : ∀ {Hx : Hp} {u : List (Key × V)}, Same H' Hx → Hx q = some (.dK (mergeK (mergeK [] kp) kf)) → Rws Hx q (mergeR ps (atG gr zs)) := fun {Hx u} e hx => by
          refine ⟨_, hx, ?_⟩
          have m1 := RwF.merge (hp7.same e).2 (kvs := []) (rs := []) .nil
          rw [mergeR_nil np] at m1
          exact RwF.merge (hK.same e).2 m1
        generalize hHx : upd (upd (upd H' q (HO.dK [])) q (HO.dK (mergeK [] kp))) q (HO.dK (mergeK (mergeK [] kp) kf)) = Hx
        have sx : Same H' Hx := by rw [← hHx]; exact Same.mut (Same.mut (Same.new hq) hq) hq
        have hx : Hx q = some (.dK (mergeK (mergeK [] kp) kf)) := by rw [← hHx]; exact upd_same
        have hw := fin (u := []) sx hx
        obtain ⟨kx, hkx⟩ := id hw
        have ekx : kx = mergeK (mergeK [] kp) kf := by
          have := hkx.1.symm.trans hx
          injection this with this; injection this
        have newer : Newer H Hx pd q := fun F hF hN kvs hkv p hp' c ec => by
          rw [hx] at hkv
          injection hkv with hkv; injection hkv with hkv
          rw [← hkv] at hp'
          rcases mem_mergeK hp' with h | ⟨q', hq', h⟩
          · rcases mem_mergeK h with h | ⟨q', hq', h⟩
            · exact (List.not_mem_nil h).elim
            · exact hF kp hpK.1 q' hq' c (by rw [← h]; exact ec)
          · exact hN c (hnw q' hq' c (by rw [← h]; exact ec))
        by_cases h40 : (mergeR ps (atG gr zs)).length ≤ 40
        · refine ⟨_, rfl, q, _, rfl, hx, _, _, rfl, rfl, _, rfl, iteF' ?_ ?_⟩
          · refine decide_eq_false ?_
            rw [← ekx, hkx.2.length]; omega
          · exact ⟨_, rfl, k q Hx zs htx' hok' hqn (s6.trans sx) hp h40 hw newer⟩
        · refine ⟨_, rfl, q, _, rfl, hx, _, _, rfl, rfl, _, rfl, iteT' ?_ (v_err fun d hd => je.many zs htx' hok' hp (by omega) _ _ (s6.trans sx) hd)⟩
          refine decide_eq_true ?_
          rw [← ekx, hkx.2.length]; omega
end
end NK

namespace NK
open PySem PySem.Spec PyProof.Rows L2 NA TL
section
variable {P : Program} {w : World} {K : PySem.W.Frag} {mg : Str → Option Value} {base : Heap} {A : Ad}
/-- the columns cs, as a list or a tuple -/
def ColV (H : Hp) (l : Addr) (cs : List Str) : Prop := H l = some (.lst (cs.map V.str)) ∨ H l = some (.tup (cs.map V.str))
theorem ColV.same {H H' : Hp} {l : Addr} {cs : List Str} (h : ColV H l cs) (e : Same H H') : ColV H' l cs := h.imp (fun h => e _ _ h) fun h => e _ _ h
def sp_need_columns : Sp := fun vs H Q E => ∃ (l : Addr) (cs : List Str), vs = [.ref l] ∧ ColV H l cs ∧ GCol cs ∧ ∀ H', Same H H' → Q .non H'
theorem kit_list {K : PySem.W.Frag} : PySem.W.kitAny K (.type "list") [.type "list", .type "tuple"] = some true := by first | rfl | decide +kernel
theorem kit_tuple {K : PySem.W.Frag} : PySem.W.kitAny K (.type "tuple") [.type "list", .type "tuple"] = some true := by first | rfl | decide +kernel
theorem col_new {cs : List Str} (g : GCol cs) {i : Nat} {c : Str} (hc : cs[i]? = some c) : inV (.str c) ((cs.map V.str).take i) = false := by
  rw [← List.map_take, inV_str]
  refine decide_eq_false fun hc2 => ?_
  obtain ⟨j, hj, e⟩ := List.mem_iff_getElem.mp hc2
  rw [List.getElem_take] at e
  rw [List.length_take] at hj
  obtain ⟨hi', ec⟩ := List.getElem?_eq_some_iff.mp hc
  have := (List.getElem_inj (i := j) (j := i) g.nd).mp (e.trans ec.symm)
  omega
theorem ok_need_columns (T : Tx P K mg A) : FnR P w K mg base CX0 2 A.f_need_columns sp_need_columns := by
  obtain ⟨t1, k1⟩ := T.k_MOST_COLUMNS
  refine fnr T.F_need_columns sc_need_columns (fun _ _ _ _ _ _ us hl => match us, hl with | [_], _ => rfl) (fun vs H Q E h => ?_) (fun cdv A' outer s H vs Q E hr h => ?_)
  · obtain ⟨l, cs, rfl, _⟩ := h; rfl
  · obtain ⟨l, cs, rfl, hl | hl, g, k⟩ := h
    · refine ⟨_, pss_cons (ps_if (PW.pt (pw_or (pt_not (pt_val (pe_callB call_isiT (by rfl) T.z_isinstance (by decide +kernel) (pa_cons (pv 0) (pa_cons (pe_tup (pa_cons (pe_bltn (v := .ty "list") (by rfl) T.z_list (by decide +kernel) rfl) (pa_cons (pe_bltn (v := .ty "tuple") (by rfl) T.z_tuple (by decide +kernel) rfl) pa_nil))) pa_nil)))))
          (pw_or1 (pt_not (pt_chain op_le op_le pe_int (pe_callB call_len_seq (by rfl) T.z_len PySem.boot_len (pa_cons (pv 0) pa_nil)) (pe_glob (v := .int 3) (by rfl) k1 ⟨_, rfl⟩)))))) (pss_one ps_never) pss_nil)
        (pss_one (ps_for PassesOwn.never rfl (pi_enum (by rfl) T.z_enumerate (pa_cons (pv 0) pa_nil)) (pg_tup rfl (pgs_cons (pg_name (i := 1) sc_need_columns.nd rfl (.inl rfl)) (pgs_cons (pg_name (i := 2) sc_need_columns.nd rfl (.inl rfl)) pgs_nil)))
          (pss_one (ps_if (PW.pt (pw_or (pt_not (pt_val (pe_cl (ok_is_name T) hr (by rfl) T.mg_is_name T.kp_is_name pass0 (pa_cons (pv 2) pa_nil))))
            (pw_or1 (pt_cmpR op_in_seq (pv 2) (pe_slice sl_list (pv 0) po_none (po_some (pv 1))) rfl)))) (pss_one ps_never) pss_nil)))), ?_⟩
      refine ⟨_, rfl, by show 2 ≤ sizeLine; decide, fun tp htp => ?_⟩
      have s1 := Same.new (o := .tup [V.ty "list", V.ty "tuple"]) htp
      refine ⟨.ref l, tp, _, .type "list", [.type "list", .type "tuple"], true, rfl, upd_same, .cons (.ty _) (.cons (.ty _) .nil), .base (.lst (s1 _ _ hl)), kit_list, true, rfl, iteF ?_⟩
      refine ⟨_, rfl, l, _, rfl, .inl (SqL.of (s1 _ _ hl)), 1, _, rfl, rfl, _, rfl, ?_⟩
      rw [List.length_map, if_pos (decide_eq_true (by have := g.lo; omega))]
      refine ⟨_, _, rfl, rfl, _, rfl, iteF' (by rw [decide_eq_true (by have := g.hi; omega)]; rfl) ?_⟩
      refine ⟨_, rfl, l, _, rfl, SqL.of (s1 _ _ hl), for_it (walk_enum (a := l) (xs := cs.map V.str)) (fun i σ H' => Same H H' ∧ ∃ v u, σ = [some (.ref l), v, u]) ⟨s1, none, none, rfl⟩ (fun i σ H' _ q => SqL.of (q.1 _ _ hl)) ?_ ?_⟩
      · rintro i x σ H2 H3 hi ⟨s2, v, u, rfl⟩ ⟨tt, y, z, rfl, ht, rfl, ey, ez⟩
        injection ey with ey; subst ey
        dsimp only at ez
        rw [List.getElem?_map] at ez
        obtain ⟨c, hc, rfl⟩ := Option.map_eq_some_iff.mp ez
        have hm := List.mem_of_getElem? hc
        refine ⟨tt, _, rfl, SqT.of upd_same, rfl, _, _, rfl, _, _, rfl, rfl, ?_⟩
        have s3 := s2.trans (Same.new (o := .tup [V.int (i : Nat), V.str c]) ht)
        refine ⟨_, rfl, .inl ⟨c, rfl, sz (by have := (isNm_iff.mp (g.nm c hm)).2.1; omega), fun H4 s4 => ⟨_, rfl, iteF' (by rw [g.nm c hm]; rfl) ?_⟩⟩⟩
        refine ⟨_, rfl, _, rfl, _, rfl, _, rfl, l, _, rfl, SqL.of ((s3.trans s4) _ _ hl), fun r hr' => ⟨r, _, rfl, .inl (SqL.of upd_same), rfl, ?_, _, rfl, iteF' ?_ ⟨(s3.trans s4).trans (Same.new hr'), _, _, rfl⟩⟩⟩
        · rw [cut_take, ← List.map_take]; exact flat_strs _
        · rw [cut_take]; exact col_new g hc
      · rintro σ H' ⟨s2, v, u, rfl⟩
        exact k H' s2
    · refine ⟨_, pss_cons (ps_if (PW.pt (pw_or (pt_not (pt_val (pe_callB call_isiT (by rfl) T.z_isinstance (by decide +kernel) (pa_cons (pv 0) (pa_cons (pe_tup (pa_cons (pe_bltn (v := .ty "list") (by rfl) T.z_list (by decide +kernel) rfl) (pa_cons (pe_bltn (v := .ty "tuple") (by rfl) T.z_tuple (by decide +kernel) rfl) pa_nil))) pa_nil)))))
          (pw_or1 (pt_not (pt_chain op_le op_le pe_int (pe_callB call_len_seq (by rfl) T.z_len PySem.boot_len (pa_cons (pv 0) pa_nil)) (pe_glob (v := .int 3) (by rfl) k1 ⟨_, rfl⟩)))))) (pss_one ps_never) pss_nil)
        (pss_one (ps_for PassesOwn.never rfl (pi_enumT (by rfl) T.z_enumerate (pa_cons (pv 0) pa_nil)) (pg_tup rfl (pgs_cons (pg_name (i := 1) sc_need_columns.nd rfl (.inl rfl)) (pgs_cons (pg_name (i := 2) sc_need_columns.nd rfl (.inl rfl)) pgs_nil)))
          (pss_one (ps_if (PW.pt (pw_or (pt_not (pt_val (pe_cl (ok_is_name T) hr (by rfl) T.mg_is_name T.kp_is_name pass0 (pa_cons (pv 2) pa_nil))))
            (pw_or1 (pt_cmpR op_in_seq (pv 2) (pe_slice sl_tupA (pv 0) po_none (po_some (pv 1))) rfl)))) (pss_one ps_never) pss_nil)))), ?_⟩
      refine ⟨_, rfl, by show 2 ≤ sizeLine; decide, fun tp htp => ?_⟩
      have s1 := Same.new (o := .tup [V.ty "list", V.ty "tuple"]) htp
      refine ⟨.ref l, tp, _, .type "tuple", [.type "list", .type "tuple"], true, rfl, upd_same, .cons (.ty _) (.cons (.ty _) .nil), .base (.tup (s1 _ _ hl)), kit_tuple, true, rfl, iteF ?_⟩
      refine ⟨_, rfl, l, _, rfl, .inr (SqT.of (s1 _ _ hl)), 1, _, rfl, rfl, _, rfl, ?_⟩
      rw [List.length_map, if_pos (decide_eq_true (by have := g.lo; omega))]
      refine ⟨_, _, rfl, rfl, _, rfl, iteF' (by rw [decide_eq_true (by have := g.hi; omega)]; rfl) ?_⟩
      refine ⟨_, rfl, l, _, rfl, SqT.of (s1 _ _ hl), for_it (walk_enumT (a := l) (xs := cs.map V.str)) (fun i σ H' => Same H H' ∧ ∃ v u, σ = [some (.ref l), v, u]) ⟨s1, none, none, rfl⟩ (fun i σ H' _ q => SqT.of (q.1 _ _ hl)) ?_ ?_⟩
      · rintro i x σ H2 H3 hi ⟨s2, v, u, rfl⟩ ⟨tt, y, z, rfl, ht, rfl, ey, ez⟩
        injection ey with ey; subst ey
        dsimp only at ez
        rw [List.getElem?_map] at ez
        obtain ⟨c, hc, rfl⟩ := Option.map_eq_some_iff.mp ez
        have hm := List.mem_of_getElem? hc
        refine ⟨tt, _, rfl, SqT.of upd_same, rfl, _, _, rfl, _, _, rfl, rfl, ?_⟩
        have s3 := s2.trans (Same.new (o := .tup [V.int (i : Nat), V.str c]) ht)
        refine ⟨_, rfl, .inl ⟨c, rfl, sz (by have := (isNm_iff.mp (g.nm c hm)).2.1; omega), fun H4 s4 => ⟨_, rfl, iteF' (by rw [g.nm c hm]; rfl) ?_⟩⟩⟩
        refine ⟨_, rfl, _, rfl, _, rfl, _, rfl, c_slT (SqT.of ((s3.trans s4) _ _ hl)) (Nat.le_of_lt hi) fun r H5 s5 hr' => ⟨r, _, rfl, .inr hr', rfl, ?_, _, rfl, iteF' (col_new g hc) ⟨(s3.trans s4).trans s5, _, _, rfl⟩⟩⟩
        rw [← List.map_take]; exact flat_strs _
      · rintro σ H' ⟨s2, v, u, rfl⟩
        exact k H' s2
theorem ncr : ¬ (("columns" : Str) = ("row_of" : Str)) := by decide +kernel
theorem pf2 (t u : V) : putF ("row_of" : Str) u [(("columns" : Str), t)] = [(("columns" : Str), t), (("row_of" : Str), u)] := by
  unfold putF
  rw [if_neg ncr]; rfl
theorem pf3 (t u v : V) : putF ("row_of" : Str) v [(("columns" : Str), t), (("row_of" : Str), u)] = [(("columns" : Str), t), (("row_of" : Str), v)] := by
  unfold putF
  rw [if_neg ncr]
  unfold putF
  rw [if_pos rfl]
end
end NK

namespace NK
open PySem PySem.Spec PyProof.Rows L2 NA TL
theorem spt_back : ∀ n (r : List Nat), r.length ≤ n → joinL [47] (spt r) = r ∧ ∀ p ∈ spt r, 47 ∉ p
  | 0, r, h => by
    have e : r = [] := List.length_eq_zero_iff.mp (by omega)
    subst e
    rw [spt_none (by simp)]
    exact ⟨rfl, fun p hp => by rw [List.mem_singleton.mp hp]; simp⟩
  | n + 1, r, h => by
    by_cases h47 : 47 ∈ r
    · obtain ⟨a, b, rfl, ha⟩ := first_slash h47
      rw [spt_some ha]
      have hb : b.length ≤ n := by rw [List.length_append, List.length_cons] at h; omega
      obtain ⟨h1, h2⟩ := spt_back n b hb
      refine ⟨?_, fun p hp => ?_⟩
      · cases hs : spt b with
        | nil => exact (spt_ne b hs).elim
        | cons q t =>
          rw [hs] at h1
          show a ++ ([47] ++ joinL [47] (q :: t)) = a ++ 47 :: b
          rw [h1]; rfl
      · rcases List.mem_cons.mp hp with rfl | hp
        · exact ha
        · exact h2 p hp
    · rw [spt_none h47]
      exact ⟨rfl, fun p hp => by rw [List.mem_singleton.mp hp]; exact h47⟩
theorem txt_back {z : Str} (h : isTx z = true) : txt (namesIn z) = z := by
  have h1 : (tl z).take 1 = [47] := by
    unfold isTx at h
    simp only [Bool.and_eq_true, decide_eq_true_eq] at h
    exact h.1.1
  apply ext_tl
  rw [txt_tl]
  have e0 : tl z = 47 :: (tl z).drop 1 := by
    cases hz : tl z with
    | nil => rw [hz] at h1; simp at h1
    | cons c r =>
      rw [hz] at h1
      have : c = 47 := by simpa using h1
      rw [this]; rfl
  unfold namesIn
  by_cases hs : z = "/"
  · rw [if_pos hs, hs, slash_tl]; rfl
  · rw [if_neg hs, List.map_map, show (tl ∘ Sx) = id from rfl, List.map_id, (spt_back _ _ (Nat.le_refl _)).1, ← e0]
theorem tx_len73 {z : Str} (h : isTx z = true) : z.length ≤ 73 := by
  have := txt_len (tx_good h)
  rwa [txt_back h] at this
section
variable {P : Program} {w : World} {K : PySem.W.Frag} {mg : Str → Option Value} {base : Heap} {A : Ad}
theorem Tx.rdT (T : Tx P K mg A) : ClX.CRead K A.c_Table (.type "type") := ⟨T.rd_Table, T.ga_Table⟩
theorem Tx.mkT (T : Tx P K mg A) : Mk K A.c_Table A.f_Table_init := ⟨T.mk_Table, T.at_Table_init, T.fn_Table_init, T.kc_Table⟩
theorem GTb.of {cs : List Str} {rs : XRow} {gr : Str → Row} {ok : Str → Bool} {H : Hp} {zs : List Str} (gc : GCol cs) (jn : Jn A K H cs [] rs gr ok) (tx : ∀ p ∈ rs, isTx p.1 = true) (hok : ∀ p ∈ rs, ok p.1 = true) (hp : zs.Perm (rs.map (·.1))) (hl : (atG gr zs).length ≤ 40) (h73 : ∀ t, isTx t = true → t.length ≤ 73) : GTb cs (atG gr zs) := by
  refine ⟨gc, fun q hq => ?_, by rw [atG_keys]; exact hp.nodup_iff.mpr jn.nd, hl⟩
  obtain ⟨t, ht, rfl⟩ := List.mem_map.mp hq
  obtain ⟨p, hp', rfl⟩ := List.mem_map.mp (hp.subset ht)
  have := jn.cel tx p hp'
  rw [if_pos (hok p hp')] at this
  obtain ⟨a, _, _, g⟩ := this
  exact ⟨tx p hp', h73 _ (tx p hp'), g⟩
/-- Table(l, rv), seen from the heap H0 ahead of the new object -/
def MkT (A : Ad) (K : PySem.W.Frag) (H0 : Hp) (x : Addr) (cs : List Str) (rv : V) (Q : Hp → Prop) (E : XK) : Prop :=
  (rv = .non ∧ ∀ H' d, Same H0 H' → H0 d = none → Tbl A H' x d cs [] → Cls (fun b => H0 b = none) H' d → Q H') ∨
  ∃ (rd : Addr) (rs : XRow) (gr : Str → Row) (ok : Str → Bool), rv = .ref rd ∧ H0 rd = some (.dK (xM rs)) ∧ Jn A K H0 cs [] rs gr ok ∧ JnE A H0 [] rs gr ok E ∧
    ∀ H' d zs, (∀ p ∈ rs, isTx p.1 = true) → (∀ p ∈ rs, ok p.1 = true) → Same H0 H' → H0 d = none → zs.Perm (rs.map (·.1)) → Tbl A H' x d cs (atG gr zs) → Cls (fun b => H0 b = none) H' d → Q H'
def sp_tinit (A : Ad) (K : PySem.W.Frag) : Sp := fun vs H Q E => ∃ (H0 : Hp) (x dx l : Addr) (rv : V) (cs : List Str), vs = [.ref x, .ref l, rv] ∧ Same H0 H ∧ H0 x = none ∧ H x = some (.ins A.c_Table dx []) ∧ ColV H0 l cs ∧ GCol cs ∧ MkT A K H0 x cs rv (Q .non) E
theorem ok_tinit (T : Tx P K mg A) : FnR P w K mg base (L2.CX P w) 5 A.f_Table_init (sp_tinit A K) := by
  refine fnrd T.F_Table_init sc_Table_init (fun T kV doc pm an cdv ct us d hl => match us, hl with | [_, _, _], _ => ⟨_, rfl, rfl⟩) (fun vs H Q E h => ?_) (fun cdv A' outer s H vs Q E hr h => ?_)
  · obtain ⟨H0, x, dx, l, rv, cs, rfl, _⟩ := h; rfl
  · obtain ⟨H0, x, dx, l, rv, cs, rfl, s0, hx0, hx, hl, gc, h⟩ := h
    refine ⟨_, pss_cons (ps_expr (pe_cl (ok_need_columns T) (hr.mono (by decide)) (by rfl) T.mg_need_columns T.kp_need_columns pass0 (pa_cons (pv 1) pa_nil)))
      (pss_jn (ps_fld (pv 0) (pe_callTy call_tuple_of (by rfl) T.z_tuple (by decide +kernel) (pa_cons (pv 1) pa_nil)) rfl)
      (pss_cons (ps_fld (pv 0) pe_dnewK rfl)
      (pss_one (ps_if (pt_cmp (pc_notN (pv 2))) (pss_one (ps_fld (pv 0) (pe_cl (ok_joined T) hr (by rfl) T.mg_joined_rows T.kp_joined_rows passX (pa_cons (pe_fld (pv 0) rfl) (pa_cons pe_dnewK (pa_cons (pv 2) pa_nil)))) rfl)) pss_nil)))), ?_⟩
    refine ⟨_, rfl, l, cs, rfl, hl.same s0, gc, fun H1 s1 => ?_⟩
    have s01 := s0.trans s1
    refine ⟨fun σ H2 => ∃ tc, σ = [some (.ref x), some (.ref l), some rv] ∧ Same H0 H2 ∧ H2 tc = some (.tup (cs.map V.str)) ∧ H2 x = some (.ins A.c_Table dx [("columns", .ref tc)]), ?_, ?_⟩
    · rcases hl.same s01 with h' | h'
      · refine ⟨_, rfl, l, _, rfl, .inl ⟨SqL.of h', fun tc htc => ?_⟩⟩
        have s2 := Same.new (o := .tup (cs.map V.str)) htc
        have nxt : x ≠ tc := ne_of_none (s1 _ _ hx) htc
        refine ⟨_, rfl, x, A.c_Table, dx, [], rfl, s2 _ _ (s1 _ _ hx), T.clT, T.nCol, by show 0 < 1000; decide, tc, rfl, Same.mut (s01.trans s2) hx0, ?_, upd_same⟩
        rw [upd_ne nxt.symm]; exact upd_same
      · have nxt : x ≠ l := fun z => by subst z; rw [s1 _ _ hx] at h'; cases h'
        refine ⟨_, rfl, l, _, rfl, .inr ⟨SqT.of h', ?_⟩⟩
        refine ⟨_, rfl, x, A.c_Table, dx, [], rfl, s1 _ _ hx, T.clT, T.nCol, by show 0 < 1000; decide, l, rfl, Same.mut s01 hx0, ?_, upd_same⟩
        rw [upd_ne nxt.symm]; exact h'
    rintro σ H2 ⟨tc, rfl, s02, htc, hx2⟩
    intro e0 he0
    have nx0 : x ≠ e0 := ne_of_none hx2 he0
    have nt0 : tc ≠ e0 := ne_of_none htc he0
    have ntx : tc ≠ x := fun z => by subst z; rw [htc] at hx2; cases hx2
    have h00 : H0 e0 = none := s02.free he0
    refine ⟨_, rfl, x, A.c_Table, dx, _, rfl, by rw [upd_ne nx0]; exact hx2, T.clT, T.nRow, by show 1 < 1000; decide, ?_⟩
    rw [pf2]
    have s05 : Same H0 (upd (upd H2 e0 (.dK [])) x (.ins A.c_Table dx [("columns", .ref tc), ("row_of", .ref e0)])) := Same.mut (s02.trans (Same.new he0)) hx0
    have hx5 : (upd (upd H2 e0 (.dK [])) x (.ins A.c_Table dx [("columns", .ref tc), ("row_of", .ref e0)])) x = some (.ins A.c_Table dx [("columns", .ref tc), ("row_of", .ref e0)]) := upd_same
    have ht5 : (upd (upd H2 e0 (.dK [])) x (.ins A.c_Table dx [("columns", .ref tc), ("row_of", .ref e0)])) tc = some (.tup (cs.map V.str)) := by rw [upd_ne ntx, upd_ne nt0]; exact htc
    have he5 : (upd (upd H2 e0 (.dK [])) x (.ins A.c_Table dx [("columns", .ref tc), ("row_of", .ref e0)])) e0 = some (.dK []) := by rw [upd_ne nx0.symm]; exact upd_same
    generalize upd (upd H2 e0 (.dK [])) x (.ins A.c_Table dx [("columns", .ref tc), ("row_of", .ref e0)]) = H5 at s05 hx5 ht5 he5
    rcases h with ⟨rfl, k⟩ | ⟨rd, rs, gr, ok, rfl, hrd, jn, je, k⟩
    · exact ⟨_, rfl, _, rfl, iteF (k H5 e0 s05 h00 ⟨⟨gc, fun _ z => (List.not_mem_nil z).elim, by simp, Nat.zero_le _⟩, ⟨dx, tc, hx5, ht5⟩, Rws.nil he5⟩ (fun kvs hk p hp' => by rw [he5] at hk; injection hk with hk; injection hk with hk; rw [← hk] at hp'; exact (List.not_mem_nil hp').elim))⟩
    refine ⟨_, rfl, _, rfl, iteT ?_⟩
    refine ⟨_, rfl, x, _, dx, _, _, rfl, hx5, T.clT, T.nCol, lkc tc e0, fun pd hpd => ⟨_, rfl, ?_⟩⟩
    have s6 := Same.new (o := .dK []) hpd
    have s06 := s05.trans s6
    refine ⟨tc, pd, rd, cs, [], rs, gr, ok, rfl, s6 _ _ ht5, gc, Rws.nil upd_same, by simp, Nat.zero_le _, s06 _ _ hrd, jn.same s06, je.up s06, fun q H7 zs tx hok hq s7 hp h40 hw nw => ?_⟩
    have hzn : ((atG gr zs).map (·.1)).Nodup := by rw [atG_keys]; exact hp.nodup_iff.mpr jn.nd
    rw [mergeR_nil hzn] at hw h40
    have hx7 := s7 _ _ (s6 _ _ hx5)
    have s07 := s06.trans s7
    refine ⟨_, rfl, x, A.c_Table, dx, _, rfl, hx7, T.clT, T.nRow, by show 2 < 1000; decide, ?_⟩
    rw [pf3]
    have hqn : H0 q = none := s06.free hq
    have nqx : q ≠ x := fun z => by subst z; have := s6 _ _ hx5; rw [hq] at this; cases this
    refine k _ q zs tx hok (Same.mut s07 hx0) hqn hp ⟨GTb.of gc jn tx hok hp h40 (fun t ht => tx_len73 ht), ⟨dx, tc, upd_same, ?_⟩, ?_⟩ ((nw (fun b => H0 b = none) (fun kvs hk p hp' => by rw [upd_same] at hk; injection hk with hk; injection hk with hk; rw [← hk] at hp'; exact (List.not_mem_nil hp').elim) (fun b hb => s06.free hb)).at (upd_ne nqx))
    · rw [upd_ne ntx]; exact s7 _ _ (s6 _ _ ht5)
    · exact hw.sam nqx (fun r c => by have c2 := c.2; rw [hx7] at c2; cases c2) (Sam.refl H7).upd
/-- Table(l, rv) -/
theorem mk_tb {H1 : Hp} {l : Addr} {rv : V} {cs : List Str} {Q : VK} {E : XK} (hl : ColV H1 l cs) (gc : GCol cs) (h : ∀ x, H1 x = none → MkT A K H1 x cs rv (Q (.ref x)) E) :
    ∀ x dx, H1 x = Option.none → H1 dx = Option.none → dx ≠ x → sp_tinit A K [V.ref x, .ref l, rv] (upd (upd H1 dx (.own x)) x (.ins A.c_Table dx [])) (fun v H2 => v = .non ∧ Q (.ref x) H2) E := by
  intro x dx hx hd hne
  have s1 : Same H1 (upd (upd H1 dx (.own x)) x (.ins A.c_Table dx [])) := Same.mut (Same.new hd) hx
  refine ⟨H1, x, dx, l, rv, cs, rfl, s1, hx, upd_same, hl, gc, (h x hx).imp (fun ⟨e, k⟩ => ⟨e, fun H' d a b c g => ⟨rfl, k H' d a b c g⟩⟩) fun ⟨rd, rs, gr, ok, e, h1, h2, h3, k⟩ => ⟨rd, rs, gr, ok, e, h1, h2, h3, fun H' d zs a b c d' e' f g => ⟨rfl, k H' d zs a b c d' e' f g⟩⟩⟩
end
end NK

namespace NK
open PySem PySem.Spec PyProof.Rows L2 NA TL
/-! ### a dict of rows as a dict with any values -/
abbrev atL (rs : Rows) (t : Str) : Row := (look rs t).getD []
theorem atG_all {rs : Rows} (h : (rs.map (·.1)).Nodup) : atG (atL rs) (rs.map (·.1)) = rs := by
  unfold atG
  rw [List.map_map]
  have : rs.map ((fun t => (t, atL rs t)) ∘ fun x => x.1) = rs.map id := List.map_congr_left fun p hp => by
    show (p.1, (look rs p.1).getD []) = p
    rw [look_of_mem h hp]; rfl
  rw [this, List.map_id]
theorem atG_perm {rs : Rows} {zs : List Str} (h : (rs.map (·.1)).Nodup) (hp : zs.Perm (rs.map (·.1))) : (atG (atL rs) zs).Perm rs := by
  have := hp.map fun t => (t, atL rs t)
  rwa [show (rs.map (·.1)).map (fun t => (t, atL rs t)) = rs from atG_all h] at this
theorem RwF.x {H : Hp} {kvs : List (Key × V)} {rs : Rows} (h : RwF H kvs rs) : ∃ xr : XRow, kvs = xM xr ∧ xr.map (·.1) = rs.map (·.1) ∧ ∀ p ∈ xr, ∃ a r, p.2 = .ref a ∧ (p.1, r) ∈ rs ∧ Cel H a r := by
  induction h with
  | nil => exact ⟨[], rfl, rfl, fun _ z => (List.not_mem_nil z).elim⟩
  | @cons kv p kvs rs h _ ih =>
    obtain ⟨e1, a, e2, c⟩ := h
    obtain ⟨xr, h1, h2, h3⟩ := ih
    refine ⟨(p.1, .ref a) :: xr, ?_, by rw [List.map_cons, List.map_cons, h2], fun q hq => ?_⟩
    · rw [h1]
      show kv :: _ = (Sum.inr p.1, V.ref a) :: _
      rw [← e1, ← e2]
    · rcases List.mem_cons.mp hq with e | e
      · rw [e]; exact ⟨a, p.2, rfl, List.mem_cons_self .., c⟩
      · obtain ⟨a', r, z1, z2, z3⟩ := h3 q e
        exact ⟨a', r, z1, List.mem_cons_of_mem _ z2, z3⟩
theorem txt_ok {z : Str} (h : isTx z = true) : PyData.strOk z = true := by
  rw [← txt_back h]
  have g := tx_good h
  unfold PyData.strOk
  have lt : ∀ c ∈ tl (txt (namesIn z)), c < 128 := by
    intro c hc
    rw [txt_tl] at hc
    rcases List.mem_cons.mp hc with e | e
    · omega
    · have : ∀ ps : List (List Nat), (∀ p ∈ ps, ∀ c ∈ p, c < 128) → ∀ c ∈ joinL [47] ps, c < 128 := by
        intro ps
        induction ps with
        | nil => intro _ c hc; rw [joinL_nil] at hc; exact (List.not_mem_nil hc).elim
        | cons p ps ih =>
          intro hp c hc
          cases ps with
          | nil =>
            rw [show joinL [47] [p] = p from by simp [joinL]] at hc
            exact hp p (by simp) c hc
          | cons q r =>
            rw [show joinL [47] (p :: q :: r) = p ++ 47 :: joinL [47] (q :: r) from by simp [joinL]] at hc
            rcases List.mem_append.mp hc with e | e
            · exact hp p (by simp) c e
            · rcases List.mem_cons.mp e with e | e
              · omega
              · exact ih (fun x hx => hp x (List.mem_cons_of_mem _ hx)) c e
      refine this _ (fun p hp c hc => ?_) c e
      obtain ⟨n, hn, rfl⟩ := List.mem_map.mp hp
      have := (isNm_iff.mp (g.2 n hn)).2.2 c hc
      rw [sgn_tl] at this
      revert this
      simp only [List.mem_cons, List.not_mem_nil, or_false]
      omega
  simp only [Array.all_eq_true_iff_forall_mem, decide_eq_true_eq] at *
  first
    | (intro c hc; have := lt c (by simpa using hc); omega)
    | (intro c hc; have := lt c (by simpa using hc); simp; omega)
section
variable {P : Program} {w : World} {K : PySem.W.Frag} {mg : Str → Option Value} {base : Heap} {A : Ad}
/-- good rows laid by a dict -/
structure GRw (cs : List Str) (rs : Rows) : Prop where
  row : ∀ p ∈ rs, isTx p.1 = true ∧ GRow cs p.2
  nd : (rs.map (·.1)).Nodup
theorem Rws.jn {H : Hp} {d : Addr} {cs : List Str} {rs ps : Rows} (h : Rws H d rs) (g : GRw cs rs) (hl : rs.length < 64) : ∃ xr : XRow, H d = some (.dK (xM xr)) ∧ xr.map (·.1) = rs.map (·.1) ∧ (∀ p ∈ xr, isTx p.1 = true) ∧ Jn A K H cs ps xr (atL rs) (fun _ => true) := by
  obtain ⟨kvs, h1, h2⟩ := h
  obtain ⟨xr, rfl, e, hx⟩ := h2.x
  have tx : ∀ p ∈ xr, isTx p.1 = true := fun p hp => let ⟨a, r, _, z2, _⟩ := hx p hp; (g.row _ z2).1
  refine ⟨xr, h1, e, tx, ⟨by rw [e]; exact g.nd, ?_, fun p hp => ⟨?_, txt_ok (tx p hp)⟩, fun _ p hp => ?_⟩⟩
  · have := congrArg List.length e
    rw [List.length_map, List.length_map] at this; omega
  · have := tx_len73 (tx p hp); omega
  · rw [if_pos rfl]
    obtain ⟨a, r, z1, z2, z3⟩ := hx p hp
    have e' : atL rs p.1 = r := by
      show (look rs p.1).getD [] = r
      rw [look_of_mem g.nd z2]; rfl
    rw [e']
    exact ⟨a, z1, z3, (g.row _ z2).2⟩
/-- Table(l, rd) of good rows -/
theorem mk_good {H1 : Hp} {l rd : Addr} {cs : List Str} {rs : Rows} {Q : VK} {E : XK} (hl : ColV H1 l cs) (gc : GCol cs) (g : GRw cs rs) (h40 : rs.length ≤ 40) (hr : Rws H1 rd rs)
    (k : ∀ x H2 d fs, H1 x = none → H1 d = none → Same H1 H2 → fs.Perm rs → Tbl A H2 x d cs fs → Cls (fun b => H1 b = none) H2 d → Q (.ref x) H2) :
    ∀ x dx, H1 x = Option.none → H1 dx = Option.none → dx ≠ x → sp_tinit A K [V.ref x, .ref l, .ref rd] (upd (upd H1 dx (.own x)) x (.ins A.c_Table dx [])) (fun v H2 => v = .non ∧ Q (.ref x) H2) E := by
  obtain ⟨xr, e1, e2, tx, jn⟩ := hr.jn (A := A) (K := K) (ps := []) g (by omega)
  refine mk_tb hl gc fun x hx => .inr ⟨rd, xr, atL rs, fun _ => true, rfl, e1, jn, ⟨fun m hm => ?_, fun m _ hm => ?_, fun zs _ _ hp h => ?_⟩, fun H' d zs _ _ s hd hp ht cl => ?_⟩
  · obtain ⟨p, hp, e⟩ := List.mem_map.mp hm.1.1
    have := tx p hp
    rw [e, hm.1.2] at this; cases this
  · exact absurd hm.1.2 (by simp)
  · rw [e2] at hp
    have hn : ((atG (atL rs) zs).map (·.1)).Nodup := by rw [atG_keys]; exact hp.nodup_iff.mpr g.nd
    rw [mergeR_nil hn, List.length_map, hp.length_eq, List.length_map] at h
    omega
  · rw [e2] at hp
    exact k x H' d _ hx hd s (atG_perm g.nd hp) ht cl
theorem Tx.getS (T : Tx P K mg A) : Spc K A.c_Table "__getitem__" A.f_Table_getitem := ⟨T.at_Table_getitem, T.fn_Table_getitem⟩
def sp_getitem (A : Ad) : Sp := fun vs H Q E => ∃ (a d : Addr) (x : V) (cs : List Str) (rs : Rows) (ns : List Str) (r : Row), vs = [.ref a, x] ∧ Tbl A H a d cs rs ∧ PlV A H x ns ∧ look rs (txt ns) = some r ∧ ∀ b H', Same H H' → Cel H' b r → Q (.ref b) H'
theorem ok_getitem (T : Tx P K mg A) : FnR P w K mg base CX0 5 A.f_Table_getitem (sp_getitem A) := by
  refine fnr T.F_Table_getitem sc_Table_getitem (fun _ _ _ _ _ _ us hl => match us, hl with | [_, _], _ => rfl) (fun vs H Q E h => ?_) (fun cdv A' outer s H vs Q E hr h => ?_)
  · obtain ⟨a, d, x, cs, rs, ns, r, rfl, _⟩ := h; rfl
  · obtain ⟨a, d, x, cs, rs, ns, r, rfl, ht, hx, hl, k⟩ := h
    refine ⟨_, pss_cons (ps_set (i := 2) sc_Table_getitem.nd rfl (.inl rfl) (pe_cl (ok_text_at T) hr (by rfl) T.mg_text_at T.kp_text_at passF (pa_cons (pv 1) pa_nil)))
      (pss_cons (ps_if (pt_cmp (pc_dnotin (hu_of hr) (pv 2) (pe_fld (pv 0) rfl))) (pss_one ps_never) pss_nil)
      (pss_one (ps_ret (pe_callTy call_dictD (by rfl) T.z_dict (by decide +kernel) (pa_cons (pe_dget (hu_of hr) (pe_fld (pv 0) rfl) (pv 2) (fun _ _ => rfl)) pa_nil))))), ?_⟩
    refine ⟨_, rfl, x, rfl, .inl ⟨ns, hx, fun H1 s1 => ?_⟩⟩
    obtain ⟨g, ⟨dx, tc, h1, h2⟩, kvs, hK⟩ := ht.same s1
    obtain ⟨q1, q2, q3, q4, q5⟩ := hK.pt
    obtain ⟨b, e1, cb⟩ := q4 _ _ hl
    have dg : DGet H1 d (.str (txt ns)) (some (.ref b)) := by
      have := DGet.k (k := Sum.inr (txt ns)) q1
      rw [e1] at this; exact this
    refine ⟨_, rfl, _, rfl, a, _, dx, _, _, rfl, h1, T.clT, T.nRow, lkr tc d, d, _, rfl, dg, _, rfl, iteF ?_⟩
    refine ⟨_, rfl, a, _, dx, _, _, rfl, h1, T.clT, T.nRow, lkr tc d, _, rfl, d, .ref b, rfl, dg, b, _, rfl, .inl cb.2, fun p hp => ?_⟩
    exact k p _ (s1.trans (Same.new hp)) ⟨cb.1, upd_same⟩
theorem GTb.put {cs : List Str} {rs : Rows} {ns : List Str} {r : Row} (g : GTb cs rs) (gn : Good ns) (gr : GRow cs r) (hl : look rs (txt ns) = none → rs.length < 40) : GTb cs (putR rs (txt ns) r) := by
  refine ⟨g.col, fun p hp => ?_, nd_put g.nd, ?_⟩
  · rcases mem_put hp with e | e
    · rw [e]; exact ⟨isTx_txt gn, by have := txt_len gn; omega, gr⟩
    · exact g.row p e
  · rw [len_put]
    have := g.len
    cases e : look rs (txt ns) with
    | none => have := hl e; simp; omega
    | some _ => simp; omega
end
end NK

namespace NK
open PySem PySem.Spec PyProof.Rows L2 NA TL
section
variable {P : Program} {w : World} {K : PySem.W.Frag} {mg : Str → Option Value} {base : Heap} {A : Ad}
/-- the texts of the rows' places, ascending -/
def sp_places (A : Ad) : Sp := fun vs H Q E => ∃ (a d : Addr) (cs : List Str) (rs : Rows), vs = [.ref a] ∧ Tbl A H a d cs rs ∧
  ∀ p H' zs, Same H H' → H p = none → zs.Perm (rs.map (·.1)) → sortedS zs = true → H' p = some (.tup (zs.map V.str)) → Q (.ref p) H'
theorem ok_places (T : Tx P K mg A) : FnR P w K mg base CX0 1 A.f_Table_places (sp_places A) := by
  refine fnr T.F_Table_places sc_Table_places (fun _ _ _ _ _ _ us hl => match us, hl with | [_], _ => rfl) (fun vs H Q E h => ?_) (fun cdv A' outer s H vs Q E hr h => ?_)
  · obtain ⟨a, d, cs, rs, rfl, _⟩ := h; rfl
  · obtain ⟨a, d, cs, rs, rfl, ht, k⟩ := h
    refine ⟨_, pss_one (ps_ret (pe_callTy call_tuple_of (by rfl) T.z_tuple (by decide +kernel) (pa_cons (pe_callB cr_sortedS (by rfl) T.z_sorted (by decide +kernel) (pa_cons
        (pe_lock (pe_lc (own := [("text", 1)]) (g := gName 1) (tt := tYes) rfl sc_Table_places.nd (pi_keys (pe_fld (pv 0) rfl)) (blkOk_by (N := ["self", "text"]) (sc := defScope s_Table_places) (by decide +kernel)) (fun _ _ _ _ _ => pg_name (i := 1) sc_Table_places.nd rfl (Or.inl rfl))
            (fun _ _ _ _ _ => pts_nil) (fun _ _ _ _ _ => pe_callTy SkE.call_str_str (by rfl) T.z_str (by decide +kernel) (pa_cons (pv 1) pa_nil)))) pa_nil)) pa_nil))), ?_⟩
    obtain ⟨g, ⟨dx, tc, h1, h2⟩, kvs, hK⟩ := ht
    have hd := hK.1
    obtain ⟨q1, q2, q3, q4, q5⟩ := hK.pt
    have lr := g.len
    have hlen : kvs.length = rs.length := hK.2.length
    have nad : a ≠ d := fun z => by subst z; rw [hd] at h1; cases h1
    refine ⟨d, _, hd, trivial, fun od => ⟨_, rfl, a, _, dx, _, _, rfl, by rw [upd_ne nad]; exact h1, T.clT, T.nRow, lkr tc d, d, od, rfl, .inl ⟨kvs, upd_same, fun D hD => ?_⟩⟩⟩
    refine lc_all (walk_keys (d := d) (o := od) (kvs := kvs)) (fun i v _ => v = .str ((rs.map (·.1)).getD i "")) hD (fun _ _ _ _ _ _ _ h => h) (fun H3 s3 => s3 _ _ upd_same) (by rw [hlen]; exact szl (by omega)) ?_ g_name_mono ?_
    · rintro i x H3 H4 hi s3 ⟨rfl, key, v, e, rfl⟩
      have ek : (rs.map (fun p => (Sum.inr p.1 : Key)))[i]? = some key := by rw [← q2, List.getElem?_map, e]; rfl
      rw [List.getElem?_map] at ek
      obtain ⟨q, hq, rfl⟩ := Option.map_eq_some_iff.mp ek
      refine ⟨Same.refl _, rfl, Same.refl _, fun Q' hQ => ⟨_, rfl, q.1, rfl, hQ _ _ (Same.refl _) ?_⟩⟩
      rw [List.getD_eq_getElem?_getD, List.getElem?_map, hq]; rfl
    · intro H3 ys s3 e3 hl3 hy
      have ey : ys = (rs.map (·.1)).map V.str := by
        have := list_fn hl3 hy
        rw [this, hlen, ← List.length_map (f := fun x : Str × Row => x.1) (as := rs)]
        exact range_map (rs.map (·.1)) ("" : Str) V.str
      rw [ey] at e3
      have sU := Same.unlock hd s3
      have hnd : D ≠ d := fun z => by subst z; rw [upd_same] at hD; cases hD
      refine ⟨s3 _ _ upd_same, D, rs.map (·.1), rfl, SqL.of (by rw [upd_ne hnd]; exact e3), by rw [List.length_map]; omega, fun zs p hp hs hpn => ?_⟩
      have s4 := sU.trans (Same.new (o := .lst (zs.map V.str)) hpn)
      exact ⟨p, _, rfl, .inl ⟨SqL.of upd_same, fun l hl => k l _ zs (s4.trans (Same.new hl)) (s4.free hl) hp hs upd_same⟩⟩
theorem GTb.drop {cs : List Str} {rs : Rows} {t : Str} (g : GTb cs rs) : GTb cs (dropR rs t) :=
  ⟨g.col, fun p hp => g.row p (List.mem_filter.mp hp).1, nd_drop g.nd, Nat.le_trans (List.length_filter_le _ _) g.len⟩
end
end NK

namespace NK
open PySem PySem.Spec PyProof.Rows L2 NA TL
/-- tuples of a place, a column, an answer -/
def TupsAt (H : Hp) (ys : List V) (L : List (Str × Str × Str)) : Prop := Paired (fun v x => ∃ p, v = V.ref p ∧ H p = some (.tup [.str x.1, .str x.2.1, .str x.2.2])) ys L
theorem TupsAt.fr {H H' : Hp} {ys : List V} {L : List (Str × Str × Str)} (h : TupsAt H ys L) (e : ∀ p xs, H p = some (.tup xs) → H' p = some (.tup xs)) : TupsAt H' ys L := by
  unfold TupsAt at *
  induction h with
  | nil => exact .nil
  | cons z _ ih => obtain ⟨p, h1, h2⟩ := z; exact .cons ⟨p, h1, e _ _ h2⟩ ih
theorem TupsAt.same {H H' : Hp} {ys : List V} {L : List (Str × Str × Str)} (h : TupsAt H ys L) (e : Same H H') : TupsAt H' ys L := h.fr fun p xs => e _ _
theorem TupsAt.length {H : Hp} {ys : List V} {L : List (Str × Str × Str)} (h : TupsAt H ys L) : ys.length = L.length := by
  unfold TupsAt at h
  induction h with
  | nil => rfl
  | cons _ _ ih => rw [List.length_cons, List.length_cons, ih]
section
variable {P : Program} {w : World} {K : PySem.W.Frag} {mg : Str → Option Value} {base : Heap} {A : Ad}
theorem Tx.placesP (T : Tx P K mg A) : PropOf K A.c_Table "places" A.p_Table_places A.f_Table_places := ⟨T.at_Table_places, T.ge_Table_places, T.tk_Table_places, T.rc_Table_places⟩
end
end NK

namespace NK
open PySem PySem.Spec PyProof.Rows L2 NA TL
/-- the cell at a place and a column -/
def cellAt (rs : Rows) (t c : Str) : Option Str := (look rs t).bind fun r => look r c
/-- no row without a cell, no column twice -/
def RowsOk (rs : Rows) : Prop := (rs.map (·.1)).Nodup ∧ ∀ p ∈ rs, p.2 ≠ [] ∧ (p.2.map (·.1)).Nodup
theorem cellAt_perm {fs rs : Rows} (h : RowsOk rs) (hp : fs.Perm rs) : cellAt fs = cellAt rs := by
  funext t c
  unfold cellAt
  rw [look_perm hp h.1 t]
section
variable {P : Program} {w : World} {K : PySem.W.Frag} {mg : Str → Option Value} {base : Heap} {A : Ad}
theorem Tx.tyT (T : Tx P K mg A) {H : Hp} {a dx : Addr} {fs : List (Str × V)} (h : H a = some (.ins A.c_Table dx fs)) : TyX K H (.ref a) (.ref A.c_Table) := .base (.ins h T.clT T.ca_Table T.cn_Table T.ct_Table T.cm_Table)
theorem Tbl.rok {H : Hp} {a d : Addr} {cs : List Str} {rs : Rows} (h : Tbl A H a d cs rs) : RowsOk rs := by
  refine ⟨h.1.nd, fun p hp => ⟨(h.1.row p hp).2.2.1, ?_⟩⟩
  obtain ⟨kvs, hK⟩ := h.2.2
  obtain ⟨b, _, c⟩ := hK.2.some p.1 p.2 (look_of_mem h.1.nd hp)
  exact c.1.2
end
end NK

namespace NK
open PySem PySem.Spec PyProof.Rows L2 NA TL
/-! ### lists of tuples of a place, a column, an answer: as data -/
def Sk (z : Str) : Prop := z.length ≤ 73 ∧ ∀ c ∈ tl z, c < 128
theorem Sk.ok {z : Str} (h : Sk z) : Shk z := by
  refine ⟨by have := h.1; omega, ?_⟩
  unfold PyData.strOk
  have lt := h.2
  simp only [Array.all_eq_true_iff_forall_mem, decide_eq_true_eq] at *
  first
    | (intro c hc; have := lt c (by simpa using hc); omega)
    | (intro c hc; have := lt c (by simpa using hc); simp; omega)
theorem nm_sk {z : Str} (h : isNm z = true) : Sk z := by
  obtain ⟨h1, h2, h3⟩ := isNm_iff.mp h
  refine ⟨by omega, fun c hc => ?_⟩
  have := h3 c hc
  rw [sgn_tl] at this
  revert this
  simp only [List.mem_cons, List.not_mem_nil, or_false]
  omega
theorem tx_lt {z : Str} (h : isTx z = true) : ∀ c ∈ tl z, c < 128 := by
  rw [← txt_back h]
  have g := tx_good h
  intro c hc
  rw [txt_tl] at hc
  rcases List.mem_cons.mp hc with e | e
  · omega
  · have key : ∀ ps : List (List Nat), (∀ p ∈ ps, ∀ c ∈ p, c < 128) → ∀ c ∈ joinL [47] ps, c < 128 := by
      intro ps
      induction ps with
      | nil => intro _ c hc; rw [joinL_nil] at hc; exact (List.not_mem_nil hc).elim
      | cons p ps ih =>
        intro hp c hc
        cases ps with
        | nil =>
          rw [show joinL [47] [p] = p from by simp [joinL]] at hc
          exact hp p (by simp) c hc
        | cons q r =>
          rw [show joinL [47] (p :: q :: r) = p ++ 47 :: joinL [47] (q :: r) from by simp [joinL]] at hc
          rcases List.mem_append.mp hc with e | e
          · exact hp p (by simp) c e
          · rcases List.mem_cons.mp e with e | e
            · omega
            · exact ih (fun x hx => hp x (List.mem_cons_of_mem _ hx)) c e
    refine key _ (fun p hp c hc => ?_) c e
    obtain ⟨n, hn, rfl⟩ := List.mem_map.mp hp
    exact (nm_sk (g.2 n hn)).2 c hc
theorem tx_sk {z : Str} (h : isTx z = true) : Sk z := ⟨tx_len73 h, tx_lt h⟩
def tupD (x : Str × Str × Str) : PyData := .tuple [.str x.1, .str x.2.1, .str x.2.2]
theorem TupsAt.dp {K : PySem.W.Frag} {H : Hp} {ys : List V} {L : List (Str × Str × Str)} (h : TupsAt H ys L) : DpAll K H ys (L.map tupD) := by
  unfold TupsAt at h
  induction h with
  | nil => exact .nil
  | cons z _ ih =>
    obtain ⟨p, rfl, h2⟩ := z
    exact .cons (.tup (SqT.of h2) (.cons (.str _) (.cons (.str _) (.cons (.str _) .nil)))) ih
/-- an ascending list is told by its items -/
theorem sorted_one {zs zs' : List Str} (hp : zs.Perm zs') (h : sortedS zs = true) (h' : sortedS zs' = true) : zs = zs' :=
  List.Perm.eq_of_pairwise (le := LeS) (fun a b _ _ x y => x.anti y) (sortedS_pw h) (sortedS_pw h') hp
end NK

namespace NK
open PySem PySem.Spec PyProof.Rows L2 NA TL
section
variable {P : Program} {w : World} {K : PySem.W.Frag} {mg : Str → Option Value} {base : Heap} {A : Ad}
theorem Sam.own {p d : Addr} {H H1 H2 : Hp} (e : Sam p H H1) (h : H d = none) (e2 : Sam d H1 H2) : Sam p H H2 := fun b o n hb => e2 b o (fun z => by subst z; rw [h] at hb; cases hb) (e b o n hb)
theorem Same.own {d : Addr} {H H1 H2 : Hp} (e : Same H H1) (h : H d = none) (e2 : Sam d H1 H2) : Same H H2 := fun b o hb => e2 b o (fun z => by subst z; rw [h] at hb; cases hb) (e b o hb)
end
end NK

namespace NK
open PySem PySem.Spec PyProof.Rows L2 NA TL
/-! ### small laws of tables, dicts, heaps that many laws need -/
section
variable {P : Program} {w : World} {K : PySem.W.Frag} {mg : Str → Option Value} {base : Heap} {A : Ad}
abbrev celM (r : Row) : List (Key × V) := r.map fun p => ((Sum.inr p.1 : Key), V.str p.2)
theorem putK_x (r : XRow) (t : Str) (v : V) : putK (xM r) (Sum.inr t) v = xM (putR r t v) := by
  unfold putK putR
  have e : ((xM r).any fun kv => decide (kv.1 = Sum.inr t)) = (r.any fun p => decide (p.1 = t)) := by
    rw [List.any_map]
    congr 1
    funext p
    show decide ((Sum.inr p.1 : Key) = Sum.inr t) = _
    by_cases h : p.1 = t
    · simp [h]
    · rw [decide_eq_false h, decide_eq_false fun z => h (Sum.inr.inj z)]
  rw [e]
  split
  · unfold xM
    rw [List.map_map, List.map_map]
    refine List.map_congr_left fun p _ => ?_
    show (if (Sum.inr p.1 : Key) = Sum.inr t then ((Sum.inr p.1 : Key), v) else (Sum.inr p.1, p.2)) = _
    by_cases h : p.1 = t
    · rw [if_pos (by rw [h])]; show _ = ((Sum.inr (if p.1 = t then (p.1, v) else p).1 : Key), (if p.1 = t then (p.1, v) else p).2); rw [if_pos h]
    · rw [if_neg fun z => h (Sum.inr.inj z)]; show _ = ((Sum.inr (if p.1 = t then (p.1, v) else p).1 : Key), (if p.1 = t then (p.1, v) else p).2); rw [if_neg h]
  · unfold xM
    rw [List.map_append]; rfl
theorem sR_put (r : Row) (t a : Str) : sR (putR r t a) = putR (sR r) t (.str a) := by
  unfold putR sR
  have e : ((r.map fun p => (p.1, V.str p.2)).any fun p => decide (p.1 = t)) = (r.any fun p => decide (p.1 = t)) := by
    rw [List.any_map]; rfl
  rw [e]
  split
  · rw [List.map_map, List.map_map]
    refine List.map_congr_left fun p _ => ?_
    show ((if p.1 = t then (p.1, a) else p).1, V.str (if p.1 = t then (p.1, a) else p).2) = if p.1 = t then (p.1, V.str a) else (p.1, V.str p.2)
    split <;> rfl
  · rw [List.map_append]; rfl
theorem putK_cel (r : Row) (t a : Str) : putK (celM r) (Sum.inr t) (.str a) = celM (putR r t a) := by
  have h1 : celM r = xM (sR r) := (xM_sR r).symm
  have h2 : celM (putR r t a) = xM (sR (putR r t a)) := (xM_sR _).symm
  rw [h1, h2, putK_x, sR_put]
theorem mergeK_app : ∀ (ms acc : List (Key × V)), ((acc ++ ms).map (·.1)).Nodup → mergeK acc ms = acc ++ ms
  | [], acc, _ => by simp [mergeK]
  | p :: ms, acc, h => by
    have hn : (acc.any fun kv => decide (kv.1 = p.1)) = false := by
      rw [List.any_eq_false]
      intro q hq e
      rw [List.map_append, List.map_cons, List.nodup_append] at h
      exact h.2.2 q.1 (List.mem_map.mpr ⟨q, hq, rfl⟩) p.1 (List.mem_cons_self ..) (of_decide_eq_true e)
    show mergeK (putK acc p.1 p.2) ms = _
    have e : putK acc p.1 p.2 = acc ++ [p] := by
      unfold putK
      rw [hn, if_neg (by decide)]
    rw [e, mergeK_app ms _ (by simpa using h)]
    simp
theorem mergeK_nil {ms : List (Key × V)} (h : (ms.map (·.1)).Nodup) : mergeK [] ms = ms := by
  rw [mergeK_app ms [] (by simpa using h)]; rfl
theorem RwF.mut {H : Hp} {b : Addr} {r' : Row} (hr' : r' ≠ [] ∧ (r'.map (·.1)).Nodup) {ks : List (Key × V)} {rs : Rows} (h : RwF H ks rs) :
    ∃ rs' : Rows, RwF (upd H b (.dK (celM r'))) ks rs' ∧ rs'.map (·.1) = rs.map (·.1) ∧ ∀ p ∈ rs', p ∈ rs ∨ (p.1 ∈ rs.map (·.1) ∧ p.2 = r') := by
  induction h with
  | nil => exact ⟨[], .nil, rfl, fun _ z => (List.not_mem_nil z).elim⟩
  | @cons kv p ks rs z _ ih =>
    obtain ⟨e1, a, e2, c⟩ := z
    obtain ⟨rs', h1, h2, h3⟩ := ih
    by_cases e : a = b
    · refine ⟨(p.1, r') :: rs', .cons ⟨e1, a, e2, hr', by rw [e]; exact upd_same⟩ h1, by rw [List.map_cons, List.map_cons, h2], fun q hq => ?_⟩
      rcases List.mem_cons.mp hq with z | z
      · rw [z]; exact .inr ⟨by simp, rfl⟩
      · rcases h3 q z with y | ⟨y1, y2⟩
        · exact .inl (List.mem_cons_of_mem _ y)
        · exact .inr ⟨by rw [List.map_cons]; exact List.mem_cons_of_mem _ y1, y2⟩
    · refine ⟨p :: rs', .cons ⟨e1, a, e2, c.1, by rw [upd_ne e]; exact c.2⟩ h1, by rw [List.map_cons, List.map_cons, h2], fun q hq => ?_⟩
      rcases List.mem_cons.mp hq with z | z
      · rw [z]; exact .inl (List.mem_cons_self ..)
      · rcases h3 q z with y | ⟨y1, y2⟩
        · exact .inl (List.mem_cons_of_mem _ y)
        · exact .inr ⟨by rw [List.map_cons]; exact List.mem_cons_of_mem _ y1, y2⟩
theorem GRw.drop {cs : List Str} {rs : Rows} {t : Str} (h : GRw cs rs) : GRw cs (dropR rs t) := ⟨fun p hp => h.row p (List.mem_filter.mp hp).1, nd_drop h.nd⟩
theorem GRw.wide {cs cs' : List Str} {rs : Rows} (h : GRw cs rs) (hc : ∀ c ∈ cs, c ∈ cs') : GRw cs' rs :=
  ⟨fun p hp => ⟨(h.row p hp).1, (h.row p hp).2.1, (h.row p hp).2.2.1, fun q hq => ⟨hc _ ((h.row p hp).2.2.2 q hq).1, ((h.row p hp).2.2.2 q hq).2⟩⟩, h.nd⟩
theorem GCol.more {cs : List Str} {c : Str} (h : GCol cs) (hl : cs.length < 3) (hn : isNm c = true) (hc : c ∉ cs) : GCol (cs ++ [c]) :=
  ⟨by rw [List.length_append]; have := h.lo; omega, by rw [List.length_append, List.length_singleton]; omega, fun d hd => (List.mem_append.mp hd).elim (h.nm d) fun z => by rw [List.mem_singleton.mp z]; exact hn,
    by rw [List.nodup_append]; exact ⟨h.nd, by simp, fun a ha b hb e => hc (by rw [← List.mem_singleton.mp hb, ← e]; exact ha)⟩⟩
theorem NoCel.frz {H : Hp} {p : Addr} {od : Obj} {u : HO} (h : H p = some (.frz od u)) : NoCel H p := fun r c => by have c2 := c.2; rw [h] at c2; cases c2
theorem Tbl.sam {H H' : Hp} {a d p : Addr} {cs : List Str} {rs : Rows} (h : Tbl A H a d cs rs) (n : d ≠ p) (nc : NoCel H p) (ni : ∀ C dx fs, H p ≠ some (.ins C dx fs)) (nt : ∀ xs, H p ≠ some (.tup xs)) (e : Sam p H H') : Tbl A H' a d cs rs := by
  obtain ⟨g, ⟨dx, tc, h1, h2⟩, h3⟩ := h
  exact ⟨g, ⟨dx, tc, e _ _ (fun z => by subst z; exact ni _ _ _ h1) h1, e _ _ (fun z => by subst z; exact nt _ h2) h2⟩, h3.sam n nc e⟩
theorem Tbl.rws {H : Hp} {a d : Addr} {cs : List Str} {rs : Rows} (h : Tbl A H a d cs rs) : Rws H d rs := h.2.2
theorem mk_good' {H1 : Hp} {l rd : Addr} {cs : List Str} {rs : Rows} {Q : Addr → Hp → Prop} {E : XK} (hl : ColV H1 l cs) (gc : GCol cs) (g : GRw cs rs) (h40 : rs.length ≤ 40) (hr : Rws H1 rd rs)
    (k : ∀ x H2 d fs, H1 x = none → H1 d = none → Same H1 H2 → fs.Perm rs → Tbl A H2 x d cs fs → Cls (fun b => H1 b = none) H2 d → Q x H2) :
    ∀ x dx, H1 x = Option.none → H1 dx = Option.none → dx ≠ x → sp_tinit A K [V.ref x, .ref l, .ref rd] (upd (upd H1 dx (.own x)) x (.ins A.c_Table dx [])) (fun v H2 => v = .non ∧ Q x H2) E :=
  mk_good (A := A) (K := K) (Q := fun v H2 => match v with | .ref y => Q y H2 | _ => False) hl gc g h40 hr k
end
end NK

namespace NK
open PySem PySem.Spec PyProof.Rows L2 NA TL
/-! ### texts of tables, in plain Lean -/
/-- a row's cells in the order of the columns -/
def prs (cs : List Str) (r : Row) : Row := cs.filterMap fun c => (look r c).map fun v => (c, v)
def flatR (l : Row) : List Str := l.flatMap fun p => [p.1, p.2]
def rowW (w t : Str) (cs : List Str) (r : Row) : List Str := w :: t :: flatR (prs cs r)
def linesW (cs : List Str) (f : Str → Row) (zs : List Str) : List (List Str) := (("columns" : Str) :: cs) :: zs.map fun z => rowW "row" z cs (f z)
def lineX (ws : List Str) : Str := Txt.join " " ws
def showX (cs : List Str) (f : Str → Row) (zs : List Str) : Str := Txt.join "\n" ((linesW cs f zs).map lineX)
theorem prs_cons (c : Str) (cs : List Str) (r : Row) : prs (c :: cs) r = match look r c with | some v => (c, v) :: prs cs r | none => prs cs r := by
  unfold prs
  rw [List.filterMap_cons]
  cases look r c <;> rfl
theorem prs_mem {cs : List Str} {r : Row} {p : Str × Str} (h : p ∈ prs cs r) : p.1 ∈ cs ∧ look r p.1 = some p.2 := by
  obtain ⟨c, hc, e⟩ := List.mem_filterMap.mp h
  cases hl : look r c with
  | none => rw [hl] at e; cases e
  | some v => rw [hl] at e; injection e with e; subst e; exact ⟨hc, hl⟩
theorem prs_len (cs : List Str) (r : Row) : (prs cs r).length ≤ cs.length := List.length_filterMap_le _ _
theorem prs_keys {cs : List Str} {r : Row} : ((prs cs r).map (·.1)).Sublist cs := by
  induction cs with
  | nil => exact .slnil
  | cons c cs ih =>
    rw [prs_cons]
    cases look r c with
    | none => exact .cons _ ih
    | some v => exact .cons₂ _ ih
theorem prs_nd {cs : List Str} {r : Row} (h : cs.Nodup) : ((prs cs r).map (·.1)).Nodup := prs_keys.nodup h
theorem look_prs {cs : List Str} {r : Row} {c : Str} : look (prs cs r) c = if c ∈ cs then look r c else none := by
  induction cs with
  | nil => rfl
  | cons d cs ih =>
    rw [prs_cons]
    by_cases e : c = d
    · subst e
      rw [if_pos (List.mem_cons_self ..)]
      cases hl : look r c with
      | some v => simp only [look_cons, if_true]
      | none =>
        dsimp only
        rw [ih, hl]; split <;> rfl
    · have e2 : (c ∈ d :: cs) = (c ∈ cs) := by simp [e]
      simp only [e2]
      cases hl : look r d with
      | some v => dsimp only; rw [look_cons, if_neg fun z => e z.symm, ih]
      | none => dsimp only; rw [ih]
theorem look_sub {cs : List Str} {r : Row} (h : ∀ p ∈ r, p.1 ∈ cs) (c : Str) : look (prs cs r) c = look r c := by
  rw [look_prs]
  split
  · rfl
  · next hn =>
    cases hl : look r c with
    | none => rfl
    | some v => exact (hn (h _ (look_mem hl))).elim
theorem prs_ne {cs : List Str} {r : Row} (g : GRow cs r) : prs cs r ≠ [] := fun e => by
  obtain ⟨h1, _, h3⟩ := g
  cases r with
  | nil => exact h1 rfl
  | cons p r =>
    have h : look (prs cs (p :: r)) p.1 = look (p :: r) p.1 := look_sub (fun q hq => (h3 q hq).1) _
    rw [e, look_cons, if_pos rfl] at h
    cases h
theorem prs_grow {cs : List Str} {r : Row} (g : GRow cs r) (h1000 : cs.length ≤ 1000) : GRow cs (prs cs r) :=
  ⟨prs_ne g, Nat.le_trans (prs_len _ _) h1000, fun p hp => by
    obtain ⟨h1, h2⟩ := prs_mem hp
    exact ⟨h1, (g.2.2 _ (look_mem h2)).2⟩⟩
theorem flatR_inj : ∀ {l l' : Row}, flatR l = flatR l' → l = l'
  | [], [], _ => rfl
  | [], _ :: _, h => by cases h
  | _ :: _, [], h => by cases h
  | p :: l, q :: l', h => by
    have h : p.1 :: p.2 :: flatR l = q.1 :: q.2 :: flatR l' := h
    injection h with h1 h2
    injection h2 with h2 h3
    rw [flatR_inj h3, show p = q from Prod.ext h1 h2]
theorem flatR_len : ∀ l : Row, (flatR l).length = 2 * l.length
  | [] => rfl
  | p :: l => by
    show (flatR l).length + 2 = _
    rw [flatR_len l, List.length_cons]; omega
theorem flatR_app (l l' : Row) : flatR (l ++ l') = flatR l ++ flatR l' := List.flatMap_append ..
/-- words: no blank, no line feed, short -/
def Wd (z : Str) : Prop := z.length ≤ 73 ∧ 32 ∉ tl z ∧ 10 ∉ tl z
theorem nm_wd {z : Str} (h : isNm z = true) : Wd z := by
  obtain ⟨h1, h2, h3⟩ := isNm_iff.mp h
  refine ⟨by omega, fun e => ?_, fun e => ?_⟩ <;>
  · have := h3 _ e
    rw [sgn_tl] at this
    revert this
    decide
theorem tx_wd {z : Str} (h : isTx z = true) : Wd z := by
  refine ⟨tx_len73 h, ?_⟩
  have key : ∀ (k : Nat), k ≠ 47 → (∀ n, isNm n = true → k ∉ tl n) → k ∉ tl z := by
    intro k hk hn
    rw [← txt_back h]
    have g := tx_good h
    intro hc
    rw [txt_tl] at hc
    rcases List.mem_cons.mp hc with e | e
    · exact hk e
    · have key : ∀ ps : List (List Nat), (∀ p ∈ ps, k ∉ p) → k ∉ joinL [47] ps := by
        intro ps
        induction ps with
        | nil => intro _ hc; rw [joinL_nil] at hc; exact (List.not_mem_nil hc).elim
        | cons p ps ih =>
          intro hp hc
          cases ps with
          | nil =>
            rw [show joinL [47] [p] = p from by simp [joinL]] at hc
            exact hp p (by simp) hc
          | cons q r =>
            rw [show joinL [47] (p :: q :: r) = p ++ 47 :: joinL [47] (q :: r) from by simp [joinL]] at hc
            rcases List.mem_append.mp hc with e | e
            · exact hp p (by simp) e
            · rcases List.mem_cons.mp e with e | e
              · exact hk e
              · exact ih (fun x hx => hp x (List.mem_cons_of_mem _ hx)) e
      refine key _ (fun p hp => ?_) e
      obtain ⟨n, hn', rfl⟩ := List.mem_map.mp hp
      exact hn n (g.2 n hn')
  exact ⟨key 32 (by decide) fun n hn => (nm_wd hn).2.1, key 10 (by decide) fun n hn => (nm_wd hn).2.2⟩
/-- what a text tells -/
structure GX (cs : List Str) (f : Str → Row) (zs : List Str) : Prop where
  col : GCol cs
  row : ∀ z ∈ zs, isTx z = true ∧ GRow cs (f z)
  so : sortedS zs = true
  nd : zs.Nodup
  len : zs.length ≤ 40
theorem row_wd {cs : List Str} {r : Row} {w t : Str} (hw : Wd w) (ht : Wd t) (gc : GCol cs) (g : ∀ p ∈ r, isNm p.2 = true) : ∀ z ∈ rowW w t cs r, Wd z := by
  intro z hz
  rcases List.mem_cons.mp hz with rfl | hz
  · exact hw
  rcases List.mem_cons.mp hz with rfl | hz
  · exact ht
  obtain ⟨p, hp, h⟩ := List.mem_flatMap.mp hz
  obtain ⟨h1, h2⟩ := prs_mem hp
  simp only [List.mem_cons, List.not_mem_nil, or_false] at h
  rcases h with rfl | rfl
  · exact nm_wd (gc.nm _ h1)
  · exact nm_wd (g _ (look_mem h2))
theorem kw_row : Wd ("row" : Str) := nm_wd (by decide +kernel)
theorem kw_col : Wd ("columns" : Str) := nm_wd (by decide +kernel)
theorem GX.wd {cs : List Str} {f : Str → Row} {zs : List Str} (g : GX cs f zs) : ∀ ws ∈ linesW cs f zs, ws ≠ [] ∧ ws.length ≤ 8 ∧ ∀ z ∈ ws, Wd z := by
  intro ws h
  rcases List.mem_cons.mp h with rfl | h
  · refine ⟨List.cons_ne_nil _ _, by have := g.col.hi; show cs.length + 1 ≤ 8; omega, fun z hz => ?_⟩
    rcases List.mem_cons.mp hz with rfl | hz
    · exact kw_col
    · exact nm_wd (g.col.nm z hz)
  · obtain ⟨t, ht, rfl⟩ := List.mem_map.mp h
    refine ⟨List.cons_ne_nil _ _, ?_, row_wd kw_row (tx_wd (g.row t ht).1) g.col fun p hp => ((g.row t ht).2.2.2 p hp).2⟩
    have h1 := flatR_len (prs cs (f t))
    have h2 := prs_len cs (f t)
    have h3 := g.col.hi
    show (flatR (prs cs (f t))).length + 1 + 1 ≤ 8
    omega
theorem bl_tl : tl (" " : Str) = [32] := by decide +kernel
theorem lf_tl : tl ("\n" : Str) = [10] := by decide +kernel
theorem lineX_split {ws : List Str} (hn : ws ≠ []) (h : ∀ z ∈ ws, Wd z) : Txt.split (lineX ws) " " = ws :=
  split_join (s := 32) (S := []) bl_tl (by decide +kernel) hn fun p hp => (h p hp).2.1
theorem lineX_lf {ws : List Str} (h : ∀ z ∈ ws, Wd z) : 10 ∉ tl (lineX ws) := by
  unfold lineX
  rw [join_eq, tl_join, bl_tl]
  have key : ∀ ps : List (List Nat), (∀ p ∈ ps, 10 ∉ p) → 10 ∉ joinL [32] ps := by
    intro ps
    induction ps with
    | nil => intro _ hc; rw [show joinL [32] [] = [] from rfl] at hc; exact (List.not_mem_nil hc).elim
    | cons p ps ih =>
      intro hp hc
      cases ps with
      | nil =>
        rw [show joinL [32] [p] = p from by simp [joinL]] at hc
        exact hp p (by simp) hc
      | cons q r =>
        rw [show joinL [32] (p :: q :: r) = p ++ 32 :: joinL [32] (q :: r) from by simp [joinL]] at hc
        rcases List.mem_append.mp hc with e | e
        · exact hp p (by simp) e
        · rcases List.mem_cons.mp e with e | e
          · exact absurd e (by decide)
          · exact ih (fun x hx => hp x (List.mem_cons_of_mem _ hx)) e
  refine key _ fun p hp => ?_
  obtain ⟨n, hn, rfl⟩ := List.mem_map.mp hp
  exact (h n hn).2.2
theorem showX_split {cs : List Str} {f : Str → Row} {zs : List Str} (g : GX cs f zs) : Txt.split (showX cs f zs) "\n" = (linesW cs f zs).map lineX :=
  split_join (s := 10) (S := []) lf_tl (by decide +kernel) (by simp [linesW]) fun p hp => by
    obtain ⟨ws, hw, rfl⟩ := List.mem_map.mp hp
    exact lineX_lf (g.wd ws hw).2.2
theorem joinX_len {y : Str} (hy : y.length = 1) : ∀ ws : List Str, ∀ b, (∀ z ∈ ws, z.length ≤ b) → (Txt.join y ws).length ≤ ws.length * (b + 1)
  | [], b, _ => by show (0 : Nat) ≤ _; omega
  | [z], b, h => by
    have h1 := h z (by simp)
    show z.length ≤ 1 * (b + 1)
    omega
  | z :: q :: r, b, h => by
    have h1 := h z (by simp)
    have h2 := joinX_len hy (q :: r) b fun x hx => h x (List.mem_cons_of_mem _ hx)
    rw [join_eq] at h2 ⊢
    show (z ++ y ++ Str.join y (q :: r)).length ≤ _
    rw [strLen_append, strLen_append, hy, List.length_cons, Nat.add_mul]
    omega
theorem lineX_len {ws : List Str} (h8 : ws.length ≤ 8) (h : ∀ z ∈ ws, Wd z) : (lineX ws).length ≤ 592 := by
  have := joinX_len (y := " ") rfl ws 73 fun z hz => (h z hz).1
  unfold lineX
  omega
theorem showX_len {cs : List Str} {f : Str → Row} {zs : List Str} (g : GX cs f zs) : (showX cs f zs).length ≤ 30000 := by
  have h1 := joinX_len (y := "\n") rfl ((linesW cs f zs).map lineX) 592 fun z hz => by
    obtain ⟨ws, hw, rfl⟩ := List.mem_map.mp hz
    exact lineX_len (g.wd ws hw).2.1 (g.wd ws hw).2.2
  have h2 : ((linesW cs f zs).map lineX).length ≤ 41 := by
    rw [List.length_map]
    show (zs.map _).length + 1 ≤ 41
    rw [List.length_map]
    have := g.len; omega
  unfold showX
  omega
end NK

namespace NK
open PySem PySem.Spec PyProof.Rows L2 NA TL
/-! ### unlike tables have unlike texts -/
theorem look_atG (f : Str → Row) (zs : List Str) (t : Str) : look (atG f zs) t = if t ∈ zs then some (f t) else none := by
  induction zs with
  | nil => rfl
  | cons z zs ih =>
    show look ((z, f z) :: atG f zs) t = _
    rw [look_cons]
    by_cases e : z = t
    · subst e; rw [if_pos rfl, if_pos (List.mem_cons_self ..)]
    · rw [if_neg e, ih]
      have : (t ∈ z :: zs) = (t ∈ zs) := by simp [Ne.symm e]
      simp only [this]
theorem cellAt_atG (f : Str → Row) (zs : List Str) (t c : Str) : cellAt (atG f zs) t c = if t ∈ zs then look (f t) c else none := by
  unfold cellAt
  rw [look_atG]
  split <;> rfl
theorem cellAt_prs {cs : List Str} {f : Str → Row} {zs : List Str} (g : GX cs f zs) : cellAt (atG (fun z => prs cs (f z)) zs) = cellAt (atG f zs) := by
  funext t c
  rw [cellAt_atG, cellAt_atG]
  split
  · next h => exact look_sub (fun p hp => ((g.row t h).2.2.2 p hp).1) c
  · rfl
theorem linesW_inj {cs : List Str} {f f' : Str → Row} {zs zs' : List Str} (h : linesW cs f zs = linesW cs f' zs') : zs = zs' ∧ ∀ z ∈ zs, prs cs (f z) = prs cs (f' z) := by
  replace h : zs.map (fun z => rowW "row" z cs (f z)) = zs'.map fun z => rowW "row" z cs (f' z) := by injection h
  induction zs generalizing zs' with
  | nil =>
    cases zs' with
    | nil => exact ⟨rfl, fun z hz => (List.not_mem_nil hz).elim⟩
    | cons a as => cases h
  | cons z zs ih =>
    cases zs' with
    | nil => cases h
    | cons a as =>
      rw [List.map_cons, List.map_cons] at h
      injection h with h1 h2
      obtain ⟨e1, e2⟩ := ih h2
      unfold rowW at h1
      injection h1 with _ h1
      injection h1 with h3 h4
      subst h3 e1
      refine ⟨rfl, fun y hy => ?_⟩
      rcases List.mem_cons.mp hy with rfl | hy
      · exact flatR_inj h4
      · exact e2 y hy
theorem map_inj_on {α β : Type} {f : α → β} {g : β → α} : ∀ {l l' : List α}, (∀ x ∈ l, g (f x) = x) → (∀ x ∈ l', g (f x) = x) → l.map f = l'.map f → l = l' := fun {l l'} h h' e => by
  have h1 : (l.map f).map g = l := by
    rw [List.map_map]
    exact (List.map_congr_left fun x hx => h x hx).trans (List.map_id l)
  have h2 : (l'.map f).map g = l' := by
    rw [List.map_map]
    exact (List.map_congr_left fun x hx => h' x hx).trans (List.map_id l')
  rw [← h1, ← h2, e]
theorem show_lines {cs cs' : List Str} {f f' : Str → Row} {zs zs' : List Str} (g : GX cs f zs) (g' : GX cs' f' zs') (h : showX cs f zs = showX cs' f' zs') : linesW cs f zs = linesW cs' f' zs' := by
  have h1 := showX_split g
  rw [h, showX_split g'] at h1
  exact map_inj_on (g := fun x => Txt.split x " ") (fun ws hw => lineX_split (g.wd ws hw).1 (g.wd ws hw).2.2) (fun ws hw => lineX_split (g'.wd ws hw).1 (g'.wd ws hw).2.2) h1.symm
theorem show_iff {cs : List Str} {f f' : Str → Row} {zs zs' : List Str} (g : GX cs f zs) (g' : GX cs f' zs') : showX cs f zs = showX cs f' zs' ↔ cellAt (atG f zs) = cellAt (atG f' zs') := by
  constructor
  · intro h
    obtain ⟨rfl, e⟩ := linesW_inj (show_lines g g' h)
    rw [← cellAt_prs g, ← cellAt_prs g']
    funext t c
    rw [cellAt_atG, cellAt_atG]
    split
    · next h => rw [e t h]
    · rfl
  · intro h
    have key : ∀ {f f' : Str → Row} {zs zs' : List Str}, GX cs f zs → cellAt (atG f zs) = cellAt (atG f' zs') → ∀ t ∈ zs, t ∈ zs' := by
      intro f f' zs zs' g h t ht
      obtain ⟨h1, _, h3⟩ := (g.row t ht).2
      cases hr : f t with
      | nil => exact (h1 hr).elim
      | cons p r =>
        have h4 := congrFun (congrFun h t) p.1
        rw [cellAt_atG, cellAt_atG, if_pos ht, hr, look_cons, if_pos rfl] at h4
        by_cases h5 : t ∈ zs'
        · exact h5
        · rw [if_neg h5] at h4; cases h4
    have e : zs = zs' := sorted_one ((List.perm_ext_iff_of_nodup g.nd g'.nd).mpr fun t => ⟨key g h t, key g' h.symm t⟩) g.so g'.so
    subst e
    unfold showX linesW
    have : zs.map (fun z => rowW "row" z cs (f z)) = zs.map fun z => rowW "row" z cs (f' z) := List.map_congr_left fun z hz => by
      have : prs cs (f z) = prs cs (f' z) := by
        unfold prs
        congr 1
        funext c
        have h4 := congrFun (congrFun h z) c
        rw [cellAt_atG, cellAt_atG, if_pos hz, if_pos hz] at h4
        rw [h4]
      unfold rowW
      rw [this]
    rw [this]
theorem GTb.gx {cs : List Str} {rs : Rows} {zs : List Str} (g : GTb cs rs) (pz : zs.Perm (rs.map (·.1))) (so : sortedS zs = true) : GX cs (atL rs) zs :=
  ⟨g.col, fun z hz => by
    obtain ⟨p, hp, rfl⟩ := List.mem_map.mp (pz.subset hz)
    have e : atL rs p.1 = p.2 := by unfold atL; rw [look_of_mem g.nd hp]; rfl
    rw [e]
    exact ⟨(g.row p hp).1, (g.row p hp).2.2⟩, so, pz.nodup_iff.mpr g.nd, by rw [pz.length_eq, List.length_map]; exact g.len⟩
theorem GX.rok {cs : List Str} {f : Str → Row} {zs : List Str} (g : GX cs f zs) : RowsOk (atG (fun z => prs cs (f z)) zs) :=
  ⟨by rw [atG_keys]; exact g.nd, fun p hp => by
    obtain ⟨z, hz, rfl⟩ := List.mem_map.mp hp
    exact ⟨prs_ne (g.row z hz).2, prs_nd g.col.nd⟩⟩
end NK

namespace NK
open PySem PySem.Spec PyProof.Rows L2 NA TL
theorem sum_le {b : Nat} : ∀ {ws : List Str}, (∀ z ∈ ws, z.length ≤ b) → (ws.map fun x => x.length).sum ≤ ws.length * b
  | [], _ => Nat.zero_le _
  | z :: ws, h => by
    have h1 := h z (by simp)
    have h2 := sum_le (b := b) (ws := ws) fun x hx => h x (List.mem_cons_of_mem _ hx)
    rw [List.map_cons, List.sum_cons, List.length_cons, Nat.add_mul]
    omega
theorem line_fits {ws : List Str} (h8 : ws.length ≤ 8) (h : ∀ z ∈ ws, Wd z) : (ws.map fun x => x.length).sum + ws.length * (" " : Str).length ≤ 16777216 := by
  have h1 := sum_le (b := 73) fun z hz => (h z hz).1
  have h2 : (" " : Str).length = 1 := rfl
  rw [h2]
  omega
section
variable {P : Program} {w : World} {K : PySem.W.Frag} {mg : Str → Option Value} {base : Heap} {A : Ad}
theorem prs_snoc {cs : List Str} {r : Row} {i : Nat} {c : Str} (h : cs[i]? = some c) : prs (cs.take (i + 1)) r = prs (cs.take i) r ++ match look r c with | some v => [(c, v)] | none => [] := by
  rw [List.take_add_one, h]
  unfold prs
  rw [List.filterMap_append]
  show _ ++ List.filterMap _ [c] = _
  rw [List.filterMap_cons]
  cases look r c <;> rfl
def sp_rowt (A : Ad) : Sp := fun vs H Q _ => ∃ (wd t : Str) (a d : Addr) (cs : List Str) (rs : Rows) (r : Row), vs = [.str wd, .str t, .ref a] ∧ Tbl A H a d cs rs ∧ look rs t = some r ∧ Wd wd ∧ ∀ H', Same H H' → Q (.str (lineX (rowW wd t cs r))) H'
theorem ok_rowt (T : Tx P K mg A) : FnR P w K mg base CX0 7 A.f_row_text (sp_rowt A) := by
  refine fnr T.F_row_text sc_row_text (fun _ _ _ _ _ _ us hl => match us, hl with | [_, _, _], _ => rfl) (fun vs H Q E h => ?_) (fun cdv A' outer s H vs Q E hr h => ?_)
  · obtain ⟨wd, t, a, d, cs, rs, r, rfl, _⟩ := h; rfl
  · obtain ⟨wd, t, a, d, cs, rs, r, rfl, ht, hl, hw, k⟩ := h
    refine ⟨_, pss_cons (ps_set (i := 3) sc_row_text.nd rfl (.inl rfl) (pe_lst (pa_cons (pv 0) (pa_cons (pv 1) pa_nil))))
      (pss_cons (ps_set (i := 4) sc_row_text.nd rfl (.inl rfl) (pe_ixC T.getS T.fi_Table_getitem (ok_getitem T) (hr.mono (by decide)) pass0 (pv 2) (pv 1) (fun _ _ => rfl)))
      (pss_cons (ps_for PassesOwn.never rfl (pi_tup (pe_fld (pv 2) rfl)) (pg_name (i := 5) sc_row_text.nd rfl (.inl rfl))
        (pss_one (ps_if (pt_cmp (pc_din (hu_of hr) (pv 5) (pv 4))) (pss_one (ps_expr (pe_bm PySem.F.plainAttrs_list PySem.F.slot_list_extend PySem.F.type_list_extend mt_extend (pv 3) (pa_cons (pe_lst (pa_cons (pv 5) (pa_cons (pe_dget (hu_of hr) (pv 4) (pv 5) (fun _ _ => rfl)) pa_nil))) pa_nil)))) pss_nil)))
      (pss_one (ps_ret (pe_join pe_str (pv 3)))))), ?_⟩
    obtain ⟨g, ⟨dx, tc, h1, h2⟩, hR⟩ := id ht
    have gt : isTx t = true := (g.row _ (look_mem hl)).1
    have gr : GRow cs r := (g.row _ (look_mem hl)).2.2
    have c3 := g.col.hi
    refine ⟨_, rfl, _, rfl, sz (by show 2 ≤ 1000000; omega), fun l hl0 => ?_⟩
    have s1 := Same.new (o := .lst [V.str wd, .str t]) hl0
    have v1 : (upd H l (.lst [V.str wd, .str t])) l = some (.lst [V.str wd, .str t]) := upd_same
    generalize upd H l (.lst [V.str wd, .str t]) = H1 at s1 v1
    refine ⟨_, rfl, _, rfl, a, dx, _, rfl, s1 _ _ h1, a, d, .str t, cs, rs, namesIn t, r, rfl, ht.same s1, ⟨tx_good gt, .inr ⟨t, rfl, by have := tx_len73 gt; omega, gt, rfl⟩⟩, by rw [txt_back gt]; exact hl, fun b H2 s2 cb => ?_⟩
    have s02 := s1.trans s2
    refine ⟨_, rfl, a, _, dx, _, _, rfl, s02 _ _ h1, T.clT, T.nCol, lkc tc d, tc, rfl, ⟨_, SqT.of (s02 _ _ h2)⟩, ?_⟩
    refine for_tup (K := K) (a := tc) (xs := cs.map V.str) (fun i σ H' => Same H H' ∧ H' l = some (.lst ((rowW wd t (cs.take i) r).map V.str)) ∧ Cel H' b r ∧ ∃ v, σ = [some (.str wd), some (.str t), some (.ref a), some (.ref l), some (.ref b), v])
      ⟨s02, s2 _ _ v1, cb, _, rfl⟩ (fun i σ H' _ q => SqT.of (q.1 _ _ h2)) ?_ ?_
    · rintro i y σ H3 hy ⟨s3, hl3, cb3, v, rfl⟩
      rw [List.getElem?_map] at hy
      obtain ⟨c, hc, rfl⟩ := Option.map_eq_some_iff.mp hy
      have hi : i < cs.length := (List.getElem?_eq_some_iff.mp hc).1
      have dgC := DGet.k (k := Sum.inr c) cb3.2
      rw [cel_val] at dgC
      refine ⟨_, rfl, _, rfl, b, _, rfl, dgC, _, rfl, ?_⟩
      have hw1 : rowW wd t (cs.take (i + 1)) r = rowW wd t (cs.take i) r ++ flatR (match look r c with | some v => [(c, v)] | none => []) := by
        unfold rowW
        rw [prs_snoc hc, flatR_app]; rfl
      cases e : look r c with
      | none =>
        rw [e] at hw1
        refine iteF ⟨s3, by rw [hw1]; simpa [flatR] using hl3, cb3, _, rfl⟩
      | some x =>
        rw [e] at dgC hw1
        refine iteT ?_
        refine ⟨_, rfl, .inl ⟨rfl, _, SqL.of hl3⟩, _, rfl, _, rfl, _, rfl, b, _, rfl, dgC, sz (by show 2 ≤ 1000000; omega), fun q hq => ?_⟩
        have s4 := Same.new (o := .lst [V.str c, .str x]) hq
        have nlq : l ≠ q := ne_of_none hl3 hq
        have hlen : ((rowW wd t (cs.take i) r).map V.str).length ≤ 8 := by
          rw [List.length_map]
          have h4 := prs_len (cs.take i) r
          rw [List.length_take] at h4
          show (flatR (prs (cs.take i) r)).length + 1 + 1 ≤ 8
          rw [flatR_len]; omega
        refine ⟨l, q, _, _, rfl, rfl, s4 _ _ hl3, upd_same, sz (by show _ + 2 ≤ 1000000; omega), Same.mut (s3.trans s4) hl0, ?_, ?_, _, rfl⟩
        · rw [upd_same, hw1, List.map_append]; rfl
        · exact (cb3.same s4).sam (NoCel.lst (s4 _ _ hl3)) (Sam.refl _).upd
    · rintro σ H3 ⟨s3, hl3, cb3, v, rfl⟩
      rw [List.length_map, List.take_length] at hl3
      have hwd := row_wd hw (tx_wd gt) g.col fun p hp => (gr.2.2 p hp).2
      have hle : (rowW wd t cs r).length ≤ 8 := by
        have h4 := prs_len cs r
        show (flatR (prs cs r)).length + 1 + 1 ≤ 8
        rw [flatR_len]; omega
      refine ⟨⟨_, rfl⟩, _, rfl, _, l, _, rfl, rfl, .inl (SqL.of hl3), line_fits hle hwd, k H3 s3⟩
end
end NK

namespace NK
open PySem PySem.Spec PyProof.Rows L2 NA TL
/-- a comprehension that gives texts -/
theorem lc_txs {J : It} {n : Nat} {G : Hp → Prop} {Y : Nat → Hp → V → Hp → Prop} (w : Walk J n G Y) (zs : List Str) (hz : zs.length = n) (F : Str → Str) {g : TG} {te : TE} {vs : List Nat} {σ : L2.St} {H1 : Hp} {D : Addr} {Qd : Hp → Prop} (hD : H1 D = none)
    (hG : ∀ H, Same H1 H → G H) (hn : n < sizeLine)
    (hs : ∀ i z x H H', zs[i]? = some z → Same H1 H → Y i H x H' → Same H H' ∧ g x (wipe σ vs) H' fun σ2 H2 => wipe σ2 vs = wipe σ vs ∧ Same H' H2 ∧ ∀ Q' : VK, (∀ H4, Same H2 H4 → Q' (.str (F z)) H4) → te σ2 H2 Q')
    (hg : ∀ x σ' H' (Q Q' : L2.St → Hp → Prop), (∀ σ2 H2, Q σ2 H2 → Q' σ2 H2) → g x σ' H' Q → g x σ' H' Q')
    (hd : ∀ H, Same H1 H → H D = some (.lst ((zs.map F).map V.str)) → Qd H) :
    ∃ W : Nat → Nat → Hp → Prop, (∃ m, W 0 m (upd H1 D (.lst []))) ∧ ∀ i m H, W i m H →
      (J.stop i H ∧ Qd H) ∨ (J.go i H ∧ ∃ Nx : Hp → Prop, (∀ H', Nx H' → ∃ m', m' < m ∧ W (i + 1) m' H') ∧ ∀ x H', J.yld i H x H' → g x (wipe σ vs) H' fun σ2 H2 => wipe σ2 vs = wipe σ vs ∧ tYes σ2 H2 fun b H3 =>
        if b = true then te σ2 H3 fun y H4 => ∃ acc, H4 D = some (.lst acc) ∧ acc.length < sizeLine ∧ Nx (upd H4 D (.lst (acc ++ [y]))) else Nx H3) := by
  refine lc_all w (fun i v _ => v = .str (F (zs.getD i ""))) hD (fun _ _ _ _ _ _ _ h => h) hG hn (fun i x H H' hi s y => ?_) hg (fun H ys s e1 e2 e3 => ?_)
  · have e : zs[i]? = some (zs.getD i "") := by
      rw [List.getD_eq_getElem?_getD, List.getElem?_eq_getElem (by omega)]; rfl
    obtain ⟨s2, k⟩ := hs i _ x H H' e s y
    exact ⟨s2, hg x _ H' _ _ (fun σ2 H2 ⟨q1, q2, q3⟩ => ⟨q1, q2, fun Q' hQ => q3 Q' fun H4 s4 => hQ _ H4 s4 rfl⟩) k⟩
  · refine hd H s ?_
    have := list_fn e2 e3
    rw [e1, this, ← hz, List.map_map]
    exact congrArg (fun l => some (HO.lst l)) (range_map zs ("" : Str) fun z => V.str (F z))
theorem look_atL {rs : Rows} (nd : (rs.map (·.1)).Nodup) {z : Str} (h : z ∈ rs.map (·.1)) : look rs z = some (atL rs z) := by
  obtain ⟨p, hp, rfl⟩ := List.mem_map.mp h
  unfold atL
  rw [look_of_mem nd hp]; rfl
theorem str_at {zs : List Str} {i : Nat} {z : Str} {x : V} (hz : zs[i]? = some z) (hx : (zs.map V.str)[i]? = some x) : x = .str z := by
  rw [List.getElem?_map, hz] at hx
  injection hx with hx
  exact hx.symm
theorem show_fits {cs : List Str} {f : Str → Row} {zs : List Str} (g : GX cs f zs) : (((linesW cs f zs).map lineX).map fun x => x.length).sum + ((linesW cs f zs).map lineX).length * ("\n" : Str).length ≤ 16777216 := by
  have h1 := sum_le (b := 592) (ws := (linesW cs f zs).map lineX) fun z hz => by
    obtain ⟨ws, hw, rfl⟩ := List.mem_map.mp hz
    exact lineX_len (g.wd ws hw).2.1 (g.wd ws hw).2.2
  have h2 : ((linesW cs f zs).map lineX).length ≤ 41 := by
    rw [List.length_map]
    show (zs.map _).length + 1 ≤ 41
    rw [List.length_map]
    have := g.len; omega
  have h3 : ("\n" : Str).length = 1 := rfl
  rw [h3]
  omega
section
variable {P : Program} {w : World} {K : PySem.W.Frag} {mg : Str → Option Value} {base : Heap} {A : Ad}
/-- a def that may be called by position and by keywords -/
theorem fnr2 {f : Addr} {sp : Sp} {k : Nat} {x qual : Str} {st : Stmt} {N ps : List Str} (F : FunE K x qual st f) (S : FnScope N ps (defScope st))
    (hb : ∀ (kV doc pm : Value) (an : Option Addr) (cdv ct : Value) (us : List Value), us.length = ps.length → bindArgs (PySem.W.fnOf x qual (defArgs st) (defBody st) (defScope st) .none kV doc pm an cdv ct) ⟨us, []⟩ = pure (ps.zip us))
    (hk : ∀ (kV doc pm : Value) (an : Option Addr) (cdv ct : Value) (us ws : List Value), us.length = 0 → ws.length = ps.length → bindArgs (PySem.W.fnOf x qual (defArgs st) (defBody st) (defScope st) .none kV doc pm an cdv ct) ⟨us, ps.zip ws⟩ = pure (ps.zip (us ++ ws)))
    (len : ∀ vs H Q E, sp vs H Q E → vs.length = ps.length)
    (hbody : ∀ (cdv : Value) (A : Around) (outer : List Env) (s : Shared) (H : Hp) (vs : List V) (Q : VK) (E : XK), Room k (A.deeper (envOfC qual (defScope st) s.heap.objs.size f cdv)) → sp vs H Q E →
      ∃ t, PSs (cxOf CX0 P w K mg base N qual (defScope st) f cdv A outer s H E).nox (defBody st) t ∧ t { nx := fun _ H' => Q .non H', rt := Q } (start N vs) H) : FnR P w K mg base CX0 (k + 1) f sp ∧ FnK P w K mg base CX0 (k + 1) f 0 ps sp :=
  ⟨fnr F S hb len hbody, fnrk (n := 0) (ks := ps) F S hk len hbody⟩
def sp_show (A : Ad) : Sp := fun vs H Q _ => ∃ (a d : Addr) (cs : List Str) (rs : Rows), vs = [.ref a] ∧ Tbl A H a d cs rs ∧ ∀ zs H', Same H H' → zs.Perm (rs.map (·.1)) → sortedS zs = true → Q (.str (showX cs (atL rs) zs)) H'
theorem ok_show2 (T : Tx P K mg A) : FnR P w K mg base CX0 8 A.f_show_table (sp_show A) ∧ FnK P w K mg base CX0 8 A.f_show_table 0 ["table"] (sp_show A) := by
  refine fnr2 T.F_show_table sc_show_table (fun _ _ _ _ _ _ us hl => match us, hl with | [_], _ => rfl) (fun _ _ _ _ _ _ us ws h1 h2 => match us, h1, ws, h2 with | [], _, [_], _ => rfl) (fun vs H Q E h => ?_) (fun cdv A' outer s H vs Q E hr h => ?_)
  · obtain ⟨a, d, cs, rs, rfl, _⟩ := h; rfl
  · obtain ⟨a, d, cs, rs, rfl, ht, k⟩ := h
    refine ⟨_, pss_cons (ps_set (i := 1) sc_show_table.nd rfl (.inl rfl) (pe_lst (pa_cons (pe_join pe_str (pe_lst (pa_cons pe_str (StX.pa_star (pe_fld (pv 0) rfl) pa_nil)))) pa_nil)))
      (pss_cons (ps_expr (pe_bm PySem.F.plainAttrs_list PySem.F.slot_list_extend PySem.F.type_list_extend mt_extend (pv 1) (pa_cons (pe_lc (own := [("place", 2)]) (g := gName 2) (tt := tYes) rfl sc_show_table.nd (pi_tup (pe_prp (pv 0) T.clT T.placesP (ok_places T) (hr.mono (by decide)) noErr)) (blkOk_by (N := ["table", "lines", "place"]) (sc := defScope s_show_table) (by decide +kernel)) (fun _ _ _ _ _ => pg_name (i := 2) sc_show_table.nd rfl (Or.inl rfl)) (fun _ _ _ _ _ => pts_nil) (fun _ _ _ _ _ => (pe_cl (ok_rowt T) (hr.mono (by decide)) (by rfl) T.mg_row_text T.kp_row_text pass0 (pa_cons pe_str (pa_cons (pv 2) (pa_cons (pv 0) pa_nil)))))) pa_nil)))
      (pss_one (ps_ret (pe_join pe_str (pv 1))))), ?_⟩
    obtain ⟨g, ⟨dx, tc, h1, h2⟩, hR⟩ := id ht
    have gl := g.len
    have c3 := g.col.hi
    have wd0 : ∀ z ∈ ("columns" : Str) :: cs, Wd z := fun z hz => by
      rcases List.mem_cons.mp hz with rfl | hz
      · exact kw_col
      · exact nm_wd (g.col.nm z hz)
    refine ⟨⟨_, rfl⟩, _, rfl, a, _, dx, _, _, rfl, h1, T.clT, T.nCol, lkc tc d, tc, _, rfl, .inl (SqT.of h2), ?_⟩
    show _ ≤ sizeLine ∧ _
    rw [List.append_nil]
    refine ⟨sz (by rw [List.length_cons, List.length_map]; omega), fun p1 hp1 => ?_⟩
    have s1 := Same.new (o := .lst ((("columns" : Str) :: cs).map V.str)) hp1
    refine ⟨_, p1, _, rfl, rfl, .inl (SqL.of upd_same), line_fits (by rw [List.length_cons]; omega) wd0, ⟨sz (by show 1 ≤ 1000000; omega), fun l hl => ?_⟩⟩
    have s2 := Same.new (o := .lst [V.str (lineX ((("columns" : Str) :: cs)))]) hl
    have s02 := s1.trans s2
    have hl0 := s1.free hl
    refine ⟨_, rfl, .inl ⟨rfl, _, SqL.of upd_same⟩, _, rfl, a, dx, _, rfl, s02 _ _ h1, a, d, cs, rs, rfl, ht.same s02, fun p2 H3 zs s3 hp2 pz so v3 => ?_⟩
    have s03 := s02.trans s3
    have vl := s3 _ _ (upd_same : (upd (upd H p1 _) l (.lst [V.str (lineX (("columns" : Str) :: cs))])) l = _)
    have t3 := ht.same s03
    have lz : zs.length ≤ 40 := by rw [pz.length_eq, List.length_map]; exact gl
    refine ⟨p2, rfl, ⟨_, SqT.of v3⟩, fun D hD => lc_txs (walk_tup (K := K) (a := p2) (xs := zs.map V.str)) zs (List.length_map _).symm (fun z => lineX (rowW "row" z cs (atL rs z))) hD (fun H' s => SqT.of (s _ _ v3)) (by rw [List.length_map]; exact szl (by omega)) ?_ g_name_mono ?_⟩
    · rintro i z x Ha Hb hz sa ⟨rfl, hx⟩
      cases str_at hz hx
      exact ⟨Same.refl _, rfl, Same.refl _, fun Q' hQ => ⟨_, rfl, _, rfl, "row", z, a, d, cs, rs, atL rs z, rfl, t3.same sa, look_atL g.nd (pz.subset (List.mem_of_getElem? hz)), kw_row, hQ⟩⟩
    · intro H4 s4 v4
      have vl4 := s4 _ _ vl
      refine ⟨l, D, _, _, rfl, rfl, vl4, v4, sz (by rw [List.length_map, List.length_map]; show 1 + _ ≤ _; omega), ?_⟩
      have s5 : Same H (upd H4 l (.lst ([V.str (lineX (("columns" : Str) :: cs))] ++ (zs.map fun z => lineX (rowW "row" z cs (atL rs z))).map V.str))) := Same.mut (s03.trans s4) hl0
      have v5 : (upd H4 l (.lst ([V.str (lineX (("columns" : Str) :: cs))] ++ (zs.map fun z => lineX (rowW "row" z cs (atL rs z))).map V.str))) l = some (.lst (((linesW cs (atL rs) zs).map lineX).map V.str)) := by
        rw [upd_same]
        unfold linesW
        rw [List.map_cons, List.map_cons, List.map_map, List.map_map, List.map_map]
        rfl
      generalize upd H4 l _ = H5 at s5 v5
      exact ⟨⟨_, rfl⟩, _, rfl, _, l, _, rfl, rfl, .inl (SqL.of v5), show_fits (g.gx pz so), k zs H5 s5 pz so⟩
theorem ok_show (T : Tx P K mg A) : FnR P w K mg base CX0 8 A.f_show_table (sp_show A) := (ok_show2 T).1
end
end NK

namespace NK
open PySem PySem.Spec PyProof.Rows L2 NA TL
/-- [x for x in d], d a dict of rows -/
theorem v_keys {σ : L2.St} {id i : Nat} {H : Hp} {d : Addr} {rs : Rows} {Q : VK} (hR : Rws H d rs) (h64 : rs.length < 64) (hσ : σ[id]? = some (some (.ref d))) (h1 : ∀ x, wipe ((wipe σ [i]).set i (some x)) [i] = wipe σ [i]) (h2 : ∀ x, ((wipe σ [i]).set i (some x))[i]? = some (some x)) (te : TE)
    (hte : ∀ z σ' H' (Q' : VK), σ'[i]? = some (some (.str z)) → Q' (.str z) H' → te σ' H' Q')
    (k : ∀ p H', H p = none → Same H H' → H' p = some (.lst ((rs.map (·.1)).map V.str)) → Q (.ref p) H') :
    tLockE (tLc (iKeys (tVar id)) (gName i) tYes te [i]) σ H Q := by
  obtain ⟨kvs, hK⟩ := hR
  have hd := hK.1
  obtain ⟨q1, q2, q3, q4, q5⟩ := hK.pt
  have hlen : kvs.length = rs.length := hK.2.length
  refine ⟨d, _, hd, trivial, fun od => ⟨_, hσ, d, od, rfl, .inl ⟨kvs, upd_same, fun D hD => ?_⟩⟩⟩
  refine lc_txs (walk_keys (d := d) (o := od) (kvs := kvs)) (rs.map (·.1)) (by rw [List.length_map, hlen]) (fun z => z) hD (fun H3 s3 => s3 _ _ upd_same) (by rw [hlen]; exact szl (by omega)) ?_ g_name_mono ?_
  · rintro j z x H3 H4 hz s3 ⟨rfl, key, v, e, rfl⟩
    have ek : (rs.map (fun p => (Sum.inr p.1 : Key)))[j]? = some key := by rw [← q2, List.getElem?_map, e]; rfl
    rw [List.getElem?_map] at ek hz
    obtain ⟨q, hq, rfl⟩ := Option.map_eq_some_iff.mp ek
    rw [hq] at hz
    injection hz with hz
    subst hz
    exact ⟨Same.refl _, h1 _, Same.refl _, fun Q' hQ => hte q.1 _ _ _ (h2 _) (hQ _ (Same.refl _))⟩
  · intro H3 s3 e3
    have e3 : H3 D = some (.lst ((rs.map (·.1)).map V.str)) := by rw [e3, List.map_id']
    have sU := Same.unlock hd s3
    have hnd : D ≠ d := fun z => by subst z; rw [upd_same] at hD; cases hD
    have hD0 : H D = none := by rw [upd_ne hnd] at hD; exact hD
    exact ⟨s3 _ _ upd_same, k D _ hD0 sU (by rw [upd_ne hnd]; exact e3)⟩
/-- sorted([str(x) for x in d]), d a dict of rows -/
theorem v_skeys {K : PySem.W.Frag} {σ : L2.St} {id i : Nat} {H : Hp} {d : Addr} {rs : Rows} {Q : VK} (hR : Rws H d rs) (h64 : rs.length < 64) (hσ : σ[id]? = some (some (.ref d))) (h1 : ∀ x, wipe ((wipe σ [i]).set i (some x)) [i] = wipe σ [i]) (h2 : ∀ x, ((wipe σ [i]).set i (some x))[i]? = some (some x))
    (k : ∀ zs p H', H p = none → Same H H' → zs.Perm (rs.map (·.1)) → sortedS zs = true → H' p = some (.lst (zs.map V.str)) → Q (.ref p) H') :
    tCB (rSortedS K) (tCons (tLockE (tLc (iKeys (tVar id)) (gName i) tYes (tCB (fun xs H Q => ∃ a, xs = [.str a] ∧ Q (.str a) H) (tCons (tVar i) tNil)) [i])) tNil) σ H Q := by
  refine v_keys hR h64 hσ h1 h2 _ (fun z σ' H' Q' hz hq => ⟨_, hz, z, rfl, hq⟩) fun D H3 hD s3 e3 => ?_
  exact ⟨D, rs.map (·.1), rfl, SqL.of e3, by rw [List.length_map]; exact h64, fun zs p hp hs hpn => k zs p _ (s3.free hpn) (s3.trans (Same.new hpn)) hp hs upd_same⟩
section
variable {P : Program} {w : World} {K : PySem.W.Frag} {mg : Str → Option Value} {base : Heap} {A : Ad}
def sp_lline : Sp := fun vs H Q _ => ∃ (wd t : Str) (b lt : Addr) (cs : List Str) (r : Row), vs = [.str wd, .str t, .ref b, .ref lt] ∧ H lt = some (.lst (cs.map V.str)) ∧ Cel H b r ∧ GCol cs ∧ Wd wd ∧ Wd t ∧ (∀ p ∈ r, isNm p.2 = true) ∧
  ∀ H', Same H H' → Q (.str (lineX (rowW wd t cs r))) H'
theorem ok_lline (T : Tx P K mg A) : FnR P w K mg base CX0 1 A.f_law_line sp_lline := by
  refine fnr T.F_law_line sc_law_line (fun _ _ _ _ _ _ us hl => match us, hl with | [_, _, _, _], _ => rfl) (fun vs H Q E h => ?_) (fun cdv A' outer s H vs Q E hr h => ?_)
  · obtain ⟨wd, t, b, lt, cs, r, rfl, _⟩ := h; rfl
  · obtain ⟨wd, t, b, lt, cs, r, rfl, hlt, cb, gc, hw, hwt, hnm, k⟩ := h
    refine ⟨_, pss_cons (ps_set (i := 4) sc_law_line.nd rfl (.inl rfl) (pe_lst (pa_cons (pv 0) (pa_cons (pv 1) pa_nil))))
      (pss_cons (ps_for PassesOwn.never rfl (pi_list (pv 3)) (pg_name (i := 5) sc_law_line.nd rfl (.inl rfl))
        (pss_one (ps_if (pt_cmp (pc_din (hu_of hr) (pv 5) (pv 2))) (pss_one (ps_set (i := 4) sc_law_line.nd rfl (.inl rfl) (pe_op op_cat (pv 4) (pe_lst (pa_cons (pv 5) (pa_cons (pe_dget (hu_of hr) (pv 2) (pv 5) (fun _ _ => rfl)) pa_nil)))))) pss_nil)))
      (pss_one (ps_ret (pe_join pe_str (pv 4))))), ?_⟩
    have c3 := gc.hi
    refine ⟨_, rfl, _, rfl, sz (by show 2 ≤ 1000000; omega), fun l hl0 => ?_⟩
    have s1 := Same.new (o := .lst [V.str wd, .str t]) hl0
    have v1 : (upd H l (.lst [V.str wd, .str t])) l = some (.lst [V.str wd, .str t]) := upd_same
    generalize upd H l (.lst [V.str wd, .str t]) = H1 at s1 v1
    refine ⟨_, rfl, lt, rfl, ⟨_, SqL.of (s1 _ _ hlt)⟩, ?_⟩
    refine for_list (K := K) (a := lt) (xs := cs.map V.str) (fun i σ H' => Same H H' ∧ (∃ l, H' l = some (.lst ((rowW wd t (cs.take i) r).map V.str)) ∧ ∃ v, σ = [some (.str wd), some (.str t), some (.ref b), some (.ref lt), some (.ref l), v]))
      ⟨s1, l, v1, _, rfl⟩ (fun i σ H' _ q => SqL.of (q.1 _ _ hlt)) ?_ ?_
    · rintro i y σ H3 hy ⟨s3, l3, hl3, v, rfl⟩
      rw [List.getElem?_map] at hy
      obtain ⟨c, hc, rfl⟩ := Option.map_eq_some_iff.mp hy
      have hi : i < cs.length := (List.getElem?_eq_some_iff.mp hc).1
      have cb3 := cb.same s3
      have dgC := DGet.k (k := Sum.inr c) cb3.2
      rw [cel_val] at dgC
      refine ⟨_, rfl, _, rfl, b, _, rfl, dgC, _, rfl, ?_⟩
      have hw1 : rowW wd t (cs.take (i + 1)) r = rowW wd t (cs.take i) r ++ flatR (match look r c with | some v => [(c, v)] | none => []) := by
        unfold rowW
        rw [prs_snoc hc, flatR_app]; rfl
      cases e : look r c with
      | none =>
        rw [e] at hw1
        refine iteF ⟨s3, l3, by rw [hw1]; simpa [flatR] using hl3, _, rfl⟩
      | some x =>
        rw [e] at dgC hw1
        refine iteT ?_
        have hlen : ((rowW wd t (cs.take i) r).map V.str).length ≤ 8 := by
          rw [List.length_map]
          have h4 := prs_len (cs.take i) r
          rw [List.length_take] at h4
          show (flatR (prs (cs.take i) r)).length + 1 + 1 ≤ 8
          rw [flatR_len]; omega
        refine ⟨_, rfl, _, rfl, _, rfl, _, rfl, b, _, rfl, dgC, sz (by show 2 ≤ 1000000; omega), fun q hq => ?_⟩
        have s4 := Same.new (o := .lst [V.str c, .str x]) hq
        refine ⟨l3, q, _, _, rfl, rfl, s4 _ _ hl3, upd_same, sz (by show _ + 2 ≤ 1000000; omega), fun p hp => ?_⟩
        refine ⟨(s3.trans s4).trans (Same.new hp), p, ?_, _, rfl⟩
        rw [upd_same, hw1, List.map_append]; rfl
    · rintro σ H3 ⟨s3, l3, hl3, v, rfl⟩
      rw [List.length_map, List.take_length] at hl3
      have hle : (rowW wd t cs r).length ≤ 8 := by
        have h4 := prs_len cs r
        show (flatR (prs cs r)).length + 1 + 1 ≤ 8
        rw [flatR_len]; omega
      exact ⟨⟨_, rfl⟩, _, rfl, _, l3, _, rfl, rfl, .inl (SqL.of hl3), line_fits hle (row_wd hw hwt gc hnm), k H3 s3⟩
def sp_ltext : Sp := fun vs H Q _ => ∃ (lt d : Addr) (cs : List Str) (rs : Rows), vs = [.ref lt, .ref d] ∧ H lt = some (.lst (cs.map V.str)) ∧ Rws H d rs ∧ GTb cs rs ∧
  ∀ zs H', Same H H' → zs.Perm (rs.map (·.1)) → sortedS zs = true → Q (.str (showX cs (atL rs) zs)) H'
theorem ok_ltext (T : Tx P K mg A) : FnR P w K mg base CX0 2 A.f_law_text sp_ltext := by
  refine fnr T.F_law_text sc_law_text (fun _ _ _ _ _ _ us hl => match us, hl with | [_, _], _ => rfl) (fun vs H Q E h => ?_) (fun cdv A' outer s H vs Q E hr h => ?_)
  · obtain ⟨lt, d, cs, rs, rfl, _⟩ := h; rfl
  · obtain ⟨lt, d, cs, rs, rfl, hlt, hR, g, k⟩ := h
    refine ⟨_, pss_cons (ps_set (i := 2) sc_law_text.nd rfl (.inl rfl) (pe_lst (pa_cons (pe_join pe_str (pe_op op_cat (pe_lst (pa_cons pe_str pa_nil)) (pv 0))) pa_nil)))
      (pss_cons (ps_set (i := 2) sc_law_text.nd rfl (.inl rfl) (pe_op op_cat (pv 2) (pe_lc (own := [("_law_place", 3)]) (g := gName 3) (tt := tYes) rfl sc_law_text.nd (pi_list (pe_callB cr_sortedS (by rfl) T.z_sorted (by decide +kernel) (pa_cons (pe_lock (pe_lc (own := [("_law_place", 3)]) (g := gName 3) (tt := tYes) rfl sc_law_text.nd (pi_keys (pv 1)) (blkOk_by (N := ["_law_columns", "_law_rows", "_law_lines", "_law_place"]) (sc := defScope s_law_text) (by decide +kernel)) (fun _ _ _ _ _ => pg_name (i := 3) sc_law_text.nd rfl (Or.inl rfl)) (fun _ _ _ _ _ => pts_nil) (fun _ _ _ _ _ => (pe_callTy SkE.call_str_str (by rfl) T.z_str (by decide +kernel) (pa_cons (pv 3) pa_nil))))) pa_nil))) (blkOk_by (N := ["_law_columns", "_law_rows", "_law_lines", "_law_place"]) (sc := defScope s_law_text) (by decide +kernel)) (fun _ _ _ _ _ => pg_name (i := 3) sc_law_text.nd rfl (Or.inl rfl)) (fun _ _ _ _ _ => pts_nil) (fun _ _ _ _ _ => (pe_cl (ok_lline T) (hr.mono (by decide)) (by rfl) T.mg_law_line T.kp_law_line pass0 (pa_cons pe_str (pa_cons (pv 3) (pa_cons (pe_dget (hu_of hr) (pv 1) (pv 3) (fun _ _ => rfl)) (pa_cons (pv 0) pa_nil)))))))))
      (pss_one (ps_ret (pe_join pe_str (pv 2))))), ?_⟩
    have gl := g.len
    have c3 := g.col.hi
    have wd0 : ∀ z ∈ ("columns" : Str) :: cs, Wd z := fun z hz => by
      rcases List.mem_cons.mp hz with rfl | hz
      · exact kw_col
      · exact nm_wd (g.col.nm z hz)
    refine ⟨⟨_, rfl⟩, sz (by show 1 ≤ 1000000; omega), fun p0 hp0 => ⟨_, rfl, ?_⟩⟩
    have s0 := Same.new (o := .lst [V.str "columns"]) hp0
    refine ⟨p0, lt, [.str "columns"], cs.map V.str, rfl, rfl, upd_same, s0 _ _ hlt, sz (by rw [List.length_map]; show 1 + _ ≤ 1000000; omega), fun p1 hp1 => ?_⟩
    have s1 := Same.new (o := .lst ([V.str "columns"] ++ cs.map V.str)) hp1
    have s01 := s0.trans s1
    refine ⟨_, p1, ("columns" : Str) :: cs, rfl, rfl, .inl (SqL.of upd_same), line_fits (by rw [List.length_cons]; omega) wd0, ⟨sz (by show 1 ≤ 1000000; omega), fun l hl => ?_⟩⟩
    have s2 := Same.new (o := .lst [V.str (lineX (("columns" : Str) :: cs))]) hl
    have s02 := s01.trans s2
    have vl : (upd (upd (upd H p0 (.lst [V.str "columns"])) p1 (.lst ([V.str "columns"] ++ cs.map V.str))) l (.lst [V.str (lineX (("columns" : Str) :: cs))])) l = some (.lst [V.str (lineX (("columns" : Str) :: cs))]) := upd_same
    refine ⟨_, rfl, ?_⟩
    refine v_skeys (hR.same s02) (by omega) rfl (fun _ => rfl) (fun _ => rfl) fun zs p3 H3 hp3 s3 pz so v3 => ?_
    have s03 := s02.trans s3
    have vl3 := s3 _ _ vl
    have lz : zs.length ≤ 40 := by rw [pz.length_eq, List.length_map]; exact gl
    refine ⟨p3, rfl, ⟨_, SqL.of v3⟩, fun D hD => lc_txs (walk_list (K := K) (a := p3) (xs := zs.map V.str)) zs (List.length_map _).symm (fun z => lineX (rowW "row" z cs (atL rs z))) hD (fun H' s => SqL.of (s _ _ v3)) (by rw [List.length_map]; exact szl (by omega)) ?_ g_name_mono ?_⟩
    · rintro i z x Ha Hb hz sa ⟨rfl, hx⟩
      cases str_at hz hx
      have hz' := pz.subset (List.mem_of_getElem? hz)
      have lk := look_atL g.nd hz'
      obtain ⟨kvs, hK⟩ := hR.same (s03.trans sa)
      obtain ⟨b, eb, cb⟩ := hK.2.some _ _ lk
      have dg := DGet.k (k := Sum.inr z) hK.1
      rw [eb] at dg
      obtain ⟨gx, _, gr⟩ := g.row _ (look_mem lk)
      exact ⟨Same.refl _, rfl, Same.refl _, fun Q' hQ => ⟨_, rfl, _, rfl, _, rfl, d, _, rfl, dg, _, rfl, "row", z, b, lt, cs, atL rs z, rfl, (s03.trans sa) _ _ hlt, cb, g.col, kw_row, tx_wd gx, fun p hp => (gr.2.2 p hp).2, hQ⟩⟩
    · intro H4 s4 v4
      refine ⟨l, D, _, _, rfl, rfl, s4 _ _ vl3, v4, sz (by rw [List.length_map, List.length_map]; show 1 + _ ≤ _; omega), fun p5 hp5 => ?_⟩
      have s5 := Same.new (o := .lst ([V.str (lineX (("columns" : Str) :: cs))] ++ (zs.map fun z => lineX (rowW "row" z cs (atL rs z))).map V.str)) hp5
      have v5 : (upd H4 p5 (.lst ([V.str (lineX (("columns" : Str) :: cs))] ++ (zs.map fun z => lineX (rowW "row" z cs (atL rs z))).map V.str))) p5 = some (.lst (((linesW cs (atL rs) zs).map lineX).map V.str)) := by
        rw [upd_same]
        unfold linesW
        rw [List.map_cons, List.map_cons, List.map_map, List.map_map, List.map_map]
        rfl
      exact ⟨⟨_, rfl⟩, _, rfl, _, p5, _, rfl, rfl, .inl (SqL.of v5), show_fits (g.gx pz so), k zs _ ((s03.trans s4).trans s5) pz so⟩
end
end NK

namespace NK
open PySem PySem.Spec PyProof.Rows L2 NA TL
theorem joinL_snoc : ∀ (ps : List (List Nat)) (p : List Nat), ps ≠ [] → joinL [47] (ps ++ [p]) = joinL [47] ps ++ 47 :: p
  | [], _, h => absurd rfl h
  | [q], p, _ => by simp [joinL]
  | q :: r :: ps, p, _ => by
    have ih := joinL_snoc (r :: ps) p (by simp)
    rw [show joinL [47] (q :: r :: ps) = q ++ 47 :: joinL [47] (r :: ps) from by simp [joinL]]
    rw [show (q :: r :: ps) ++ [p] = q :: r :: (ps ++ [p]) from rfl, show joinL [47] (q :: r :: (ps ++ [p])) = q ++ 47 :: joinL [47] (r :: (ps ++ [p])) from by simp [joinL]]
    rw [show r :: (ps ++ [p]) = (r :: ps) ++ [p] from rfl, ih]
    simp
theorem txt_one (n : Str) : "/" ++ n = txt [n] := ext_tl (by rw [tl_append, slash_tl, txt_tl]; simp [joinL])
theorem txt_snoc {ns : List Str} (h : ns ≠ []) (n : Str) : txt ns ++ "/" ++ n = txt (ns ++ [n]) := ext_tl (by
  rw [tl_append, tl_append, slash_tl, txt_tl, txt_tl, List.map_append]
  rw [show [n].map tl = [tl n] from rfl, joinL_snoc _ _ (fun z => h (List.map_eq_nil_iff.mp z))]
  simp)
theorem txt_root {ns : List Str} (g : Good ns) : txt ns = "/" ↔ ns = [] := by
  constructor
  · intro h
    rw [← names_txt g.2, h]
    unfold namesIn
    rw [if_pos rfl]
  · rintro rfl
    exact ext_tl (by rw [txt_tl, slash_tl]; simp [joinL_nil])
abbrev txs (NS : List (List Str)) : List V := NS.map fun ns => V.str (txt ns)
theorem erase_map {α β : Type} (f : α → β) (l : List α) (d : Nat) : (l.map f).eraseIdx d = (l.eraseIdx d).map f := by
  rw [List.eraseIdx_eq_take_drop_succ, List.eraseIdx_eq_take_drop_succ, List.map_append, List.map_take, List.map_drop]
theorem erase_perm {α : Type} {l ns : List α} {d : Nat} {x : α} (h : l[d]? = some x) : ((ns ++ [x]) ++ l.eraseIdx d).Perm (ns ++ l) := by
  rw [List.eraseIdx_eq_take_drop_succ, List.append_assoc]
  refine List.Perm.append_left ns ?_
  obtain ⟨hd, rfl⟩ := List.getElem?_eq_some_iff.mp h
  have e : l = l.take d ++ l[d] :: l.drop (d + 1) := by rw [← List.drop_eq_getElem_cons hd, List.take_append_drop]
  rw [show [l[d]] ++ (l.take d ++ l.drop (d + 1)) = l[d] :: (l.take d ++ l.drop (d + 1)) from rfl]
  exact List.perm_middle.symm.trans (List.Perm.of_eq e.symm)
theorem seq_nat {n d : Nat} (h : d < n) : seqIndex? (d : Int) n = some d := by
  rw [seqIndex_of (by omega) (by omega)]; rfl
theorem Sam.free {p q : Addr} {H H' : Hp} (e : Sam p H H') (n : q ≠ p) (h : H' q = none) : H q = none := by
  cases hq : H q with
  | none => rfl
  | some o => have := e _ _ n hq; rw [h] at this; cases this
section
variable {P : Program} {w : World} {K : PySem.W.Frag} {mg : Str → Option Value} {base : Heap} {A : Ad}
def sp_lbelow : Sp := fun vs H Q _ => ∃ (ns : List Str) (n : Str), vs = [.str (txt ns), .str n] ∧ Good ns ∧ isNm n = true ∧ Q (.str (txt (ns ++ [n]))) H
theorem ok_lbelow (T : Tx P K mg A) : FnR P w K mg base CX0 1 A.f_law_below sp_lbelow := by
  refine fnr T.F_law_below sc_law_below (fun _ _ _ _ _ _ us hl => match us, hl with | [_, _], _ => rfl) (fun vs H Q E h => ?_) (fun cdv A' outer s H vs Q E hr h => ?_)
  · obtain ⟨ns, n, rfl, _⟩ := h; rfl
  · obtain ⟨ns, n, rfl, g, hn, k⟩ := h
    refine ⟨_, pss_one (ps_ret (pe_op op_add_str (pe_op op_add_str (pv 0) (pe_op op_mul_str pe_str (pe_callTy call_int1 (by rfl) T.z_int (by decide +kernel) (pa_cons (pe_cmpR op_ne (pv 0) pe_str (nomark _)) pa_nil)))) (pv 1))), ?_⟩
    have nl8 := (isNm_iff.mp hn).2.1
    have tl1 := txt_len g
    refine ⟨_, rfl, _, rfl, rfl, .inr ⟨_, rfl, "/", _, rfl, rfl, ?_, ?_⟩⟩
    · split
      · exact .inr rfl
      · exact .inl rfl
    by_cases hz : ns = []
    · have e1 : (!decide (V.str (txt ns) = V.str "/")) = false := by rw [(txt_root g).mpr hz, decide_eq_true rfl]; rfl
      rw [e1]
      have e2 : txt ns ++ Str.empty ++ n = txt (ns ++ [n]) := by
        subst hz
        rw [List.nil_append, ← txt_one]
        exact ext_tl (by rw [tl_append, tl_append, tl_append, txt_tl, slash_tl, show tl Str.empty = [] from rfl]; simp [joinL_nil])
      refine ⟨_, _, rfl, rfl, ?_, _, rfl, _, _, rfl, rfl, ?_, ?_⟩
      · exact sz (by show (txt ns).length + (Str.empty).length ≤ _; rw [show (Str.empty).length = 0 from rfl]; omega)
      · exact sz (by show (txt ns ++ Str.empty).length + n.length ≤ _; rw [strLen_append, show (Str.empty).length = 0 from rfl]; omega)
      · show Q (.str (txt ns ++ Str.empty ++ n)) H
        rw [e2]; exact k
    · have e1 : (!decide (V.str (txt ns) = V.str "/")) = true := by
        rw [decide_eq_false fun z => hz ((txt_root g).mp (by injection z))]; rfl
      rw [e1]
      refine ⟨_, _, rfl, rfl, ?_, _, rfl, _, _, rfl, rfl, ?_, ?_⟩
      · exact sz (by show (txt ns).length + ("/" : Str).length ≤ _; rw [slash_len]; omega)
      · exact sz (by show (txt ns ++ "/").length + n.length ≤ _; rw [strLen_append, slash_len]; omega)
      · show Q (.str (txt ns ++ "/" ++ n)) H
        rw [txt_snoc hz]; exact k
def NmSets : List (List Str) := [["a", "ab", "a0", "b", "b0b", "abcdefgh"], ["0", "00", "000", "1", "a", "10"], ["place", "row", "self", "first", "order", "none"], ["r", "w", "x", "rw", "z", "zz"]]
def sp_lnames : Sp := fun vs H Q _ => ∃ (pn L : Addr) (b : Nat), vs = [.ref pn] ∧ Pen L H pn (b + 7) ∧ ∀ l (ns : List Str) H', H l = none → Sam pn H H' → Pen L H' pn b → H' l = some (.lst (ns.map V.str)) → ns.length = 6 → ns.Nodup → (∀ n ∈ ns, isNm n = true) → Q (.ref l) H'
theorem ok_lnames (T : Tx P K mg A) : FnR P w K mg base CX0 3 A.f_law_names sp_lnames := by
  refine fnr T.F_law_names sc_law_names (fun _ _ _ _ _ _ us hl => match us, hl with | [_], _ => rfl) (fun vs H Q E h => ?_) (fun cdv A' outer s H vs Q E hr h => ?_)
  · obtain ⟨pn, L, b, rfl, _⟩ := h; rfl
  · obtain ⟨pn, L, b, rfl, hp, k⟩ := h
    refine ⟨_, pss_cons (ps_set (i := 1) sc_law_names.nd rfl (.inr rfl) (pe_callTy call_list_of (by rfl) T.z_list (by decide +kernel) (pa_cons (pe_cl (ok_pick T) (hr.mono (by decide)) (by rfl) T.mg_law_pick T.kp_law_pick pass0 (pa_cons (pv 0) (pa_cons (pe_lst (pa_cons (pe_lst (pa_cons pe_str (pa_cons pe_str (pa_cons pe_str (pa_cons pe_str (pa_cons pe_str (pa_cons pe_str pa_nil))))))) (pa_cons (pe_lst (pa_cons pe_str (pa_cons pe_str (pa_cons pe_str (pa_cons pe_str (pa_cons pe_str (pa_cons pe_str pa_nil))))))) (pa_cons (pe_lst (pa_cons pe_str (pa_cons pe_str (pa_cons pe_str (pa_cons pe_str (pa_cons pe_str (pa_cons pe_str pa_nil))))))) (pa_cons (pe_lst (pa_cons pe_str (pa_cons pe_str (pa_cons pe_str (pa_cons pe_str (pa_cons pe_str (pa_cons pe_str pa_nil))))))) pa_nil))))) pa_nil))) pa_nil)))
      (pss_one (ps_ret (pe_lc (own := [("_law_k", 2)]) (g := gName 2) (tt := tYes) rfl sc_law_names.nd (pi_range1 (by rfl) T.z_range (pa_cons pe_int pa_nil)) (blkOk_by (N := ["_law_pen_here", "_law_left", "_law_k"]) (sc := defScope s_law_names) (by decide +kernel)) (fun _ _ _ _ _ => pg_name (i := 2) sc_law_names.nd rfl (Or.inl rfl)) (fun _ _ _ _ _ => pts_nil) (fun _ _ _ _ _ => (pe_bmK (K := K) rfl PySem.F.plainAttrs_list PySem.F.slot_list_pop PySem.F.type_list_pop mt_popAt (pv 1) (pa_cons (pe_cl (ok_draw T) (hr.mono (by decide)) (by rfl) T.mg_law_draw T.kp_law_draw pass0 (pa_cons (pv 0) (pa_cons (pe_callB (call_len_seqK (K := K) rfl) (by rfl) T.z_len PySem.boot_len (pa_cons (pv 1) pa_nil)) pa_nil))) pa_nil)))))), ?_⟩
    obtain ⟨xs0, hp0⟩ := hp.lst
    refine ⟨_, rfl, sz (by show 6 ≤ 1000000; omega), fun t1 h1 => ⟨sz (by show 6 ≤ 1000000; omega), fun t2 h2 => ⟨sz (by show 6 ≤ 1000000; omega), fun t3 h3 => ⟨sz (by show 6 ≤ 1000000; omega), fun t4 h4 => ⟨sz (by show 4 ≤ 1000000; omega), fun l hl => ?_⟩⟩⟩⟩⟩
    have a1 := Same.new (o := .lst ((["a", "ab", "a0", "b", "b0b", "abcdefgh"] : List Str).map V.str)) h1
    have a2 := Same.new (o := .lst ((["0", "00", "000", "1", "a", "10"] : List Str).map V.str)) h2
    have a3 := Same.new (o := .lst ((["place", "row", "self", "first", "order", "none"] : List Str).map V.str)) h3
    have a4 := Same.new (o := .lst ((["r", "w", "x", "rw", "z", "zz"] : List Str).map V.str)) h4
    have a5 := Same.new (o := .lst [V.ref t1, .ref t2, .ref t3, .ref t4]) hl
    have a15 := (((a1.trans a2).trans a3).trans a4).trans a5
    have npl : l ≠ pn := (ne_of_none ((((a1.trans a2).trans a3).trans a4) _ _ hp0) hl).symm
    have nt1 : t1 ≠ pn := (ne_of_none hp0 h1).symm
    have nt2 : t2 ≠ pn := (ne_of_none (a1 _ _ hp0) h2).symm
    have nt3 : t3 ≠ pn := (ne_of_none ((a1.trans a2) _ _ hp0) h3).symm
    have nt4 : t4 ≠ pn := (ne_of_none (((a1.trans a2).trans a3) _ _ hp0) h4).symm
    refine ⟨pn, L, l, _, b + 6, rfl, hp.same a15, upd_same, npl, by show 1 ≤ 4; omega, by show 4 ≤ 100000; omega, fun v H3 hv e3 p3 => ?_⟩
    obtain ⟨q, S, rfl, hq, nq, hS⟩ : ∃ q S, v = .ref q ∧ H3 q = some (.lst (S.map V.str)) ∧ q ≠ pn ∧ S ∈ NmSets := by
      simp only [List.mem_cons, List.not_mem_nil, or_false] at hv
      rcases hv with rfl | rfl | rfl | rfl
      · exact ⟨t1, _, rfl, e3 _ _ nt1 ((((a2.trans a3).trans a4).trans a5) _ _ upd_same), nt1, List.mem_cons_self ..⟩
      · exact ⟨t2, _, rfl, e3 _ _ nt2 (((a3.trans a4).trans a5) _ _ upd_same), nt2, List.mem_cons_of_mem _ (List.mem_cons_self ..)⟩
      · exact ⟨t3, _, rfl, e3 _ _ nt3 ((a4.trans a5) _ _ upd_same), nt3, List.mem_cons_of_mem _ (List.mem_cons_of_mem _ (List.mem_cons_self ..))⟩
      · exact ⟨t4, _, rfl, e3 _ _ nt4 (a5 _ _ upd_same), nt4, List.mem_cons_of_mem _ (List.mem_cons_of_mem _ (List.mem_cons_of_mem _ (List.mem_cons_self ..)))⟩
    have e03 : Sam pn H H3 := (Sam.of a15).trans e3
    clear hv h1 h2 h3 h4 hl a1 a2 a3 a4 a5 a15 npl nt1 nt2 nt3 nt4
    obtain ⟨s6, snd, snm⟩ : S.length = 6 ∧ S.Nodup ∧ ∀ n ∈ S, isNm n = true := by
      have : NmSets.all (fun S => decide (S.length = 6) && decide S.Nodup && S.all isNm) = true := by decide +kernel
      have := List.all_eq_true.mp this S hS
      simp only [Bool.and_eq_true, decide_eq_true_eq, List.all_eq_true] at this
      exact ⟨this.1.1, this.1.2, this.2⟩
    obtain ⟨xs3, hp3⟩ := p3.lst
    obtain ⟨xsL, hpL⟩ := p3.ints
    refine ⟨q, _, rfl, .inl (SqL.of hq), fun lf hlf => ?_⟩
    have nf : lf ≠ pn := (ne_of_none hp3 hlf).symm
    have nfL : lf ≠ L := (ne_of_none hpL hlf).symm
    have s4 := Same.new (o := .lst (S.map V.str)) hlf
    have v4 : (upd H3 lf (.lst (S.map V.str))) lf = some (.lst (S.map V.str)) := upd_same
    have p4 := p3.same s4
    generalize upd H3 lf (.lst (S.map V.str)) = H4 at s4 v4 p4
    have e04 := e03.trans (Sam.of s4)
    have f0 : H lf = none := Sam.free e03 nf hlf
    refine ⟨_, rfl, by decide, by decide, fun D hD => ?_⟩
    obtain ⟨xs4, hp4⟩ := p4.lst
    obtain ⟨ysL, hpL4⟩ := p4.ints
    have nD : D ≠ pn := (ne_of_none hp4 hD).symm
    have nDL : D ≠ L := (ne_of_none hpL4 hD).symm
    have nDf : lf ≠ D := ne_of_none v4 hD
    have fD : H D = none := Sam.free e04 nD hD
    refine lc_range (lo := 0) (n := (6 : Int).toNat) (fun j Hx => ∃ ns rest : List Str, Hx D = some (.lst (ns.map V.str)) ∧ Hx lf = some (.lst (rest.map V.str)) ∧ ns.length = j ∧ (ns ++ rest).Perm S ∧ Sam pn H Hx ∧ Pen L Hx pn (b + (6 - j)))
      ⟨[], S, upd_same, by rw [upd_ne nDf]; exact v4, rfl, .refl _, Sam.mut e04 fD, (p4.same (Same.new hD)).less (by omega)⟩ ?_ ?_
    · rintro j Hx hj ⟨ns, rest, hDx, hfx, hnl, pm, ex, px⟩
      have hj : j < 6 := hj
      have hlr : rest.length = 6 - j := by
        have := pm.length_eq
        rw [List.length_append, s6] at this
        omega
      refine ⟨rfl, ?_⟩
      unfold tYes
      dsimp only
      rw [if_pos rfl]
      refine ⟨_, rfl, .inl ⟨rfl, _, SqL.of hfx⟩, _, rfl, _, rfl, lf, _, rfl, .inl (SqL.of hfx), pn, L, _, b + (6 - (j + 1)), rfl, px.less (by omega), by rw [List.length_map]; omega, by rw [List.length_map]; omega, fun d H5 hd e5 p5 => ?_⟩
      rw [List.length_map] at hd
      have hdl : d < rest.length := by omega
      have hf5 := e5 _ _ nf hfx
      have hD5 := e5 _ _ nD hDx
      refine ⟨lf, _, _, d, .str rest[d], rfl, rfl, hf5, by omega, by omega, seq_nat (by rw [List.length_map]; exact hdl), by rw [List.getElem?_map, List.getElem?_eq_getElem hdl]; rfl, ?_⟩
      rw [erase_map]
      have hz : rest[d]? = some rest[d] := List.getElem?_eq_getElem hdl
      have ef := e5
      refine ⟨_, (by rw [upd_ne nDf.symm]; exact hD5), by rw [List.length_map]; exact szl (by omega), ns ++ [rest[d]], rest.eraseIdx d, by rw [upd_same, List.map_append]; rfl, by rw [upd_ne nDf, upd_same], by rw [List.length_append, List.length_singleton, hnl], (erase_perm hz).trans pm, Sam.mut (Sam.mut (ex.trans e5) f0) fD, (p5.mut nf nfL).mut nD ?_⟩
      exact nDL
    · rintro Hx ⟨ns, rest, hDx, hfx, hnl, pm, ex, px⟩
      have hnl : ns.length = 6 := hnl
      have hr0 : rest = [] := by
        have := pm.length_eq
        rw [List.length_append, s6, hnl] at this
        exact List.length_eq_zero_iff.mp (by omega)
      subst hr0
      rw [List.append_nil] at pm
      exact k D ns Hx fD ex (px.less (by omega)) hDx hnl (pm.nodup_iff.mpr snd) fun n hn => snm n (pm.subset hn)
end
end NK

namespace NK
open PySem PySem.Spec PyProof.Rows L2 NA TL
theorem split_path {ns : List Str} (hn : ns ≠ []) (g : ∀ n ∈ ns, isNm n = true) : Txt.split (txt ns) "/" = Str.empty :: ns := by
  have e : txt ns = Txt.join "/" (Str.empty :: ns) := ext_tl (by
    rw [txt_tl, join_tl]
    cases ns with
    | nil => exact (hn rfl).elim
    | cons a as =>
      rfl)
  rw [e]
  refine split_join (s := 47) (S := []) slash_tl (by decide +kernel) (List.cons_ne_nil _ _) fun p hp => ?_
  rcases List.mem_cons.mp hp with rfl | hp
  · exact List.not_mem_nil
  · exact isNm_slash (g p hp)
theorem path_len {ns : List Str} (h9 : ns.length ≤ 9) (g : ∀ n ∈ ns, isNm n = true) : (txt ns).length + 2 ≤ 1000000 := by
  rw [len_tl, txt_tl]
  have := joinL_len (ns.map tl) fun p hp => by
    obtain ⟨n, hn, rfl⟩ := List.mem_map.mp hp
    have := (isNm_iff.mp (g n hn)).2.1
    rw [len_tl] at this
    exact this
  rw [List.length_map] at this
  rw [List.length_cons]
  omega
/-- sorted([str(x) for x in l]) -/
theorem v_sortl {K : PySem.W.Frag} {σ : L2.St} {il i : Nat} {H : Hp} {l : Addr} {zs : List Str} {Q : VK} (hl : H l = some (.lst (zs.map V.str))) (h64 : zs.length < 64) (hσ : σ[il]? = some (some (.ref l))) (h1 : ∀ x, wipe ((wipe σ [i]).set i (some x)) [i] = wipe σ [i]) (h2 : ∀ x, ((wipe σ [i]).set i (some x))[i]? = some (some x))
    (k : ∀ ys p H', H p = none → Same H H' → ys.Perm zs → sortedS ys = true → H' p = some (.lst (ys.map V.str)) → Q (.ref p) H') :
    tCB (rSortedS K) (tCons (tLc (iList K (tVar il)) (gName i) tYes (tCB (fun xs H Q => ∃ a, xs = [.str a] ∧ Q (.str a) H) (tCons (tVar i) tNil)) [i]) tNil) σ H Q := by
  refine ⟨_, hσ, l, rfl, ⟨_, SqL.of hl⟩, fun D hD => lc_txs (walk_list (K := K) (a := l) (xs := zs.map V.str)) zs (List.length_map _).symm (fun z => z) hD (fun H' s => SqL.of (s _ _ hl)) (by rw [List.length_map]; exact szl (by omega)) ?_ g_name_mono ?_⟩
  · rintro j z x Ha Hb hz sa ⟨rfl, hx⟩
    cases str_at hz hx
    exact ⟨Same.refl _, h1 _, Same.refl _, fun Q' hQ => ⟨_, h2 _, z, rfl, hQ _ (Same.refl _)⟩⟩
  · intro H3 s3 e3
    rw [List.map_id'] at e3
    exact ⟨D, zs, rfl, SqL.of e3, h64, fun ys p hp hs hpn => k ys p _ (s3.free hpn) (s3.trans (Same.new hpn)) hp hs upd_same⟩
section
variable {P : Program} {w : World} {K : PySem.W.Frag} {mg : Str → Option Value} {base : Heap} {A : Ad}
def sp_lplaces : Sp := fun vs H Q _ => ∃ (pn L nl : Addr) (b : Nat) (NM : List Str), vs = [.ref pn, .ref nl, .int 6] ∧ Pen L H pn (b + 27) ∧ H nl = some (.lst (NM.map V.str)) ∧ nl ≠ pn ∧ NM.length = 6 ∧ (∀ n ∈ NM, isNm n = true) ∧
  ∀ p (zs : List Str) H', H p = none → Sam pn H H' → Pen L H' pn b → H' p = some (.lst (zs.map V.str)) → sortedS zs = true → zs.Nodup → (∀ z ∈ zs, isTx z = true) → zs.length ≤ 10 → Q (.ref p) H'
theorem ok_lplaces (T : Tx P K mg A) : FnR P w K mg base CX0 3 A.f_law_places sp_lplaces := by
  refine fnr T.F_law_places sc_law_places (fun _ _ _ _ _ _ us hl => match us, hl with | [_, _, _], _ => rfl) (fun vs H Q E h => ?_) (fun cdv A' outer s H vs Q E hr h => ?_)
  · obtain ⟨pn, L, nl, b, NM, rfl, _⟩ := h; rfl
  · obtain ⟨pn, L, nl, b, NM, rfl, hp, hnl, nnl, l6, hNM, k⟩ := h
    refine ⟨_, pss_cons (ps_set (i := 3) sc_law_places.nd rfl (.inl rfl) (pe_lst (pa_cons pe_str pa_nil)))
      (pss_cons (ps_for PassesOwn.never rfl (pi_range1 (by rfl) T.z_range (pa_cons (pv 2) pa_nil)) (pg_name (i := 4) sc_law_places.nd rfl (.inl rfl))
        (pss_cons (ps_set (i := 5) sc_law_places.nd rfl (.inl rfl) (pe_cl (ok_pick T) (hr.mono (by decide)) (by rfl) T.mg_law_pick T.kp_law_pick pass0 (pa_cons (pv 0) (pa_cons (pe_lst (pa_cons (pe_ix ix_list (pv 3) (pe_un un_neg pe_int) (fun _ _ => rfl)) (pa_cons (pe_ix ix_list (pv 3) (pe_cl (ok_draw T) (hr.mono (by decide)) (by rfl) T.mg_law_draw T.kp_law_draw pass0 (pa_cons (pv 0) (pa_cons (pe_callB (call_len_seqK (K := K) rfl) (by rfl) T.z_len PySem.boot_len (pa_cons (pv 3) pa_nil)) pa_nil))) (fun _ _ => rfl)) pa_nil))) pa_nil))))
      (pss_cons (ps_set (i := 6) sc_law_places.nd rfl (.inl rfl) (pe_cl (ok_lbelow T) (hr.mono (by decide)) (by rfl) T.mg_law_below T.kp_law_below pass0 (pa_cons (pv 5) (pa_cons (pe_cl (ok_pick T) (hr.mono (by decide)) (by rfl) T.mg_law_pick T.kp_law_pick pass0 (pa_cons (pv 0) (pa_cons (pv 1) pa_nil))) pa_nil))))
      (pss_one (ps_if (PW.pt (pw_and (pt_cmpR (r := rIn K true) op_notIn_seq (pv 6) (pv 3) (by rfl)) (pw_and1 (pt_cmpR op_lt (pe_callB (call_len_seqK (K := K) rfl) (by rfl) T.z_len PySem.boot_len (pa_cons (pe_split (pv 6) pe_str) pa_nil)) pe_int (nomark _))))) (pss_one (ps_expr (pe_bm PySem.F.plainAttrs_list PySem.F.slot_list_append PySem.F.type_list_append mt_append (pv 3) (pa_cons (pv 6) pa_nil)))) pss_nil)))))
      (pss_one (ps_ret (pe_callB cr_sortedS (by rfl) T.z_sorted (by decide +kernel) (pa_cons (pe_lc (own := [("_law_place", 6)]) (g := gName 6) (tt := tYes) rfl sc_law_places.nd (pi_list (pv 3)) (blkOk_by (N := ["_law_pen_here", "_law_names_here", "_law_most", "_law_found", "_law_turn", "_law_above", "_law_place"]) (sc := defScope s_law_places) (by decide +kernel)) (fun _ _ _ _ _ => pg_name (i := 6) sc_law_places.nd rfl (Or.inl rfl)) (fun _ _ _ _ _ => pts_nil) (fun _ _ _ _ _ => (pe_callTy SkE.call_str_str (by rfl) T.z_str (by decide +kernel) (pa_cons (pv 6) pa_nil)))) pa_nil))))), ?_⟩
    obtain ⟨xs0, hp0⟩ := hp.lst
    obtain ⟨xsL, hpL⟩ := hp.ints
    refine ⟨sz (by show 1 ≤ 1000000; omega), fun l hl => ?_⟩
    have s1 := Same.new (o := .lst [V.str "/"]) hl
    have nlp : l ≠ pn := (ne_of_none hp0 hl).symm
    have nlL : l ≠ L := (ne_of_none hpL hl).symm
    have nnll : nl ≠ l := ne_of_none hnl hl
    refine ⟨_, rfl, 6, rfl, by decide, by decide, for_range (n := (6 : Int).toNat) (fun j σ H' => Sam pn H H' ∧ Pen L H' pn (b + 3 * (9 - j)) ∧ H' nl = some (.lst (NM.map V.str)) ∧ ∃ NS u v w, H' l = some (.lst (txs NS)) ∧ NS ≠ [] ∧ NS.length ≤ j + 1 ∧ NS.Nodup ∧ (∀ ns ∈ NS, Good ns) ∧ σ = [some (.ref pn), some (.ref nl), some (.int 6), some (.ref l), u, v, w])
      ⟨Sam.of s1, (hp.same s1).less (by omega), s1 _ _ hnl, [[]], _, _, _, upd_same, List.cons_ne_nil _ _, Nat.le_refl _, by simp, fun ns hn => by rw [List.mem_singleton.mp hn]; exact good_nil, rfl⟩ ?_ ?_⟩
    · rintro j σ H3 hj ⟨e3, p3, hnl3, NS, u, v, w', h3, hne, hln, nd, gN, rfl⟩
      have hj6 : j < 6 := hj
      have hj : j < 9 := by omega
      obtain ⟨f, ef, ef2⟩ : ∃ f, b + 3 * (9 - j) = f + 3 ∧ f = b + 3 * (9 - (j + 1)) := ⟨b + 3 * (9 - (j + 1)), by omega, rfl⟩
      rw [ef] at p3
      obtain ⟨NS', x, eN⟩ : ∃ NS' x, NS = NS' ++ [x] := (List.eq_nil_or_concat NS).resolve_left hne |> fun ⟨a, b, h⟩ => ⟨a, b, by rw [h]; simp⟩
      have hx : x ∈ NS := by rw [eN]; simp
      have hlast : atI (txs NS) (-1) = some (V.str (txt x)) := by
        rw [eN]; unfold txs; rw [List.map_append]; exact atI_last _ _
      have lN : 1 ≤ (txs NS).length := by rw [List.length_map]; exact List.length_pos_iff.mpr hne
      have lN2 : (txs NS).length ≤ 10 := by rw [List.length_map]; omega
      refine ⟨_, rfl, _, rfl, 1, rfl, l, _, _, _, rfl, rfl, SqL.of h3, hlast, ?_⟩
      refine ⟨_, rfl, _, rfl, _, rfl, l, _, rfl, .inl (SqL.of h3), pn, L, _, f + 2, rfl, p3, by omega, by omega, fun d H4 hd e4 p4 => ?_⟩
      have hd : d < NS.length := by rw [List.length_map] at hd; omega
      have h4 := e4 _ _ nlp h3
      have hnl4 := e4 _ _ nnl hnl3
      refine ⟨l, _, _, .str (txt NS[d]), rfl, rfl, SqL.of h4, atI_nat (by rw [List.getElem?_map, List.getElem?_eq_getElem hd]; rfl), sz (by show 2 ≤ 1000000; omega), fun q hq => ?_⟩
      have s5 := Same.new (o := .lst [V.str (txt x), .str (txt NS[d])]) hq
      obtain ⟨xs4, hp4⟩ := p4.lst
      have nqp : q ≠ pn := (ne_of_none hp4 hq).symm
      refine ⟨pn, L, q, _, f + 1, rfl, p4.same s5, upd_same, nqp, by show 1 ≤ 2; omega, by show 2 ≤ 100000; omega, fun v H6 hv e6 p6 => ?_⟩
      obtain ⟨ns, hns, rfl⟩ : ∃ ns, ns ∈ NS ∧ v = .str (txt ns) := by
        simp only [List.mem_cons, List.not_mem_nil, or_false] at hv
        rcases hv with rfl | rfl
        · exact ⟨x, hx, rfl⟩
        · exact ⟨_, List.getElem_mem hd, rfl⟩
      have h6 := e6 _ _ nlp (s5 _ _ h4)
      have hnl6 := e6 _ _ nnl (s5 _ _ hnl4)
      refine ⟨_, rfl, _, rfl, _, rfl, pn, L, nl, _, f, rfl, p6, hnl6, nnl, by rw [List.length_map, l6]; decide, by rw [List.length_map, l6]; decide, fun v H7 hv e7 p7 => ?_⟩
      obtain ⟨nm, hnm, rfl⟩ := List.mem_map.mp hv
      have gns := gN ns hns
      have gnm := hNM nm hnm
      have h7 := e7 _ _ nlp h6
      have hnl7 := e7 _ _ nnl hnl6
      have e37 : Sam pn H H7 := ((e3.trans e4).trans (Sam.of s5)).trans (e6.trans e7)
      refine ⟨ns, nm, rfl, gns, gnm, ?_⟩
      have etx : ∀ NS : List (List Str), txs NS = (NS.map txt).map V.str := fun NS => by rw [List.map_map]; rfl
      have h7' := h7
      rw [etx] at h7'
      have tl1 := txt_len gns
      have nl8 := (isNm_iff.mp gnm).2.1
      have gn1 : ∀ n ∈ ns ++ [nm], isNm n = true := fun n hn => (List.mem_append.mp hn).elim (gns.2 n) fun z => by rw [List.mem_singleton.mp z]; exact gnm
      have back : ∀ {Hz : Hp} {NS2 : List (List Str)} {a1 a2 a3 : Option V}, Sam pn H Hz → Pen L Hz pn f → Hz nl = some (.lst (NM.map V.str)) → Hz l = some (.lst (txs NS2)) → NS2 ≠ [] → NS2.length ≤ j + 1 + 1 → NS2.Nodup → (∀ ns ∈ NS2, Good ns) →
          (Sam pn H Hz ∧ Pen L Hz pn (b + 3 * (9 - (j + 1))) ∧ Hz nl = some (.lst (NM.map V.str)) ∧ ∃ NS u v w, Hz l = some (.lst (txs NS)) ∧ NS ≠ [] ∧ NS.length ≤ j + 1 + 1 ∧ NS.Nodup ∧ (∀ ns ∈ NS, Good ns) ∧ [some (V.ref pn), some (V.ref nl), some (V.int 6), some (V.ref l), a1, a2, a3] = [some (.ref pn), some (.ref nl), some (.int 6), some (.ref l), u, v, w]) :=
        fun a b c d e f g h => ⟨a, ef2 ▸ b, c, _, _, _, _, d, e, f, g, h, rfl⟩
      refine ⟨_, rfl, _, rfl, l, _, rfl, .inl (SqL.of h7'), rfl, flat_strs _, _, rfl, ?_⟩
      rw [inV_str]
      by_cases hm : txt (ns ++ [nm]) ∈ NS.map txt
      · rw [decide_eq_true hm]
        exact iteF (iteF (back e37 p7 hnl7 h7 hne (by omega) nd gN))
      rw [decide_eq_false hm]
      refine iteT ?_
      refine ⟨_, rfl, ⟨_, rfl⟩, _, _, rfl, rfl, rfl, sz ?_, fun q2 hq2 => ?_⟩
      · exact path_len (by rw [List.length_append, List.length_singleton]; have := gns.1; omega) gn1
      have s8 := Same.new (o := .lst ((Txt.split (txt (ns ++ [nm])) "/").map V.str)) hq2
      have h8 := s8 _ _ h7
      have e38 := e37.trans (Sam.of s8)
      have p8 := p7.same s8
      have hnl8 := s8 _ _ hnl7
      have hls : ((Txt.split (txt (ns ++ [nm])) "/").map V.str).length = ns.length + 2 := by
        rw [split_path (by simp) gn1, List.length_map, List.length_cons, List.length_append]; rfl
      refine ⟨q2, _, rfl, .inl (SqL.of upd_same), _, _, rfl, rfl, _, rfl, ?_⟩
      by_cases h10 : ns.length + 2 < 10
      · refine iteT' (decide_eq_true (by rw [hls]; omega)) ?_
        have gnew : Good (ns ++ [nm]) := ⟨by rw [List.length_append, List.length_singleton]; omega, gn1⟩
        refine ⟨_, rfl, .inl ⟨rfl, _, SqL.of h8⟩, _, rfl, l, _, _, rfl, rfl, h8, szl (by omega), ?_⟩
        refine back (NS2 := NS ++ [ns ++ [nm]]) (Sam.mut e38 hl) (p8.mut nlp nlL) (by rw [upd_ne nnll]; exact hnl8) (by rw [upd_same]; unfold txs; rw [List.map_append]; rfl) (by simp) (by rw [List.length_append, List.length_singleton]; omega) ?_ fun x hx => ?_
        · refine List.nodup_append.mpr ⟨nd, by simp, fun a ha b hb e => ?_⟩
          rw [List.mem_singleton.mp hb] at e
          exact hm (e ▸ List.mem_map_of_mem ha)
        · rcases List.mem_append.mp hx with h | h
          · exact gN x h
          · rw [List.mem_singleton.mp h]; exact gnew
      · exact iteF' (decide_eq_false (by rw [hls]; omega)) (back e38 p8 hnl8 h8 hne (by omega) nd gN)
    · rintro σ H3 ⟨e3, p3, hnl3, NS, u, v, w', h3, hne, hln, nd, gN, rfl⟩
      have h3' : H3 l = some (.lst ((NS.map txt).map V.str)) := by rw [h3, List.map_map]; rfl
      have hlN : NS.length ≤ 10 := Nat.le_trans hln (by decide)
      refine v_sortl h3' (by rw [List.length_map]; omega) rfl (fun _ => rfl) (fun _ => rfl) fun ys p H' hp' s' pm so v' => ?_
      have gt : ∀ z ∈ ys, isTx z = true := fun z hz => by
        obtain ⟨ns, hns, rfl⟩ := List.mem_map.mp (pm.subset hz)
        exact isTx_txt (gN ns hns)
      have ndt : (NS.map txt).Nodup := by
        refine List.pairwise_map.mpr (nd.imp_of_mem fun {a c} ha hc hne' e => hne' ?_)
        have := congrArg namesIn e
        rw [names_txt (gN a ha).2, names_txt (gN c hc).2] at this
        exact this
      have npp : p ≠ pn := by
        obtain ⟨ys3, hp3⟩ := p3.lst
        exact (ne_of_none hp3 hp').symm
      exact k p ys H' (Sam.free e3 npp hp') (e3.trans (Sam.of s')) ((p3.less (by omega)).same s') v' so (pm.nodup_iff.mpr ndt) gt (by rw [pm.length_eq, List.length_map]; exact hlN)
end
end NK

namespace NK
open PySem PySem.Spec PyProof.Rows L2 NA TL
section
variable {P : Program} {w : World} {K : PySem.W.Frag} {mg : Str → Option Value} {base : Heap} {A : Ad}
def sp_ldrawn : Sp := fun vs H Q _ => ∃ (pn L : Addr) (b : Nat), vs = [.ref pn, .int 6] ∧ Pen L H pn (b + 105) ∧
  ∀ tp lc d (cs : List Str) (rs : Rows) H', Sam pn H H' → Pen L H' pn b → H' tp = some (.tup [.ref lc, .ref d]) → H' lc = some (.lst (cs.map V.str)) → lc ≠ pn → GCol cs → Rws H' d rs → GRw cs rs → rs.length ≤ 10 → Q (.ref tp) H'
theorem ok_ldrawn (T : Tx P K mg A) : FnR P w K mg base CX0 4 A.f_law_drawn sp_ldrawn := by
  refine fnr T.F_law_drawn sc_law_drawn (fun _ _ _ _ _ _ us hl => match us, hl with | [_, _], _ => rfl) (fun vs H Q E h => ?_) (fun cdv A' outer s H vs Q E hr h => ?_)
  · obtain ⟨pn, L, b, rfl, _⟩ := h; rfl
  · obtain ⟨pn, L, b, rfl, hp, k⟩ := h
    refine ⟨_, pss_cons (ps_set (i := 2) sc_law_drawn.nd rfl (.inl rfl) (pe_cl (ok_lnames T) (hr.mono (by decide)) (by rfl) T.mg_law_names T.kp_law_names pass0 (pa_cons (pv 0) pa_nil)))
      (pss_cons (ps_par (i := 3) (j := 4) (by rfl) sc_law_drawn.nd rfl rfl (by decide) rfl rfl (pa_cons (pe_slice sl_list (pv 2) po_none (po_some (pe_op op_add pe_int (pe_cl (ok_draw T) (hr.mono (by decide)) (by rfl) T.mg_law_draw T.kp_law_draw pass0 (pa_cons (pv 0) (pa_cons pe_int pa_nil)))))) (pa_cons pe_dnewK pa_nil)) (by rfl))
      (pss_cons (ps_for PassesOwn.never rfl (pi_list (pe_cl (ok_lplaces T) (hr.mono (by decide)) (by rfl) T.mg_law_places T.kp_law_places pass0 (pa_cons (pv 0) (pa_cons (pv 2) (pa_cons (pv 1) pa_nil))))) (pg_name (i := 5) sc_law_drawn.nd rfl (.inl rfl))
        (pss_cons (ps_set (i := 6) sc_law_drawn.nd rfl (.inl rfl) pe_dnewK)
      (pss_cons (ps_for PassesOwn.never rfl (pi_list (pv 3)) (pg_name (i := 7) sc_law_drawn.nd rfl (.inl rfl))
        (pss_one (ps_if (pt_cmpR op_gt (pe_cl (ok_draw T) (hr.mono (by decide)) (by rfl) T.mg_law_draw T.kp_law_draw pass0 (pa_cons (pv 0) (pa_cons pe_int pa_nil))) pe_int (nomark _)) (pss_one (ps_dput (hu_of hr) (pv 6) (pv 7) (pe_cl (ok_pick T) (hr.mono (by decide)) (by rfl) T.mg_law_pick T.kp_law_pick pass0 (pa_cons (pv 0) (pa_cons (pe_op op_cat (pv 2) (pe_lst (pa_cons pe_str (pa_cons pe_str pa_nil)))) pa_nil))) rfl)) pss_nil)))
      (pss_one (ps_if (PW.pt (pw_and (pt_cmpR (op_neD0 (Nat.lt_of_succ_lt (hu_of hr))) (pv 6) pe_dnewK (nomark _)) (pw_and1 (pt_cmpR op_gt (pe_cl (ok_draw T) (hr.mono (by decide)) (by rfl) T.mg_law_draw T.kp_law_draw pass0 (pa_cons (pv 0) (pa_cons pe_int pa_nil))) pe_int (nomark _))))) (pss_one (ps_dput (hu_of hr) (pv 4) (pv 5) (pv 6) rfl)) pss_nil)))))
      (pss_one (ps_ret (pe_tup (pa_cons (pv 3) (pa_cons (pv 4) pa_nil))))))), ?_⟩
    obtain ⟨xs0, hp0⟩ := hp.lst
    refine ⟨_, rfl, pn, L, b + 98, rfl, hp, fun nl NM H1 hnl0 e1 p1 hnl l6 ndN nmN => ?_⟩
    have nnl : nl ≠ pn := (ne_of_none hp0 hnl0).symm
    refine ⟨_, rfl, _, rfl, pn, L, 3, b + 97, rfl, p1, by decide, by decide, fun dd H2 hdd e2 p2 => ?_⟩
    have hnl2 := e2 _ _ nnl hnl
    refine ⟨_, _, rfl, rfl, _, rfl, nl, _, rfl, SqL.of hnl2, fun lc hlc => ?_⟩
    have ecs : cutV (NM.map V.str) none (some ((1 : Int) + (dd : Nat))) = (NM.take (1 + dd)).map V.str := by
      rw [show (1 : Int) + (dd : Nat) = ((1 + dd : Nat) : Int) by omega, cut_take, List.map_take]
    rw [ecs]
    obtain ⟨cs, ec⟩ : ∃ cs, cs = NM.take (1 + dd) := ⟨_, rfl⟩
    rw [← ec]
    have lcs : cs.length = 1 + dd := by rw [ec, List.length_take, l6]; omega
    have gc : GCol cs := ⟨by omega, by omega, fun c hc => nmN c (by rw [ec] at hc; exact List.mem_of_mem_take hc), by rw [ec]; exact ndN.sublist (List.take_sublist _ _)⟩
    have s3 := Same.new (o := .lst (cs.map V.str)) hlc
    have vlc : (upd H2 lc (.lst (cs.map V.str))) lc = some (.lst (cs.map V.str)) := upd_same
    obtain ⟨xs2, hp2⟩ := p2.lst
    have nlc : lc ≠ pn := (ne_of_none hp2 hlc).symm
    have e03 := (e1.trans e2).trans (Sam.of s3)
    have p3 := p2.same s3
    have hnl3 := s3 _ _ hnl2
    generalize upd H2 lc (.lst (cs.map V.str)) = H3 at s3 vlc e03 p3 hnl3 ⊢
    intro d hd0
    obtain ⟨xs3, hp3⟩ := p3.lst
    have ndp : d ≠ pn := (ne_of_none hp3 hd0).symm
    have s4 := Same.new (o := .dK []) hd0
    have vd : (upd H3 d (.dK [])) d = some (.dK []) := upd_same
    have p4 := p3.same s4
    have hnl4 := s4 _ _ hnl3
    generalize upd H3 d (.dK []) = H4 at s4 vd p4 hnl4
    refine ⟨_, _, rfl, _, rfl, _, rfl, _, rfl, pn, L, nl, b + 70, NM, rfl, p4, hnl4, nnl, l6, nmN, fun pl zs H5 hpl e5 p5 v5 so nd gt l10 => ?_⟩
    have npl : pl ≠ pn := by
      obtain ⟨xs4, hp4⟩ := p4.lst
      exact (ne_of_none hp4 hpl).symm
    have npd : pl ≠ d := (ne_of_none vd hpl).symm
    refine ⟨pl, rfl, ⟨_, SqL.of v5⟩, for_list (K := K) (a := pl) (xs := zs.map V.str) (fun i σ H' => Sam pn H3 H' ∧ Pen L H' pn (b + 7 * (10 - i)) ∧ H' pl = some (.lst (zs.map V.str)) ∧ (∃ rs, Rws H' d rs ∧ GRw cs rs ∧ rs.length ≤ i ∧ ∀ q ∈ rs, q.1 ∈ zs.take i) ∧ ∃ u v w, σ = [some (.ref pn), some (.int 6), some (.ref nl), some (.ref lc), some (.ref d), u, v, w])
      ⟨(Sam.of s4).trans e5, p5, v5, ⟨[], Rws.nil (e5 _ _ ndp vd), ⟨fun _ h => (List.not_mem_nil h).elim, by simp⟩, Nat.le_refl _, fun _ h => (List.not_mem_nil h).elim⟩, _, _, _, rfl⟩ (fun i σ H' _ q => SqL.of q.2.2.1) ?_ ?_⟩
    · rintro i x σ Ha hx ⟨ea, pa, va, ⟨rs, hR, gR, lR, kR⟩, u, v, w', rfl⟩
      rw [List.getElem?_map] at hx
      obtain ⟨z, hz, rfl⟩ := Option.map_eq_some_iff.mp hx
      have hi : i < zs.length := (List.getElem?_eq_some_iff.mp hz).1
      obtain ⟨f, ef, ef2⟩ : ∃ f, b + 7 * (10 - i) = f + 7 ∧ f = b + 7 * (10 - (i + 1)) := ⟨b + 7 * (10 - (i + 1)), by omega, rfl⟩
      rw [ef] at pa
      obtain ⟨xsa, hpa⟩ := pa.lst
      obtain ⟨xsL, hpL⟩ := pa.ints
      intro c hc
      have ncp : c ≠ pn := (ne_of_none hpa hc).symm
      have ncL : c ≠ L := (ne_of_none hpL hc).symm
      have sc := Same.new (o := .dK []) hc
      have hlca := ea _ _ nlc vlc
      have hnla := ea _ _ nnl hnl3
      have nlcc : lc ≠ c := ne_of_none hlca hc
      refine ⟨_, rfl, lc, rfl, ⟨_, SqL.of (sc _ _ hlca)⟩, ?_⟩
      refine for_list (K := K) (a := lc) (xs := cs.map V.str) (fun j σ H' => Sam pn Ha H' ∧ Pen L H' pn (f + 1 + 2 * (3 - j)) ∧ (∃ r : Row, H' c = some (.dK (celM r)) ∧ (r.map (·.1)).Nodup ∧ r.length ≤ j ∧ ∀ q ∈ r, q.1 ∈ cs.take j ∧ isNm q.2 = true) ∧ ∃ v, σ = [some (.ref pn), some (.int 6), some (.ref nl), some (.ref lc), some (.ref d), some (.str z), some (.ref c), v])
        ⟨Sam.of sc, (pa.same sc).less (by omega), ⟨[], upd_same, by simp, Nat.le_refl _, fun _ h => (List.not_mem_nil h).elim⟩, _, rfl⟩ (fun j σ H' _ q => SqL.of (q.1 _ _ nlc hlca)) ?_ ?_
      · rintro j x σ Hb hx ⟨eb, pb, ⟨r, hr, ndr, lr, kr⟩, v, rfl⟩
        rw [List.getElem?_map] at hx
        obtain ⟨cc, hcc, rfl⟩ := Option.map_eq_some_iff.mp hx
        have hj : j < cs.length := (List.getElem?_eq_some_iff.mp hcc).1
        have c3 := gc.hi
        obtain ⟨g, eg, eg2⟩ : ∃ g, f + 1 + 2 * (3 - j) = g + 2 ∧ g = f + 1 + 2 * (3 - (j + 1)) := ⟨f + 1 + 2 * (3 - (j + 1)), by omega, rfl⟩
        rw [eg] at pb
        have back : ∀ {Hz : Hp} {r' : Row} {a : Option V}, Sam pn Ha Hz → Pen L Hz pn g → Hz c = some (.dK (celM r')) → (r'.map (·.1)).Nodup → r'.length ≤ j + 1 → (∀ q ∈ r', q.1 ∈ cs.take (j + 1) ∧ isNm q.2 = true) →
            (Sam pn Ha Hz ∧ Pen L Hz pn (f + 1 + 2 * (3 - (j + 1))) ∧ (∃ r : Row, Hz c = some (.dK (celM r)) ∧ (r.map (·.1)).Nodup ∧ r.length ≤ j + 1 ∧ ∀ q ∈ r, q.1 ∈ cs.take (j + 1) ∧ isNm q.2 = true) ∧ ∃ v, [some (.ref pn), some (.int 6), some (.ref nl), some (.ref lc), some (.ref d), some (.str z), some (.ref c), a] = [some (.ref pn), some (.int 6), some (.ref nl), some (.ref lc), some (.ref d), some (.str z), some (.ref c), v]) :=
          fun a b c d e f => ⟨a, eg2 ▸ b, ⟨_, c, d, e, f⟩, _, rfl⟩
        have up : ∀ q ∈ r, q.1 ∈ cs.take (j + 1) ∧ isNm q.2 = true := fun q hq => ⟨by rw [List.take_add_one]; exact List.mem_append_left _ (kr q hq).1, (kr q hq).2⟩
        refine ⟨_, rfl, pn, L, 3, g + 1, rfl, pb, by decide, by decide, fun t1 Hc ht1 e1' p1' => ⟨_, _, rfl, rfl, _, rfl, ?_⟩⟩
        have hr1 := e1' _ _ ncp hr
        have ebc := eb.trans e1'
        by_cases h0 : (0 : Int) < (t1 : Int)
        · refine iteT' (decide_eq_true h0) ?_
          have hnlc := ebc _ _ nnl hnla
          refine ⟨_, rfl, _, rfl, sz (by show 2 ≤ 1000000; omega), fun q1 hq1 => ⟨nl, q1, NM.map V.str, [.str "0", .str "zzzzzzzz"], rfl, rfl, (Same.new hq1) _ _ hnlc, upd_same, sz (by rw [List.length_map, l6]; decide), fun q2 hq2 => ?_⟩⟩
          have sq := (Same.new (o := .lst [V.str "0", .str "zzzzzzzz"]) hq1).trans (Same.new (o := .lst (NM.map V.str ++ [.str "0", .str "zzzzzzzz"])) hq2)
          obtain ⟨ys1, hp1⟩ := p1'.lst
          have nq2 : q2 ≠ pn := (ne_of_none ((Same.new (o := .lst [V.str "0", .str "zzzzzzzz"]) hq1) _ _ hp1) hq2).symm
          refine ⟨pn, L, q2, _, g, rfl, p1'.same sq, upd_same, nq2, by rw [List.length_append, List.length_map, l6]; decide, by rw [List.length_append, List.length_map, l6]; decide, fun v He hv ee pe => ?_⟩
          obtain ⟨an, rfl, han⟩ : ∃ an : Str, v = .str an ∧ isNm an = true := by
            rcases List.mem_append.mp hv with h | h
            · obtain ⟨n, hn, rfl⟩ := List.mem_map.mp h
              exact ⟨n, rfl, nmN n hn⟩
            · simp only [List.mem_cons, List.not_mem_nil, or_false] at h
              rcases h with rfl | rfl <;> exact ⟨_, rfl, by decide +kernel⟩
          have ebe := (ebc.trans (Sam.of sq)).trans ee
          have hre := ee _ _ ncp (sq _ _ hr1)
          refine ⟨_, rfl, _, rfl, c, _, rfl, DPut.k (k := Sum.inr cc) hre (by rw [List.length_map]; exact szl (by omega)), ?_⟩
          rw [putK_cel]
          have hnew : look r cc = none := look_none.mpr fun q hq e => by
            have h1 := (kr q hq).1
            rw [e] at h1
            obtain ⟨j', hj', e'⟩ := List.mem_iff_getElem.mp h1
            rw [List.length_take] at hj'
            obtain ⟨hjj, rfl⟩ := List.getElem?_eq_some_iff.mp hcc
            rw [List.getElem_take] at e'
            have := (List.getElem_inj gc.nd).mp e'
            omega
          rw [putR_new hnew]
          refine back (Sam.mut ebe hc) (pe.mut ncp ncL) upd_same ?_ (by rw [List.length_append, List.length_singleton]; omega) fun q hq => ?_
          · rw [List.map_append]
            refine List.nodup_append.mpr ⟨ndr, by simp, fun a ha b' hb' e => ?_⟩
            obtain ⟨q, hq, rfl⟩ := List.mem_map.mp ha
            rw [List.map_cons, List.map_nil, List.mem_singleton] at hb'
            exact look_none.mp hnew q hq (e.trans hb')
          · rcases List.mem_append.mp hq with h | h
            · exact up q h
            · rw [List.mem_singleton.mp h]
              exact ⟨by rw [List.take_add_one, hcc]; exact List.mem_append_right _ (List.mem_singleton.mpr rfl), han⟩
        · exact iteF' (decide_eq_false h0) (back ebc (p1'.less (by omega)) hr1 ndr (by omega) up)
      · rintro σ Hb ⟨eb, pb, ⟨r, hr, ndr, lr, kr⟩, v, rfl⟩
        have pb : Pen L Hb pn (f + 1) := pb.less (by omega)
        have pab : ∀ {Hz : Hp}, Sam pn Ha Hz → Hz pl = some (.lst (zs.map V.str)) := fun e => e _ _ npl va
        have rab : ∀ {Hz : Hp}, Sam pn Ha Hz → Rws Hz d rs := fun e => hR.sam ndp (NoCel.lst hpa) e
        have kR' : ∀ q ∈ rs, q.1 ∈ zs.take (i + 1) := fun q hq => by rw [List.take_add_one]; exact List.mem_append_left _ (kR q hq)
        refine ⟨_, rfl, fun q hq => ⟨c, q, celM r, rfl, rfl, (Same.new hq) _ _ hr, upd_same, _, rfl, ?_⟩⟩
        have sq := Same.new (o := .dK []) hq
        have hrq := sq _ _ hr
        have ebq := eb.trans (Sam.of sq)
        have pq := pb.same sq
        generalize upd Hb q (.dK []) = Hc at sq hrq ebq pq
        by_cases hr0 : r = []
        · exact iteF' (by rw [hr0]; rfl) (iteF ⟨ea.trans ebq, ef2 ▸ pq.less (by omega), pab ebq, ⟨rs, rab ebq, gR, by omega, kR'⟩, _, _, _, rfl⟩)
        refine iteT' (by cases r with | nil => exact (hr0 rfl).elim | cons a as => rfl) ?_
        refine ⟨_, rfl, pn, L, 5, f, rfl, pq, by decide, by decide, fun t5 Hd ht5 e5' p5' => ⟨_, _, rfl, rfl, _, rfl, ?_⟩⟩
        have ebd := ebq.trans e5'
        by_cases h0 : (0 : Int) < (t5 : Int)
        · refine iteT' (decide_eq_true h0) ?_
          obtain ⟨kvs, hK⟩ := rab ebd
          have hld : kvs.length = rs.length := hK.2.length
          have cb : Cel Hd c r := ⟨⟨hr0, ndr⟩, e5' _ _ ncp hrq⟩
          have hnew : look rs z = none := look_none.mpr fun q hq e => by
            have h1 := kR q hq
            rw [e] at h1
            obtain ⟨j', hj', e'⟩ := List.mem_iff_getElem.mp h1
            rw [List.length_take] at hj'
            obtain ⟨hjj, rfl⟩ := List.getElem?_eq_some_iff.mp hz
            rw [List.getElem_take] at e'
            have := (List.getElem_inj nd).mp e'
            omega
          have gz := gt z (List.mem_of_getElem? hz)
          have c3 := gc.hi
          have lr' : r.length ≤ 3 := by rw [List.length_map] at lr; omega
          have hputR := Rws.put (t := z) hK cb
          rw [putR_new hnew] at hputR
          obtain ⟨xsd, hpd⟩ := p5'.lst
          obtain ⟨xsLd, hpLd⟩ := p5'.ints
          have ndL : d ≠ L := fun z => by subst z; rw [hK.1] at hpLd; cases hpLd
          refine ⟨_, rfl, _, rfl, _, rfl, d, _, rfl, DPut.k (k := Sum.inr z) hK.1 (by rw [hld]; exact szl (by omega)), ?_⟩
          refine ⟨Sam.mut (ea.trans ebd) hd0, ef2 ▸ p5'.mut ndp ndL, by rw [upd_ne npd]; exact pab ebd, ⟨rs ++ [(z, r)], hputR, ⟨fun q hq => ?_, ?_⟩, by rw [List.length_append, List.length_singleton]; omega, fun q hq => ?_⟩, _, _, _, rfl⟩
          · rcases List.mem_append.mp hq with h | h
            · exact gR.row q h
            · rw [List.mem_singleton.mp h]
              exact ⟨gz, hr0, by show r.length ≤ 1000; omega, fun q hq => ⟨List.mem_of_mem_take (kr q hq).1, (kr q hq).2⟩⟩
          · rw [List.map_append]
            refine List.nodup_append.mpr ⟨gR.nd, by simp, fun a ha b' hb' e => ?_⟩
            obtain ⟨q, hq, rfl⟩ := List.mem_map.mp ha
            rw [List.map_cons, List.map_nil, List.mem_singleton] at hb'
            exact look_none.mp hnew q hq (e.trans hb')
          · rcases List.mem_append.mp hq with h | h
            · exact kR' q h
            · rw [List.mem_singleton.mp h, List.take_add_one, hz]
              exact List.mem_append_right _ (List.mem_singleton.mpr rfl)
        · exact iteF' (decide_eq_false h0) ⟨ea.trans ebd, ef2 ▸ p5'.less (by omega), pab ebd, ⟨rs, rab ebd, gR, by omega, kR'⟩, _, _, _, rfl⟩
    · rintro σ Ha ⟨ea, pa, va, ⟨rs, hR, gR, lR, kR⟩, u, v, w', rfl⟩
      refine ⟨_, rfl, _, rfl, sz (by show 2 ≤ 1000000; omega), fun tp htp => ?_⟩
      have st := Same.new (o := .tup [V.ref lc, .ref d]) htp
      exact k tp lc d cs rs _ ((e03.trans ea).trans (Sam.of st)) ((pa.less (by omega)).same st) upd_same (st _ _ (ea _ _ nlc vlc)) nlc gc (hR.same st) gR (by rw [List.length_map] at lR; omega)
end
end NK

namespace NK
open PySem PySem.Spec PyProof.Rows L2 NA TL
/-! ### checks in a row; the first that fails -/
def scan {γ : Type} : List (Bool × γ) → Option γ
  | [] => none
  | (true, _) :: L => scan L
  | (false, c) :: _ => some c
theorem scan_app {γ : Type} : ∀ (L M : List (Bool × γ)), scan (L ++ M) = match scan L with | some c => some c | none => scan M
  | [], M => rfl
  | (true, _) :: L, M => scan_app L M
  | (false, c) :: L, M => rfl
theorem scan_none {γ : Type} : ∀ {L : List (Bool × γ)}, scan L = none → ∀ p ∈ L, p.1 = true
  | (true, c) :: L, h, p, hp => by
    rcases List.mem_cons.mp hp with rfl | hp
    · rfl
    · exact scan_none (L := L) h p hp
theorem scan_all {γ : Type} : ∀ {L : List (Bool × γ)}, (∀ p ∈ L, p.1 = true) → scan L = none
  | [], _ => rfl
  | (true, _) :: L, h => scan_all (L := L) fun p hp => h p (List.mem_cons_of_mem _ hp)
  | (false, c) :: L, h => by have := h (false, c) (List.mem_cons_self ..); cases this
/-- up to the i-th all is well, the i-th fails -/
theorem scan_hit {γ : Type} {L : List (Bool × γ)} {i : Nat} {c : γ} (h : scan (L.take i) = none) (hi : L[i]? = some (false, c)) : scan L = some c := by
  obtain ⟨hl, e⟩ := List.getElem?_eq_some_iff.mp hi
  have : L = L.take i ++ (L[i] :: L.drop (i + 1)) := by rw [← List.drop_eq_getElem_cons hl, List.take_append_drop]
  rw [this, scan_app, h, e]; rfl
theorem scan_go {γ : Type} {L : List (Bool × γ)} {i : Nat} {c : γ} (h : scan (L.take i) = none) (hi : L[i]? = some (true, c)) : scan (L.take (i + 1)) = none := by
  rw [List.take_add_one, scan_app, h, hi]; rfl
theorem scan_map {γ δ : Type} (f : γ → δ) : ∀ L : List (Bool × γ), scan (L.map fun p => (p.1, f p.2)) = (scan L).map f
  | [] => rfl
  | (true, _) :: L => scan_map f L
  | (false, _) :: _ => rfl
/-! ### the checks of a table's text -/
/-- the i-th column -/
def okH (cs : List Str) (i : Nat) : Bool := decide (i < 3) && isNm (cs.getD i "") && !decide (cs.getD i "" ∈ cs.take i)
def headS (ws : List Str) : List (Bool × Nat) := (decide (ws.headD "" = "columns"), 0) :: (decide (1 < ws.length), 1) :: (List.range (ws.length - 1)).map fun i => (okH (ws.drop 1) i, i + 1)
/-- where a column stands -/
def ixC (cs : List Str) (c : Str) : Nat := cs.findIdx fun x => decide (x = c)
/-- the word at i of a row -/
def okW (cs ws : List Str) (i : Nat) : Bool :=
  if i < 2 then true else if i % 2 = 0 then decide (ws.getD i "" ∈ cs) && (decide (i = 2) || decide (ixC cs (ws.getD (i - 2) "") < ixC cs (ws.getD i ""))) else isNm (ws.getD i "")
def lastT (known : List Str) (t : Str) : Bool := known.all fun q => decide (q.cps.toList < t.cps.toList)
def rowS (cs known ws : List Str) : List (Bool × Nat) :=
  (decide (1 < ws.length), 1) :: (!isTx (ws.getD 1 "") || decide (ws.getD 1 "" ∈ known) || decide (known.length < 40), 0) :: (isTx (ws.getD 1 "") && lastT known (ws.getD 1 ""), 1) :: (decide (2 < ws.length), 2) ::
  ((List.range ws.length).map fun i => (okW cs ws i, i)) ++ [(decide (ws.length % 2 = 0), ws.length)]
def lineS (cs known ws : List Str) : List (Bool × Nat) := (decide (ws.headD "" = "row"), 0) :: rowS cs known ws
/-- all lines but the first; i is the first one's number -/
def linesS (cs : List Str) : Nat → List Str → List (List Str) → List (Bool × Nat × Nat)
  | _, _, [] => []
  | i, known, ws :: LS => (lineS cs known ws).map (fun p => (p.1, i, p.2)) ++ linesS cs (i + 1) (known ++ [ws.getD 1 ""]) LS
def fileS (LS : List (List Str)) : List (Bool × Nat × Nat) := (headS (LS.headD [])).map (fun p => (p.1, 0, p.2)) ++ linesS ((LS.headD []).drop 1) 1 [] (LS.drop 1)
end NK

namespace NK
open PySem PySem.Spec PyProof.Rows L2 NA TL
/-! ### a text without a fault is that of a table -/
def pairsR : List Str → Row
  | a :: b :: l => (a, b) :: pairsR l
  | _ => []
theorem pairs_flat : ∀ (m : Nat) (l : List Str), l.length = 2 * m → flatR (pairsR l) = l ∧ (pairsR l).length = m
  | 0, l, h => by
    rw [List.length_eq_zero_iff.mp (by omega : l.length = 0)]
    exact ⟨rfl, rfl⟩
  | m + 1, [], h => by rw [List.length_nil] at h; omega
  | m + 1, [_], h => by rw [List.length_singleton] at h; omega
  | m + 1, a :: b :: l, h => by
    obtain ⟨h1, h2⟩ := pairs_flat m l (by rw [List.length_cons, List.length_cons] at h; omega)
    refine ⟨?_, by show (pairsR l).length + 1 = _; omega⟩
    show a :: b :: flatR (pairsR l) = _
    rw [h1]
theorem filterMap_cong {α β : Type} {f g : α → Option β} : ∀ {l : List α}, (∀ x ∈ l, f x = g x) → l.filterMap f = l.filterMap g
  | [], _ => rfl
  | x :: l, h => by
    rw [List.filterMap_cons, List.filterMap_cons, h x (List.mem_cons_self ..), filterMap_cong (l := l) fun y hy => h y (List.mem_cons_of_mem _ hy)]
theorem ixC_cons (c0 : Str) (cs : List Str) (c : Str) : ixC (c0 :: cs) c = if c0 = c then 0 else ixC cs c + 1 := by
  unfold ixC
  rw [List.findIdx_cons]
  by_cases e : c0 = c
  · rw [if_pos e, decide_eq_true e]; rfl
  · rw [if_neg e, decide_eq_false e]; rfl
/-- columns that come one behind the other -/
def Incr (cs : List Str) (r : Row) : Prop := r.Pairwise (fun p q => ixC cs p.1 < ixC cs q.1) ∧ ∀ p ∈ r, p.1 ∈ cs
theorem look_skip {p : Str × Str} {r : Row} {c : Str} (h : c ≠ p.1) : look (p :: r) c = look r c := by
  rw [look_cons, if_neg fun e => h e.symm]
theorem prs_incr : ∀ (cs : List Str) (r : Row), cs.Nodup → Incr cs r → prs cs r = r
  | [], [], _, _ => rfl
  | [], p :: r, _, h => (List.not_mem_nil (h.2 p (List.mem_cons_self ..))).elim
  | c0 :: cs, [], nd, _ => by
    rw [prs_cons]
    exact prs_incr cs [] (List.nodup_cons.mp nd).2 ⟨.nil, fun _ h => (List.not_mem_nil h).elim⟩
  | c0 :: cs, p :: r, nd, h => by
    obtain ⟨n0, nd'⟩ := List.nodup_cons.mp nd
    obtain ⟨hp, hr⟩ := List.pairwise_cons.mp h.1
    have sub : ∀ {r' : Row}, (∀ q ∈ r', q.1 ≠ c0) → Incr (c0 :: cs) r' → Incr cs r' := fun {r'} hn hi => by
      refine ⟨hi.1.imp_of_mem fun {a b} ha hb hab => ?_, fun q hq => ?_⟩
      · rw [ixC_cons, ixC_cons, if_neg fun e => hn a ha e.symm, if_neg fun e => hn b hb e.symm] at hab
        omega
      · rcases List.mem_cons.mp (hi.2 q hq) with e | e
        · exact (hn q hq e).elim
        · exact e
    by_cases e : p.1 = c0
    · have hn : ∀ q ∈ r, q.1 ≠ c0 := fun q hq z => by
        have := hp q hq
        rw [ixC_cons, ixC_cons, if_pos e.symm, if_pos z.symm] at this
        omega
      have hi : Incr cs r := sub hn ⟨hr, fun q hq => h.2 q (List.mem_cons_of_mem _ hq)⟩
      rw [prs_cons, ← e, look_cons, if_pos rfl]
      have e2 : prs cs (p :: r) = prs cs r := by
        unfold prs
        refine filterMap_cong fun c hc => ?_
        rw [look_skip (fun z => n0 (by rw [← e, ← z]; exact hc))]
      show (p.1, p.2) :: prs cs (p :: r) = _
      rw [e2, prs_incr cs r nd' hi]
    · have hn : ∀ q ∈ p :: r, q.1 ≠ c0 := fun q hq z => by
        rcases List.mem_cons.mp hq with rfl | hq
        · exact e z
        · have := hp q hq
          rw [ixC_cons, ixC_cons, if_neg fun z' => e z'.symm, if_pos z.symm] at this
          omega
      rw [prs_cons, look_none.mpr hn]
      exact prs_incr cs (p :: r) nd' (sub hn h)
theorem pairs_get : ∀ (l : List Str) (k : Nat) (p : Str × Str), (pairsR l)[k]? = some p → l[2 * k]? = some p.1 ∧ l[2 * k + 1]? = some p.2
  | a :: b :: l, 0, p, h => by cases h; exact ⟨rfl, rfl⟩
  | a :: b :: l, k + 1, p, h => pairs_get l k p h
/-- a good line -/
theorem row_good {cs known ws : List Str} (h3 : cs.length ≤ 3) (gc : cs.Nodup) (hc : ∀ c ∈ cs, isNm c = true) (h : scan (lineS cs known ws) = none) :
    ∃ t r, ws = rowW "row" t cs r ∧ t = ws.getD 1 "" ∧ isTx t = true ∧ GRow cs r ∧ (∀ q ∈ known, q.cps.toList < t.cps.toList) ∧ known.length < 40 := by
  have ok := scan_none h
  have k0 := ok _ (List.mem_cons_self ..)
  have k1 := ok _ (List.mem_cons_of_mem _ (List.mem_cons_self ..))
  have k2 := ok _ (List.mem_cons_of_mem _ (List.mem_cons_of_mem _ (List.mem_cons_self ..)))
  have k3 := ok _ (List.mem_cons_of_mem _ (List.mem_cons_of_mem _ (List.mem_cons_of_mem _ (List.mem_cons_self ..))))
  have k4 := ok _ (List.mem_cons_of_mem _ (List.mem_cons_of_mem _ (List.mem_cons_of_mem _ (List.mem_cons_of_mem _ (List.mem_cons_self ..)))))
  have kw : ∀ i, i < ws.length → okW cs ws i = true := fun i hi => ok (okW cs ws i, i) (List.mem_cons_of_mem _ (List.mem_cons_of_mem _ (List.mem_cons_of_mem _ (List.mem_cons_of_mem _ (List.mem_cons_of_mem _ (List.mem_append_left _ (List.mem_map.mpr ⟨i, List.mem_range.mpr hi, rfl⟩)))))))
  have ke := ok (decide (ws.length % 2 = 0), ws.length) (List.mem_cons_of_mem _ (List.mem_cons_of_mem _ (List.mem_cons_of_mem _ (List.mem_cons_of_mem _ (List.mem_cons_of_mem _ (List.mem_append_right _ (List.mem_singleton.mpr rfl)))))))
  simp only [decide_eq_true_eq] at k0 k1 k4 ke
  simp only [Bool.and_eq_true] at k3
  obtain ⟨g, hl⟩ := k3
  have hl' : ∀ q ∈ known, q.cps.toList < (ws.getD 1 "").cps.toList := fun q hq => by
    have := List.all_eq_true.mp hl q hq
    simpa using this
  rw [g] at k2
  simp only [Bool.not_true, Bool.false_or, Bool.or_eq_true, decide_eq_true_eq] at k2
  have hk : known.length < 40 := k2.resolve_left fun hm => List.lt_irrefl _ (hl' _ hm)
  obtain ⟨w0, t, l, rfl⟩ : ∃ w0 t l, ws = w0 :: t :: l := by
    match ws, k1 with
    | [], h => rw [List.length_nil] at h; omega
    | [_], h => rw [List.length_singleton] at h; omega
    | a :: b :: l, _ => exact ⟨a, b, l, rfl⟩
  have k0 : w0 = "row" := k0
  subst k0
  rw [List.length_cons, List.length_cons] at k4 ke kw
  obtain ⟨m, hm⟩ : ∃ m, l.length = 2 * m := ⟨l.length / 2, by omega⟩
  obtain ⟨f1, f2⟩ := pairs_flat m l hm
  have at1 : ∀ i, (("row" : Str) :: t :: l).getD (i + 2) "" = l.getD i "" := fun i => rfl
  have hpair : ∀ k p, (pairsR l)[k]? = some p → p.1 ∈ cs ∧ isNm p.2 = true ∧ (k = 0 ∨ ∀ q, (pairsR l)[k - 1]? = some q → ixC cs q.1 < ixC cs p.1) := fun k p hp => by
    have hk := (List.getElem?_eq_some_iff.mp hp).1
    obtain ⟨h1, h2⟩ := pairs_get l k p hp
    have w1 := kw (2 * k + 2) (by omega)
    have w2 := kw (2 * k + 1 + 2) (by omega)
    unfold okW at w1 w2
    rw [if_neg (by omega), if_pos (by omega), at1, List.getD_eq_getElem?_getD, h1] at w1
    rw [if_neg (by omega), if_neg (by omega), at1, List.getD_eq_getElem?_getD, h2] at w2
    simp only [Option.getD_some, Bool.and_eq_true, decide_eq_true_eq, Bool.or_eq_true] at w1 w2
    refine ⟨w1.1, w2, ?_⟩
    rcases w1.2 with e | e
    · exact .inl (by omega)
    · by_cases k0 : k = 0
      · exact .inl k0
      · refine .inr fun q hq => ?_
        obtain ⟨h3, _⟩ := pairs_get l (k - 1) q hq
        rw [show 2 * k + 2 - 2 = 2 * (k - 1) + 2 by omega, at1, List.getD_eq_getElem?_getD, h3] at e
        exact e
  have incr : Incr cs (pairsR l) := by
    refine ⟨List.pairwise_iff_getElem.mpr fun i j hi hj hij => ?_, fun p hp => ?_⟩
    · have key : ∀ d i (hi : i < (pairsR l).length) (hd : i + d + 1 < (pairsR l).length), ixC cs (pairsR l)[i].1 < ixC cs (pairsR l)[i + d + 1].1 := by
        intro d
        induction d with
        | zero =>
          intro i hi hd
          rcases (hpair (i + 0 + 1) _ (List.getElem?_eq_getElem hd)).2.2 with z | z
          · omega
          · exact z _ (List.getElem?_eq_getElem (by omega : i < (pairsR l).length))
        | succ d ih =>
          intro i hi hd
          have a := ih i hi (by omega)
          rcases (hpair (i + (d + 1) + 1) _ (List.getElem?_eq_getElem hd)).2.2 with z | z
          · omega
          · have b := z _ (List.getElem?_eq_getElem (by omega : i + d + 1 < (pairsR l).length))
            omega
      have := key (j - i - 1) i hi (by omega)
      have e : i + (j - i - 1) + 1 = j := by omega
      simpa only [e] using this
    · obtain ⟨k, hk, rfl⟩ := List.mem_iff_getElem.mp hp
      exact (hpair k _ (List.getElem?_eq_getElem hk)).1
  refine ⟨t, pairsR l, ?_, rfl, g, ⟨?_, ?_, fun p hp => ?_⟩, hl', hk⟩
  · unfold rowW
    rw [prs_incr cs _ gc incr, f1]
  · intro z
    rw [z, List.length_nil] at f2
    omega
  · have := prs_len cs (pairsR l)
    rw [prs_incr cs _ gc incr] at this
    omega
  · obtain ⟨k, hk, rfl⟩ := List.mem_iff_getElem.mp hp
    obtain ⟨a, b, _⟩ := hpair k _ (List.getElem?_eq_getElem hk)
    exact ⟨a, b⟩
theorem rising_of : ∀ (p : Str) (l : List Str), (p :: l).Pairwise LeS → risingS p l = true
  | _, [], _ => rfl
  | p, x :: r, h => by
    obtain ⟨h1, h2⟩ := List.pairwise_cons.mp h
    rw [risingS, Bool.and_eq_true, Bool.not_eq_true']
    exact ⟨h1 x (List.mem_cons_self ..), rising_of x r h2⟩
theorem sorted_of : ∀ {l : List Str}, l.Pairwise (fun a b => a.cps.toList < b.cps.toList) → sortedS l = true
  | [], _ => rfl
  | x :: r, h => rising_of x r (h.imp fun {a b} hab => leS_iff.mpr fun z => List.lt_irrefl _ (List.lt_trans hab z))
theorem lines_good {cs : List Str} (gc : GCol cs) : ∀ (LS : List (List Str)) (i : Nat) (known : List Str), known.Pairwise (fun a b => a.cps.toList < b.cps.toList) → known.length ≤ 40 → scan (linesS cs i known LS) = none →
    ∃ zr : Rows, LS = zr.map (fun p => rowW "row" p.1 cs p.2) ∧ (known ++ zr.map (·.1)).Pairwise (fun a b => a.cps.toList < b.cps.toList) ∧ (∀ p ∈ zr, isTx p.1 = true ∧ GRow cs p.2) ∧ known.length + zr.length ≤ 40
  | [], i, known, hk, hl, _ => ⟨[], rfl, by simpa using hk, fun _ h => (List.not_mem_nil h).elim, by simpa using hl⟩
  | ws :: LS, i, known, hk, hl, h => by
    have h : scan ((lineS cs known ws).map (fun p => (p.1, i, p.2)) ++ linesS cs (i + 1) (known ++ [ws.getD 1 ""]) LS) = none := h
    rw [scan_app, scan_map (fun k => (i, k))] at h
    have h1 : scan (lineS cs known ws) = none := by
      cases e : scan (lineS cs known ws) with
      | none => rfl
      | some k => rw [e] at h; cases h
    rw [h1] at h
    have h2 : scan (linesS cs (i + 1) (known ++ [ws.getD 1 ""]) LS) = none := h
    obtain ⟨t, r, e1, e2, g1, g2, g3, g4⟩ := row_good gc.hi gc.nd gc.nm h1
    rw [← e2] at h2
    have hk' : (known ++ [t]).Pairwise (fun a b => a.cps.toList < b.cps.toList) := List.pairwise_append.mpr ⟨hk, by simp, fun a ha b hb => by rw [List.mem_singleton.mp hb]; exact g3 a ha⟩
    obtain ⟨zr, q1, q2, q3, q4⟩ := lines_good gc LS (i + 1) (known ++ [t]) hk' (by rw [List.length_append, List.length_singleton]; omega) h2
    refine ⟨(t, r) :: zr, by rw [q1, e1]; rfl, by rw [List.map_cons, List.append_cons]; exact q2, fun p hp => ?_, by rw [List.length_append, List.length_singleton] at q4; rw [List.length_cons]; omega⟩
    rcases List.mem_cons.mp hp with rfl | hp
    · exact ⟨g1, g2⟩
    · exact q3 p hp
theorem head_good {ws : List Str} (h : scan (headS ws) = none) : ∃ cs : List Str, ws = (("columns" : Str) :: cs) ∧ GCol cs := by
  have ok := scan_none h
  have k0 := ok _ (List.mem_cons_self ..)
  have k1 := ok _ (List.mem_cons_of_mem _ (List.mem_cons_self ..))
  have kc : ∀ i, i < ws.length - 1 → okH (ws.drop 1) i = true := fun i hi => ok (okH (ws.drop 1) i, i + 1) (List.mem_cons_of_mem _ (List.mem_cons_of_mem _ (List.mem_map.mpr ⟨i, List.mem_range.mpr hi, rfl⟩)))
  simp only [decide_eq_true_eq] at k0 k1
  obtain ⟨cs, rfl⟩ : ∃ cs : List Str, ws = (("columns" : Str) :: cs) := by
    cases ws with
    | nil => rw [List.length_nil] at k1; omega
    | cons a b => exact ⟨b, by rw [← k0]; rfl⟩
  have kc : ∀ i (hi : i < cs.length), i < 3 ∧ isNm cs[i] = true ∧ cs[i] ∉ cs.take i := fun i hi => by
    have := kc i (by rw [List.length_cons]; omega)
    unfold okH at this
    rw [show (("columns" : Str) :: cs).drop 1 = cs from rfl, List.getD_eq_getElem?_getD, List.getElem?_eq_getElem hi] at this
    simp only [Option.getD_some, Bool.and_eq_true, decide_eq_true_eq, Bool.not_eq_true', decide_eq_false_iff_not] at this
    exact ⟨this.1.1, this.1.2, this.2⟩
  rw [List.length_cons] at k1
  refine ⟨cs, rfl, by omega, ?_, fun c hc => ?_, ?_⟩
  · by_cases h4 : cs.length ≤ 3
    · exact h4
    · have := (kc 3 (by omega)).1; omega
  · obtain ⟨i, hi, rfl⟩ := List.mem_iff_getElem.mp hc
    exact (kc i hi).2.1
  · refine List.pairwise_iff_getElem.mpr fun i j hi hj hij e => ?_
    refine (kc j hj).2.2 ?_
    rw [← e]
    exact List.mem_iff_getElem.mpr ⟨i, by rw [List.length_take]; omega, by rw [List.getElem_take]⟩
theorem file_good {LS : List (List Str)} (hne : LS ≠ []) (h : scan (fileS LS) = none) : ∃ cs f zs, LS = linesW cs f zs ∧ GX cs f zs := by
  cases LS with
  | nil => exact (hne rfl).elim
  | cons ws LS =>
    have h : scan ((headS ws).map (fun p => (p.1, 0, p.2)) ++ linesS (ws.drop 1) 1 [] LS) = none := h
    rw [scan_app, scan_map (fun k => (0, k))] at h
    have h1 : scan (headS ws) = none := by
      cases e : scan (headS ws) with
      | none => rfl
      | some k => rw [e] at h; cases h
    rw [h1] at h
    have h2 : scan (linesS (ws.drop 1) 1 [] LS) = none := h
    obtain ⟨cs, rfl, gc⟩ := head_good h1
    obtain ⟨zr, q1, q2, q3, q4⟩ := lines_good gc LS 1 [] .nil (by simp) h2
    rw [List.nil_append] at q2
    have nd : (zr.map (·.1)).Nodup := q2.imp fun {a b} hab e => by rw [e] at hab; exact List.lt_irrefl _ hab
    have e : LS = (zr.map (·.1)).map (fun z => rowW "row" z cs (atL zr z)) := by
      rw [q1, List.map_map]
      refine List.map_congr_left fun p hp => ?_
      show rowW "row" p.1 cs p.2 = rowW "row" p.1 cs (atL zr p.1)
      unfold atL
      rw [look_of_mem nd hp]; rfl
    refine ⟨cs, atL zr, zr.map (·.1), by rw [e]; rfl, gc, fun z hz => ?_, sorted_of q2, nd, by rw [List.length_map]; rw [List.length_nil] at q4; omega⟩
    obtain ⟨p, hp, rfl⟩ := List.mem_map.mp hz
    obtain ⟨a, b⟩ := q3 p hp
    unfold atL
    rw [look_of_mem nd hp]
    exact ⟨a, b⟩
end NK

namespace NK
open PySem PySem.Spec PyProof.Rows L2 NA TL
/-- words as they may come -/
def Wk (z : Str) : Prop := z.length ≤ 100000 ∧ ∀ c ∈ tl z, c < 128
theorem Wk.ok {z : Str} (h : Wk z) : PyData.strOk z = true := by
  unfold PyData.strOk
  have lt := h.2
  simp only [Array.all_eq_true_iff_forall_mem, decide_eq_true_eq] at *
  first
    | (intro c hc; have := lt c (by simpa using hc); omega)
    | (intro c hc; have := lt c (by simpa using hc); simp; omega)
/-- the signs of a text -/
def SGL (z : Str) : List Str := (tl z).map fun c => ⟨#[c]⟩
theorem split_spt (z : Str) : Txt.split z "/" = (spt (tl z)).map Sx := by
  have h := spt_back _ (tl z) (Nat.le_refl _)
  have e : z = Txt.join "/" ((spt (tl z)).map Sx) := ext_tl (by rw [join_tl, List.map_map, show (tl ∘ Sx) = id from rfl, List.map_id, h.1])
  conv => lhs; rw [e]
  refine split_join (s := 47) (S := []) slash_tl (by decide +kernel) (fun z' => spt_ne _ (List.map_eq_nil_iff.mp z')) fun p hp => ?_
  obtain ⟨q, hq, rfl⟩ := List.mem_map.mp hp
  exact h.2 q hq
theorem mem_joinL {c : Nat} {p : List Nat} : ∀ ps : List (List Nat), p ∈ ps → c ∈ p → c ∈ joinL [47] ps
  | [], h, _ => (List.not_mem_nil h).elim
  | [q], h, hc => by
    rw [List.mem_singleton.mp h] at hc
    exact hc
  | q :: r :: ps, h, hc => by
    rw [show joinL [47] (q :: r :: ps) = q ++ ([47] ++ joinL [47] (r :: ps)) from rfl]
    rcases List.mem_cons.mp h with rfl | h
    · exact List.mem_append_left _ hc
    · exact List.mem_append_right _ (List.mem_append_right _ (mem_joinL (r :: ps) h hc))
theorem piece_wk {z p : Str} (h : Wk z) (hp : p ∈ (spt (tl z)).map Sx) : Wk p := by
  obtain ⟨q, hq, rfl⟩ := List.mem_map.mp hp
  refine ⟨?_, fun c hc => h.2 c ?_⟩
  · have := spt_item _ q hq
    have hl := h.1
    rw [len_tl] at hl
    rw [Sx_len]; omega
  · have hb := (spt_back _ (tl z) (Nat.le_refl _)).1
    rw [← hb]
    exact mem_joinL _ hq hc
theorem c_eqE {K : PySem.W.Frag} {H : Hp} {p q : Addr} {ns : List Str} {Q : VK} (o1 : Oks ns) (hp : SqL K H p (ns.map V.str)) (hq : SqL K H q []) (k : Q (.bl (decide (ns = []))) H) : rEqD K (.ref p) (.ref q) H Q :=
  ⟨_, _, .lst hp (dp_strs ns), .lst hq .nil, shaped_strsL o1, by decide +kernel, by
    have : PyData.eqv (.list (ns.map PyData.str)) (.list []) = decide (ns = []) := by
      rw [show (PyData.list []) = PyData.list (([] : List Str).map PyData.str) from rfl, PyData.eqv, eqvAll_strs]
    rw [this]; exact k⟩
section
variable {P : Program} {w : World} {K : PySem.W.Frag} {mg : Str → Option Value} {base : Heap} {A : Ad}
def sp_lisname : Sp := fun vs H Q _ => ∃ z : Str, vs = [.str z] ∧ Wk z ∧ ∀ H', Same H H' → Q (.bl (isNm z)) H'
theorem ok_lisname (T : Tx P K mg A) : FnR P w K mg base CX0 1 A.f_law_is_name sp_lisname := by
  refine fnr T.F_law_is_name sc_law_is_name (fun _ _ _ _ _ _ us hl => match us, hl with | [_], _ => rfl) (fun vs H Q E h => ?_) (fun cdv A' outer s H vs Q E hr h => ?_)
  · obtain ⟨z, rfl, _⟩ := h; rfl
  · obtain ⟨z, rfl, hz, k⟩ := h
    refine ⟨_, pss_cons (ps_set (i := 1) sc_law_is_name.nd rfl (.inr rfl) pe_str)
      (pss_one (ps_ret (pe_and (pe_chain op_le op_le pe_int (pe_callB call_len_str (by rfl) T.z_len PySem.boot_len (pa_cons (pv 0) pa_nil)) pe_int) (pe_one (pe_cmpR (op_eqDK (K := K) rfl hr.units) (pe_lc (own := [("_law_sign", 2)]) (g := gName 2) rfl sc_law_is_name.nd (pi_str (pv 0)) (blkOk_by (N := ["_law_word", "_law_signs", "_law_sign"]) (sc := defScope s_law_is_name) (by decide +kernel)) (fun _ _ _ _ _ => pg_name (i := 2) sc_law_is_name.nd rfl (Or.inl rfl)) (fun _ _ _ _ _ => (pts_one (pt_cmpR op_notIn_sign (pv 2) (pv 1) rfl))) (fun _ _ _ _ _ => (pv 2))) (pe_lst pa_nil) (nomark _)))))), ?_⟩
    have e0 : ∀ b : Bool, (decide (1 ≤ z.length) && decide (z.length ≤ 8) && b) = (decide (1 ≤ z.length) && (decide (z.length ≤ 8) && b)) := fun b => Bool.and_assoc ..
    refine ⟨_, rfl, z, rfl, sz (by have := hz.1; omega), _, _, rfl, rfl, _, rfl, ?_⟩
    by_cases h1 : 1 ≤ z.length
    case neg =>
      have e : isNm z = false := by unfold isNm; rw [e0, decide_eq_false h1]; rfl
      rw [if_neg (by rw [decide_eq_false (by omega)]; decide)]
      rw [e] at k
      exact ⟨_, rfl, iteF' rfl (k H (Same.refl H))⟩
    rw [if_pos (decide_eq_true (by omega))]
    refine ⟨_, _, rfl, rfl, _, rfl, ?_⟩
    by_cases h8 : z.length ≤ 8
    case neg =>
      have e : isNm z = false := by unfold isNm; rw [e0, decide_eq_false h8, Bool.false_and, Bool.and_false]
      rw [e] at k
      exact iteF' (decide_eq_false (by omega)) (k H (Same.refl H))
    refine iteT' (decide_eq_true (by omega)) ?_
    refine ⟨_, rfl, z, rfl, fun D hD => ?_⟩
    have eN : isNm z = (tl z).all fun c => decide (c ∈ sgn.cps.toList) := by
      unfold isNm
      rw [decide_eq_true h1, decide_eq_true h8, Bool.true_and, Bool.true_and]
    have esz : z.cps.size = (SGL z).length := by unfold SGL tl; rw [List.length_map]; rfl
    refine lc_flt (walk_str (z := z)) (fun i v _ => ∃ t, (SGL z)[i]? = some t ∧ v = .str t) (fun i => !decide ((tl z).getD i 0 ∈ sgn.cps.toList)) hD (fun _ _ _ _ _ _ _ h => h) (fun _ _ => trivial) (by show z.length < sizeLine; exact szl (by omega)) ?_ g_name_mono ?_
    · rintro i x Ha Hb hi sa ⟨rfl, c, hc, rfl⟩
      have hcl : (tl z)[i]? = some c := by unfold tl; rw [Array.getElem?_toList]; exact hc
      have e : (tl z).getD i 0 = c := by rw [List.getD_eq_getElem?_getD, hcl]; rfl
      have hs : (SGL z)[i]? = some ⟨#[c]⟩ := by unfold SGL; rw [List.getElem?_map, hcl]; rfl
      refine ⟨Same.refl _, rfl, Same.refl _, fun Q' hQ => ⟨_, rfl, _, rfl, c, sgn, rfl, rfl, _, rfl, ?_⟩⟩
      have := hQ Hb (Same.refl _) fun _ Q2 hQ2 => ⟨_, rfl, hQ2 _ _ (Same.refl _) ⟨_, hs, rfl⟩⟩
      rw [e] at this
      exact this
    · intro Ha ys sa ha hla hya
      rw [esz] at hla hya
      have ey := flt_strs (ts := SGL z) (p := fun t => !decide ((tl t).headD 0 ∈ sgn.cps.toList)) (fun i t ht => by
        unfold SGL at ht
        rw [List.getElem?_map] at ht
        obtain ⟨c, hc, rfl⟩ := Option.map_eq_some_iff.mp ht
        rw [List.getD_eq_getElem?_getD, hc]; rfl) hla hya
      rw [ey] at ha
      refine ⟨Nat.zero_le _, fun q hq => ?_⟩
      have s5 := Same.new (o := .lst []) hq
      refine c_eqE (fun t ht => ?_) (SqL.of (s5 _ _ ha)) (SqL.of upd_same) ?_
      · obtain ⟨c, hc, rfl⟩ := List.mem_map.mp (List.mem_filter.mp ht).1
        exact Wk.ok ⟨by show 1 ≤ 100000; omega, fun d hd => by rw [List.mem_singleton.mp hd]; exact hz.2 c hc⟩
      · have : decide ((SGL z).filter (fun t => !decide ((tl t).headD 0 ∈ sgn.cps.toList)) = []) = isNm z := by
          rw [eN, Bool.eq_iff_iff, decide_eq_true_eq, List.filter_eq_nil_iff, List.all_eq_true]
          constructor
          · intro h c hc
            have := h ⟨#[c]⟩ (List.mem_map.mpr ⟨c, hc, rfl⟩)
            simpa [tl] using this
          · intro h t ht
            obtain ⟨c, hc, rfl⟩ := List.mem_map.mp ht
            have := h c hc
            simpa [tl] using this
        rw [this]
        exact k _ (sa.trans s5)
def sp_lisplace : Sp := fun vs H Q _ => ∃ z : Str, vs = [.str z] ∧ Wk z ∧ ∀ H', Same H H' → Q (.bl (isTx z)) H'
theorem ok_lisplace (T : Tx P K mg A) : FnR P w K mg base CX0 2 A.f_law_is_place sp_lisplace := by
  refine fnr T.F_law_is_place sc_law_is_place (fun _ _ _ _ _ _ us hl => match us, hl with | [_], _ => rfl) (fun vs H Q E h => ?_) (fun cdv A' outer s H vs Q E hr h => ?_)
  · obtain ⟨z, rfl, _⟩ := h; rfl
  · obtain ⟨z, rfl, hz, k⟩ := h
    refine ⟨_, pss_cons (ps_if (pt_cmpR op_eq (pv 0) pe_str (nomark _)) (pss_one (ps_ret pe_bl)) pss_nil)
      (pss_cons (ps_set (i := 1) sc_law_is_place.nd rfl (.inl rfl) (pe_slice sl_list (pe_split (pv 0) pe_str) (po_some pe_int) po_none))
      (pss_one (ps_ret (pe_and (pe_cmpR op_eq (pe_slice sl_str (pv 0) po_none (po_some pe_int)) pe_str (nomark _)) (pe_and (pe_cmpR op_lt (pe_callB (call_len_seqK (K := K) rfl) (by rfl) T.z_len PySem.boot_len (pa_cons (pv 1) pa_nil)) pe_int (nomark _)) (pe_one (pe_cmpR (op_eqDK (K := K) rfl hr.units) (pe_lc (own := [("_law_name", 2)]) (g := gName 2) rfl sc_law_is_place.nd (pi_list (pv 1)) (blkOk_by (N := ["_law_word", "_law_names_here", "_law_name"]) (sc := defScope s_law_is_place) (by decide +kernel)) (fun _ _ _ _ _ => pg_name (i := 2) sc_law_is_place.nd rfl (Or.inl rfl)) (fun _ _ _ _ _ => (pts_one (pt_not (pt_val (pe_cl (ok_lisname T) (hr.mono (by decide)) (by rfl) T.mg_law_is_name T.kp_law_is_name pass0 (pa_cons (pv 2) pa_nil)))))) (fun _ _ _ _ _ => (pv 2))) (pe_lst pa_nil) (nomark _)))))))), ?_⟩
    have hzl := hz.1
    refine ⟨_, rfl, rfl, _, rfl, ?_⟩
    by_cases hs : z = "/"
    · refine iteT' (decide_eq_true (by rw [hs])) ?_
      have := k H (Same.refl H)
      rw [hs, show isTx "/" = true from by decide +kernel] at this
      exact this
    refine iteF' (decide_eq_false fun e => hs (by injection e)) ?_
    refine ⟨_, rfl, ⟨_, rfl⟩, _, _, rfl, rfl, rfl, sz (by omega), fun p hp => ?_⟩
    rw [split_spt]
    obtain ⟨ps, eps⟩ : ∃ ps, ps = (spt (tl z)).map Sx := ⟨_, rfl⟩
    rw [← eps]
    refine ⟨1, rfl, p, _, rfl, SqL.of upd_same, fun q hq => ?_⟩
    have ec : cutV (ps.map V.str) (some 1) none = (ps.drop 1).map V.str := by
      unfold cutV
      have h1 : 1 ≤ ps.length := by
        rw [eps, List.length_map]
        exact List.length_pos_iff.mpr (spt_ne _)
      rw [HT.sIx_none, show (1 : Int) = ((1 : Nat) : Int) from rfl, HT.sIx_nat, Nat.min_eq_left (by rw [List.length_map]; exact h1), List.map_drop]
      exact List.take_of_length_le (by simp)
    rw [ec]
    have s1 := (Same.new (o := .lst (ps.map V.str)) hp).trans (Same.new (o := .lst ((ps.drop 1).map V.str)) hq)
    have v1 : (upd (upd H p (.lst (ps.map V.str))) q (.lst ((ps.drop 1).map V.str))) q = some (.lst ((ps.drop 1).map V.str)) := upd_same
    generalize upd (upd H p (.lst (ps.map V.str))) q (.lst ((ps.drop 1).map V.str)) = H1 at s1 v1 ⊢
    refine ⟨_, rfl, 1, rfl, z, rfl, sz (by omega), rfl, _, rfl, ?_⟩
    have e1 : decide (V.str (cutS z none (some 1)) = V.str "/") = decide ((tl z).take 1 = [47]) := by
      rw [show (1 : Int) = ((1 : Nat) : Int) from rfl, cut_to]
      refine decide_eq_decide.mpr ⟨fun h => ?_, fun h => by rw [h, slash_Sx]⟩
      have h2 : Sx ((tl z).take 1) = "/" := by injection h
      have := congrArg tl h2
      rw [slash_tl] at this
      exact this
    rw [e1]
    by_cases h47 : (tl z).take 1 = [47]
    case neg =>
      have e : isTx z = false := by unfold isTx; rw [decide_eq_false h47]; rfl
      rw [e] at k
      exact iteF' (decide_eq_false h47) (k H1 s1)
    refine iteT' (decide_eq_true h47) ?_
    obtain ⟨r, hr'⟩ : ∃ r, tl z = 47 :: r := by
      cases htl : tl z with
      | nil => rw [htl] at h47; cases h47
      | cons c r => rw [htl] at h47; simp at h47; exact ⟨r, by rw [h47]⟩
    have en : ps.drop 1 = namesIn z := by
      unfold namesIn
      rw [if_neg hs, eps, hr', show (47 :: r) = [] ++ 47 :: r from rfl, spt_some List.not_mem_nil]
      rfl
    have hwk : ∀ n ∈ namesIn z, Wk n := fun n hn => by
      rw [← en, eps] at hn
      exact piece_wk hz (List.mem_of_mem_drop hn)
    rw [en] at v1
    refine ⟨_, rfl, q, _, rfl, .inl (SqL.of v1), _, _, rfl, rfl, _, rfl, ?_⟩
    rw [List.length_map]
    have eT : isTx z = (decide ((namesIn z).length ≤ 8) && (namesIn z).all isNm) := by unfold isTx; rw [decide_eq_true h47, Bool.true_and]
    by_cases h8 : (namesIn z).length ≤ 8
    case neg =>
      rw [decide_eq_false h8, Bool.false_and] at eT
      rw [eT] at k
      exact iteF' (decide_eq_false (by omega)) (k H1 s1)
    rw [decide_eq_true h8, Bool.true_and] at eT
    refine iteT' (decide_eq_true (by omega)) ?_
    refine ⟨_, rfl, q, rfl, ⟨_, SqL.of v1⟩, fun D hD => ?_⟩
    refine lc_flt (walk_list (K := K) (a := q) (xs := (namesIn z).map V.str)) (fun i v _ => ∃ t, (namesIn z)[i]? = some t ∧ v = .str t) (fun i => !isNm ((namesIn z).getD i "")) hD (fun _ _ _ _ _ _ _ h => h) (fun _ s => SqL.of (s _ _ v1)) (by rw [List.length_map]; exact szl (by omega)) ?_ g_name_mono ?_
    · rintro i x Ha Hb hi sa ⟨rfl, hx⟩
      rw [List.getElem?_map] at hx
      obtain ⟨n, hn, rfl⟩ := Option.map_eq_some_iff.mp hx
      refine ⟨Same.refl _, rfl, Same.refl _, fun Q' hQ => ⟨_, rfl, n, rfl, hwk n (List.mem_of_getElem? hn), fun Hc sc => ⟨_, rfl, ?_⟩⟩⟩
      have := hQ Hc sc fun _ Q2 hQ2 => ⟨_, rfl, hQ2 _ _ (Same.refl _) ⟨_, hn, rfl⟩⟩
      rw [show (namesIn z).getD i "" = n by rw [List.getD_eq_getElem?_getD, hn]; rfl] at this
      exact this
    · intro Ha ys sa ha hla hya
      rw [List.length_map] at hla hya
      have ey := flt_strs (ts := namesIn z) (p := fun t => !isNm t) (fun i t ht => by rw [List.getD_eq_getElem?_getD, ht]; rfl) hla hya
      rw [ey] at ha
      refine ⟨Nat.zero_le _, fun q2 hq2 => ?_⟩
      have s5 := Same.new (o := .lst []) hq2
      refine c_eqE (fun t ht => (hwk t (List.mem_filter.mp ht).1).ok) (SqL.of (s5 _ _ ha)) (SqL.of upd_same) ?_
      have : decide ((namesIn z).filter (fun t => !isNm t) = []) = isTx z := by
        rw [eT, Bool.eq_iff_iff, decide_eq_true_eq, List.filter_eq_nil_iff, List.all_eq_true]
        constructor
        · intro h n hn
          have := h n hn
          simpa using this
        · intro h n hn
          have := h n hn
          simpa using this
      rw [this]
      exact k _ ((s1.trans sa).trans s5)
end
end NK

namespace NK
open PySem PySem.Spec PyProof.Rows L2 NA TL
def oI : Option Nat → V
  | some k => .int k
  | none => .non
theorem ixC_spec {cs : List Str} {c : Str} (h : c ∈ cs) : cs[ixC cs c]? = some c ∧ ∀ m z, m < ixC cs c → cs[m]? = some z → z ≠ c := by
  have hlt : ixC cs c < cs.length := List.findIdx_lt_length_of_exists ⟨c, h, decide_eq_true rfl⟩
  refine ⟨?_, fun m z hm hz e => ?_⟩
  · rw [List.getElem?_eq_getElem hlt]
    have := List.findIdx_getElem (w := hlt)
    rw [decide_eq_true_eq] at this
    exact congrArg some this
  · have h1 := List.not_of_lt_findIdx hm
    obtain ⟨hl, rfl⟩ := List.getElem?_eq_some_iff.mp hz
    rw [e, decide_eq_true rfl] at h1
    cases h1
theorem c_neE {K : PySem.W.Frag} {H : Hp} {p q : Addr} {ns : List Str} {Q : VK} (o1 : Oks ns) (hp : SqL K H p (ns.map V.str)) (hq : SqL K H q []) (k : Q (.bl (!decide (ns = []))) H) : rNeD K (.ref p) (.ref q) H Q :=
  ⟨_, _, .lst hp (dp_strs ns), .lst hq .nil, shaped_strsL o1, by decide +kernel, by
    have : PyData.eqv (.list (ns.map PyData.str)) (.list []) = decide (ns = []) := by
      rw [show (PyData.list []) = PyData.list (([] : List Str).map PyData.str) from rfl, PyData.eqv, eqvAll_strs]
    rw [this]; exact k⟩
theorem lastT_snoc {known : List Str} {q t : Str} (pk : (known ++ [q]).Pairwise (fun a b => a.cps.toList < b.cps.toList)) : lastT (known ++ [q]) t = decide (q.cps.toList < t.cps.toList) := by
  unfold lastT
  rw [Bool.eq_iff_iff, List.all_eq_true, decide_eq_true_eq]
  constructor
  · intro h
    have := h q (by simp)
    simpa using this
  · intro h a ha
    rw [decide_eq_true_eq]
    rcases List.mem_append.mp ha with ha | ha
    · exact List.lt_trans ((List.pairwise_append.mp pk).2.2 a ha q (by simp)) h
    · rw [List.mem_singleton.mp ha]; exact h
/-- the last column's place, ahead of the word at 2 + i -/
def lastV (cs ws : List Str) (i : Nat) : Int := if i = 0 then -1 else (ixC cs (ws.getD (2 + 2 * ((i - 1) / 2)) "") : Int)
section
variable {P : Program} {w : World} {K : PySem.W.Frag} {mg : Str → Option Value} {base : Heap} {A : Ad}
def sp_lheadf : Sp := fun vs H Q _ => ∃ (p : Addr) (ws : List Str), vs = [.ref p] ∧ H p = some (.lst (ws.map V.str)) ∧ 1 ≤ ws.length ∧ ws.length ≤ 200000 ∧ (∀ w ∈ ws, Wk w) ∧ ∀ H', Same H H' → Q (oI (scan (headS ws))) H'
theorem ok_lheadf (T : Tx P K mg A) : FnR P w K mg base CX0 2 A.f_law_head_fault sp_lheadf := by
  refine fnr T.F_law_head_fault sc_law_head_fault (fun _ _ _ _ _ _ us hl => match us, hl with | [_], _ => rfl) (fun vs H Q E h => ?_) (fun cdv A' outer s H vs Q E hr h => ?_)
  · obtain ⟨p, ws, rfl, _⟩ := h; rfl
  · obtain ⟨p, ws, rfl, hp, l1, l2, hw, k⟩ := h
    refine ⟨_, pss_cons (ps_if (pt_cmpR op_ne (pe_ix ix_list (pv 0) pe_int (fun _ _ => rfl)) pe_str (nomark _)) (pss_one (ps_ret pe_int)) pss_nil)
      (pss_cons (ps_for PassesOwn.never rfl (pi_range2 (by rfl) T.z_range (pa_cons pe_int (pa_cons (pe_callB (call_len_seqK (K := K) rfl) (by rfl) T.z_len PySem.boot_len (pa_cons (pv 0) pa_nil)) pa_nil))) (pg_name (i := 1) sc_law_head_fault.nd rfl (.inl rfl))
        (pss_one (ps_if (PW.pt (pw_or (pt_cmpR op_gt (pv 1) pe_int (nomark _)) (pw_or (pt_not (pt_val (pe_cl (ok_lisname T) (hr.mono (by decide)) (by rfl) T.mg_law_is_name T.kp_law_is_name pass0 (pa_cons (pe_ix ix_list (pv 0) (pv 1) (fun _ _ => rfl)) pa_nil)))) (pw_or1 (pt_cmpR (r := rIn K false) op_in_seq (pe_ix ix_list (pv 0) (pv 1) (fun _ _ => rfl)) (pe_slice sl_list (pv 0) (po_some pe_int) (po_some (pv 1))) (by rfl)))))) (pss_one (ps_ret (pv 1))) pss_nil)))
      (pss_one (ps_ret (pe_ifExp (pt_cmpR op_eq (pe_callB (call_len_seqK (K := K) rfl) (by rfl) T.z_len PySem.boot_len (pa_cons (pv 0) pa_nil)) pe_int (nomark _)) pe_int pe_non)))), ?_⟩
    obtain ⟨w0, rest, rfl⟩ : ∃ w0 rest, ws = w0 :: rest := by
      cases ws with
      | nil => rw [List.length_nil] at l1; omega
      | cons a b => exact ⟨a, b, rfl⟩
    obtain ⟨cols, ecol⟩ : ∃ cols, cols = (List.range rest.length).map fun i => (okH rest i, i + 1) := ⟨_, rfl⟩
    have eS : headS (w0 :: rest) = (decide (w0 = "columns"), 0) :: (decide (1 < rest.length + 1), 1) :: cols := by rw [ecol]; rfl
    have hat : ∀ i, i < rest.length → cols[i]? = some (okH rest i, i + 1) := fun i hi => by
      rw [ecol, List.getElem?_map, List.getElem?_range hi]; rfl
    rw [List.length_cons] at l2
    refine ⟨_, rfl, p, _, 0, .str w0, rfl, rfl, SqL.of hp, atI_nat (j := 0) rfl, rfl, _, rfl, ?_⟩
    by_cases e0 : w0 = "columns"
    case neg =>
      refine iteT' (by rw [decide_eq_false fun z => e0 (by injection z)]; rfl) ?_
      have := k H (Same.refl H)
      rw [eS, decide_eq_false e0] at this
      exact this
    refine iteF' (by rw [e0, decide_eq_true rfl]; rfl) ?_
    replace eS : headS (w0 :: rest) = (true, 0) :: (decide (1 < rest.length + 1), 1) :: cols := by rw [eS, decide_eq_true e0]
    refine ⟨_, rfl, p, _, rfl, .inl (SqL.of hp), 1, _, rfl, by rw [List.length_map, List.length_cons]; omega, ?_⟩
    rw [List.length_map, List.length_cons]
    refine for_range (lo := 1) (n := (((rest.length + 1 : Nat) : Int) - 1).toNat) (fun i σ H' => Same H H' ∧ scan (cols.take i) = none ∧ ∃ u, σ = [some (.ref p), u]) ⟨Same.refl _, by rw [List.take_zero]; rfl, _, rfl⟩ ?_ ?_
    · rintro i σ Ha hi ⟨sa, ha, u, rfl⟩
      have hi : i < rest.length := by omega
      obtain ⟨c, hc⟩ : ∃ c, rest[i]? = some c := ⟨_, List.getElem?_eq_getElem hi⟩
      have hcm := List.mem_of_getElem? hc
      have hpa := sa _ _ hp
      have ei : (1 : Int) + (i : Nat) = ((i + 1 : Nat) : Int) := by omega
      have hix : ((w0 :: rest).map V.str)[i + 1]? = some (V.str c) := by rw [List.getElem?_map, List.getElem?_cons_succ, hc]; rfl
      have eok : okH rest i = (decide (i < 3) && isNm c && !decide (c ∈ rest.take i)) := by unfold okH; rw [List.getD_eq_getElem?_getD, hc]; rfl
      have bad : ∀ {Hz : Hp}, Same H Hz → okH rest i = false → Q (.int (1 + (i : Nat))) Hz := fun {Hz} s ok => by
        have h1 := hat i hi
        rw [ok] at h1
        have := k Hz s
        rw [eS, decide_eq_true (by omega)] at this
        have e2 : scan ((true, 0) :: (true, 1) :: cols) = some (i + 1) := scan_hit (L := cols) ha h1
        rw [e2] at this
        rw [ei]
        exact this
      have good : okH rest i = true → scan (cols.take (i + 1)) = none := fun ok => by
        have h1 := hat i hi
        rw [ok] at h1
        exact scan_go ha h1
      refine ⟨_, rfl, _, _, rfl, rfl, _, rfl, ?_⟩
      by_cases h3 : i < 3
      case neg => exact iteT' (decide_eq_true (by omega)) (iteT ⟨_, rfl, bad sa (by rw [eok, decide_eq_false h3]; rfl)⟩)
      rw [decide_eq_true h3, Bool.true_and] at eok
      refine iteF' (decide_eq_false (by omega)) ?_
      refine ⟨_, rfl, _, rfl, p, _, _, .str c, rfl, rfl, SqL.of hpa, by rw [ei]; exact atI_nat hix, c, rfl, hw c (List.mem_cons_of_mem _ hcm), fun Hb sb => ⟨_, rfl, ?_⟩⟩
      have sab := sa.trans sb
      cases hn : isNm c with
      | false =>
        rw [hn] at eok
        exact iteT (iteT ⟨_, rfl, bad sab eok⟩)
      | true =>
        rw [hn, Bool.true_and] at eok
        refine iteF ?_
        have hpb := sab _ _ hp
        refine ⟨_, rfl, _, rfl, p, _, _, .str c, rfl, rfl, SqL.of hpb, by rw [ei]; exact atI_nat hix, ?_⟩
        refine ⟨_, rfl, 1, rfl, _, rfl, _, rfl, p, _, rfl, SqL.of hpb, fun r hr' => ?_⟩
        have ec : cutV ((w0 :: rest).map V.str) (some 1) (some ((1 : Int) + (i : Nat))) = (rest.take i).map V.str := by
          unfold cutV
          rw [ei, show (1 : Int) = ((1 : Nat) : Int) from rfl, HT.sIx_nat, HT.sIx_nat, Nat.min_eq_left (by rw [List.length_map, List.length_cons]; omega), Nat.min_eq_left (by rw [List.length_map, List.length_cons]; omega), Nat.add_sub_cancel, List.map_take]
          rfl
        rw [ec]
        have sr := Same.new (o := .lst ((rest.take i).map V.str)) hr'
        refine ⟨r, _, rfl, .inl (SqL.of upd_same), rfl, flat_strs _, _, rfl, ?_⟩
        rw [inV_str]
        by_cases hm : c ∈ rest.take i
        · rw [decide_eq_true hm] at eok
          exact iteT' (by rw [decide_eq_true hm]; rfl) ⟨_, rfl, bad (sab.trans sr) eok⟩
        · rw [decide_eq_false hm] at eok
          exact iteF' (by rw [decide_eq_false hm]; rfl) ⟨sab.trans sr, good eok, _, rfl⟩
    · rintro σ Ha ⟨sa, ha, u, rfl⟩
      have e1 : cols.take (((rest.length + 1 : Nat) : Int) - 1).toNat = cols := List.take_of_length_le (by rw [ecol, List.length_map, List.length_range]; omega)
      rw [e1] at ha
      have := k Ha sa
      rw [eS] at this
      refine ⟨_, rfl, p, _, rfl, .inl (SqL.of (sa _ _ hp)), rfl, _, rfl, ?_⟩
      rw [List.length_map, List.length_cons]
      by_cases h0 : rest.length = 0
      · refine iteT' (decide_eq_true (by rw [h0]; rfl)) ?_
        rw [decide_eq_false (by omega)] at this
        exact this
      · refine iteF' (decide_eq_false fun z => h0 (by injection z with z; omega)) ?_
        rw [decide_eq_true (by omega)] at this
        have e2 : scan ((true, 0) :: (true, 1) :: cols) = none := ha
        rw [e2] at this
        exact this
def sp_lrowf : Sp := fun vs H Q _ => ∃ (p cl kl : Addr) (ws cs known : List Str), vs = [.ref p, .ref cl, .ref kl, .ref kl] ∧ H p = some (.lst (ws.map V.str)) ∧ H cl = some (.lst (cs.map V.str)) ∧ H kl = some (.lst (known.map V.str)) ∧ 1 ≤ ws.length ∧ ws.length ≤ 200000 ∧ (∀ w ∈ ws, Wk w) ∧
  cs.length ≤ 3 ∧ (∀ w ∈ cs, Wk w) ∧ (∀ w ∈ known, Wk w) ∧ known.length ≤ 40 ∧ known.Pairwise (fun a b => a.cps.toList < b.cps.toList) ∧ ∀ H', Same H H' → Q (oI (scan (rowS cs known ws))) H'
theorem ok_lrowf (T : Tx P K mg A) : FnR P w K mg base CX0 3 A.f_law_row_fault sp_lrowf := by
  refine fnr T.F_law_row_fault sc_law_row_fault (fun _ _ _ _ _ _ us hl => match us, hl with | [_, _, _, _], _ => rfl) (fun vs H Q E h => ?_) (fun cdv A' outer s H vs Q E hr h => ?_)
  · obtain ⟨p, cl, kl, ws, cs, known, rfl, _⟩ := h; rfl
  · obtain ⟨p, cl, kl, ws, cs, known, rfl, hp, hcl, hkl, l1, l2, hw, c3, hcs, hkn, lk, pk, k⟩ := h
    refine ⟨_, pss_cons (ps_if (pt_cmpR op_eq (pe_callB (call_len_seqK (K := K) rfl) (by rfl) T.z_len PySem.boot_len (pa_cons (pv 0) pa_nil)) pe_int (nomark _)) (pss_one (ps_ret pe_int)) pss_nil)
      (pss_jn (ps_if (PW.pt (pw_and (pt_val (pe_cl (ok_lisplace T) (hr.mono (by decide)) (by rfl) T.mg_law_is_place T.kp_law_is_place pass0 (pa_cons (pe_ix ix_list (pv 0) pe_int (fun _ _ => rfl)) pa_nil))) (pw_and (pt_cmpR (r := rIn K true) op_notIn_seq (pe_ix ix_list (pv 0) pe_int (fun _ _ => rfl)) (pv 3) (by rfl)) (pw_and1 (pt_cmpR op_gt (pe_callB (call_len_seqK (K := K) rfl) (by rfl) T.z_len PySem.boot_len (pa_cons (pv 3) pa_nil)) pe_int (nomark _)))))) (pss_one (ps_ret pe_int)) pss_nil)
      (pss_jn (ps_if (PW.pt (pw_or (pt_not (pt_val (pe_cl (ok_lisplace T) (hr.mono (by decide)) (by rfl) T.mg_law_is_place T.kp_law_is_place pass0 (pa_cons (pe_ix ix_list (pv 0) pe_int (fun _ _ => rfl)) pa_nil)))) (pw_or1 (PW.pt (pw_and (pt_cmpR (op_neDK (K := K) rfl hr.units) (pv 2) (pe_lst pa_nil) (nomark _)) (pw_and1 (pt_not (pt_cmpR op_lt_str (pe_ix ix_list (pv 2) (pe_un un_neg pe_int) (fun _ _ => rfl)) (pe_ix ix_list (pv 0) pe_int (fun _ _ => rfl)) (nomark _))))))))) (pss_one (ps_ret pe_int)) pss_nil)
      (pss_cons (ps_set (i := 4) sc_law_row_fault.nd rfl (.inl rfl) (pe_un un_neg pe_int))
      (pss_cons (ps_for PassesOwn.never rfl (pi_range2 (by rfl) T.z_range (pa_cons pe_int (pa_cons (pe_callB (call_len_seqK (K := K) rfl) (by rfl) T.z_len PySem.boot_len (pa_cons (pv 0) pa_nil)) pa_nil))) (pg_name (i := 5) sc_law_row_fault.nd rfl (.inl rfl))
        (pss_one (ps_if (pt_cmpR op_eq (pe_op op_modN (pe_callTy call_int1 (by rfl) T.z_int (by decide +kernel) (pa_cons (pv 5) pa_nil)) pe_int) pe_int (nomark _)) (pss_cons (ps_if (PW.pt (pw_or (pt_cmpR (r := rIn K true) op_notIn_seq (pe_ix ix_list (pv 0) (pv 5) (fun _ _ => rfl)) (pv 1) (by rfl)) (pw_or1 (pt_cmpR op_le (pe_bm PySem.F.plainAttrs_list PySem.F.slot_list_index PySem.F.type_list_index mt_index (pv 1) (pa_cons (pe_ix ix_list (pv 0) (pv 5) (fun _ _ => rfl)) pa_nil)) (pv 4) (nomark _))))) (pss_one (ps_ret (pv 5))) pss_nil)
      (pss_one (ps_set (i := 4) sc_law_row_fault.nd rfl (.inl rfl) (pe_bm PySem.F.plainAttrs_list PySem.F.slot_list_index PySem.F.type_list_index mt_index (pv 1) (pa_cons (pe_ix ix_list (pv 0) (pv 5) (fun _ _ => rfl)) pa_nil))))) (pss_one (ps_if (pt_not (pt_val (pe_cl (ok_lisname T) (hr.mono (by decide)) (by rfl) T.mg_law_is_name T.kp_law_is_name pass0 (pa_cons (pe_ix ix_list (pv 0) (pv 5) (fun _ _ => rfl)) pa_nil)))) (pss_one (ps_ret (pv 5))) pss_nil)))))
      (pss_one (ps_ret (pe_ifExp (PW.pt (pw_and (pt_cmpR op_gt (pe_callB (call_len_seqK (K := K) rfl) (by rfl) T.z_len PySem.boot_len (pa_cons (pv 0) pa_nil)) pe_int (nomark _)) (pw_and1 (pt_cmpR op_eq (pe_op op_modN (pe_callB (call_len_seqK (K := K) rfl) (by rfl) T.z_len PySem.boot_len (pa_cons (pv 0) pa_nil)) pe_int) pe_int (nomark _))))) pe_non (pe_callB (call_len_seqK (K := K) rfl) (by rfl) T.z_len PySem.boot_len (pa_cons (pv 0) pa_nil))))))))), ?_⟩
    obtain ⟨W, eW⟩ : ∃ W, W = (List.range ws.length).map fun i => (okW cs ws i, i) := ⟨_, rfl⟩
    have eS : rowS cs known ws = (decide (1 < ws.length), 1) :: (!isTx (ws.getD 1 "") || decide (ws.getD 1 "" ∈ known) || decide (known.length < 40), 0) :: (isTx (ws.getD 1 "") && lastT known (ws.getD 1 ""), 1) :: (decide (2 < ws.length), 2) ::
      (W ++ [(decide (ws.length % 2 = 0), ws.length)]) := by rw [eW]; rfl
    have hat : ∀ i, i < ws.length → W[i]? = some (okW cs ws i, i) := fun i hi => by
      rw [eW, List.getElem?_map, List.getElem?_range hi]; rfl
    refine ⟨_, rfl, p, _, rfl, .inl (SqL.of hp), rfl, _, rfl, ?_⟩
    rw [List.length_map]
    by_cases h1 : ws.length = 1
    · refine iteT' (decide_eq_true (by rw [h1]; rfl)) ?_
      have := k H (Same.refl H)
      rw [eS, decide_eq_false (by omega)] at this
      exact this
    refine iteF' (decide_eq_false fun z => h1 (by injection z with z; omega)) ?_
    rw [decide_eq_true (by omega)] at eS
    have hlt1 : 1 < ws.length := by omega
    obtain ⟨t, ht⟩ : ∃ t, ws[1]? = some t := ⟨_, List.getElem?_eq_getElem hlt1⟩
    have htm := List.mem_of_getElem? ht
    have egt : ws.getD 1 "" = t := by rw [List.getD_eq_getElem?_getD, ht]; rfl
    have hix : (ws.map V.str)[1]? = some (V.str t) := by rw [List.getElem?_map, ht]; rfl
    rw [egt] at eS
    refine ⟨fun σ' H' => Same H H' ∧ σ' = [some (.ref p), some (.ref cl), some (.ref kl), some (.ref kl), none, none] ∧ (!isTx t || decide (t ∈ known) || decide (known.length < 40)) = true, ?_, ?_⟩
    · refine ⟨_, rfl, p, _, 1, .str t, rfl, rfl, SqL.of hp, atI_nat (j := 1) hix, ?_⟩
      refine ⟨t, rfl, hw t htm, fun H1 s1 => ⟨_, rfl, ?_⟩⟩
      cases hT : isTx t with
      | false => exact iteF (iteF ⟨s1, rfl, rfl⟩)
      | true =>
        refine iteT ?_
        refine ⟨_, rfl, p, _, 1, .str t, rfl, rfl, SqL.of (s1 _ _ hp), atI_nat (j := 1) hix, _, rfl, kl, _, rfl, .inl (SqL.of (s1 _ _ hkl)), rfl, flat_strs _, _, rfl, ?_⟩
        rw [inV_str]
        by_cases hm : t ∈ known
        · exact iteF' (by rw [decide_eq_true hm]; rfl) (iteF ⟨s1, rfl, by rw [decide_eq_true hm]; rfl⟩)
        refine iteT' (by rw [decide_eq_false hm]; rfl) ?_
        refine ⟨_, rfl, kl, _, rfl, .inl (SqL.of (s1 _ _ hkl)), _, _, rfl, rfl, _, rfl, ?_⟩
        rw [List.length_map]
        by_cases h40 : known.length < 40
        · exact iteF' (decide_eq_false (by omega)) ⟨s1, rfl, by rw [decide_eq_true h40, Bool.or_true]⟩
        · have := k H1 s1
          rw [eS, hT, decide_eq_false hm, decide_eq_false h40] at this
          exact iteT' (decide_eq_true (by omega)) this
    rintro σ' H1 ⟨s1, rfl, hroom⟩
    rw [hroom] at eS
    have hkl1 := s1 _ _ hkl
    have hp1 := s1 _ _ hp
    refine ⟨fun σ' H' => Same H H' ∧ σ' = [some (.ref p), some (.ref cl), some (.ref kl), some (.ref kl), none, none] ∧ (isTx t && lastT known t) = true, ?_, ?_⟩
    · refine ⟨_, rfl, p, _, 1, .str t, rfl, rfl, SqL.of hp1, atI_nat (j := 1) hix, ?_⟩
      refine ⟨t, rfl, hw t htm, fun H2 s2 => ⟨_, rfl, ?_⟩⟩
      have s12 := s1.trans s2
      have bad : ∀ {Hz : Hp}, Same H Hz → (isTx t && lastT known t) = false → Q (.int 1) Hz := fun {Hz} s e => by
        have := k Hz s
        rw [eS, e] at this
        exact this
      cases hT : isTx t with
      | false => exact iteT (iteT (bad s12 (by rw [hT]; rfl)))
      | true =>
        refine iteF ?_
        refine ⟨_, rfl, sz (by show 0 ≤ 1000000; omega), fun q hq => ?_⟩
        have s3 := s12.trans (Same.new (o := .lst []) hq)
        have hkl3 := s3 _ _ hkl
        refine c_neE (fun z hz => (hkn z hz).ok) (SqL.of hkl3) (SqL.of upd_same) ⟨_, rfl, ?_⟩
        rcases List.eq_nil_or_concat known with e | ⟨k', q', e⟩
        · refine iteF' (by rw [decide_eq_true e]; rfl) (iteF ⟨s3, rfl, by rw [e]; rfl⟩)
        · rw [List.concat_eq_append] at e
          refine iteT' (by rw [decide_eq_false (by rw [e]; simp)]; rfl) ?_
          have eL : lastT known t = decide (q'.cps.toList < t.cps.toList) := by rw [e] at pk ⊢; exact lastT_snoc pk
          refine ⟨_, rfl, 1, rfl, kl, _, _, .str q', rfl, rfl, SqL.of hkl3, by rw [e, List.map_append]; exact atI_last _ _, _, rfl, p, _, 1, .str t, rfl, rfl, SqL.of (s3 _ _ hp), atI_nat (j := 1) hix, q', t, rfl, rfl, _, rfl, ?_⟩
          by_cases hlt : q'.cps.toList < t.cps.toList
          · exact iteF' (by rw [decide_eq_true hlt]; rfl) ⟨s3, rfl, by rw [eL, decide_eq_true hlt]; rfl⟩
          · exact iteT' (by rw [decide_eq_false hlt]; rfl) (bad s3 (by rw [hT, eL, decide_eq_false hlt]; rfl))
    rintro σ' H2 ⟨s2, rfl, hasc⟩
    rw [hasc] at eS
    have hp2 := s2 _ _ hp
    refine ⟨1, rfl, ?_⟩
    refine ⟨_, rfl, p, _, rfl, .inl (SqL.of hp2), 2, _, rfl, by rw [List.length_map]; omega, ?_⟩
    rw [List.length_map]
    refine for_range (lo := 2) (n := ((ws.length : Int) - 2).toNat) (fun i σ H' => Same H H' ∧ scan (W.take (2 + i)) = none ∧ ∃ u, σ = [some (.ref p), some (.ref cl), some (.ref kl), some (.ref kl), some (.int (lastV cs ws i)), u]) ⟨s2, ?_, _, rfl⟩ ?_ ?_
    · refine scan_all fun q hq => ?_
      obtain ⟨j, hj, rfl⟩ := List.mem_iff_getElem.mp hq
      rw [List.length_take] at hj
      rw [List.getElem_take]
      have := hat j (by omega)
      rw [List.getElem?_eq_getElem (by omega)] at this
      injection this with this
      rw [this]
      show okW cs ws j = true
      unfold okW
      rw [if_pos (by omega)]
    · rintro i σ Ha hi ⟨sa, ha, u, rfl⟩
      have hi : 2 + i < ws.length := by omega
      obtain ⟨c, hc⟩ : ∃ c, ws[2 + i]? = some c := ⟨_, List.getElem?_eq_getElem hi⟩
      have hcm := List.mem_of_getElem? hc
      have hpa := sa _ _ hp
      have hca := sa _ _ hcl
      have ei : (2 : Int) + (i : Nat) = ((2 + i : Nat) : Int) := by omega
      have hix : (ws.map V.str)[2 + i]? = some (V.str c) := by rw [List.getElem?_map, hc]; rfl
      have egc : ws.getD (2 + i) "" = c := by rw [List.getD_eq_getElem?_getD, hc]; rfl
      have h1 := hat (2 + i) hi
      have bad : ∀ {Hz : Hp}, Same H Hz → okW cs ws (2 + i) = false → Q (.int (2 + (i : Nat))) Hz := fun {Hz} s ok => by
        rw [ok] at h1
        have := k Hz s
        rw [eS, decide_eq_true (by omega)] at this
        have e2 : scan ((true, 1) :: (true, 0) :: (true, 1) :: (true, 2) :: (W ++ [(decide (ws.length % 2 = 0), ws.length)])) = some (2 + i) := by
          show scan (W ++ [(decide (ws.length % 2 = 0), ws.length)]) = _
          rw [scan_app, scan_hit ha h1]
        rw [e2] at this
        rw [ei]
        exact this
      have good : okW cs ws (2 + i) = true → scan (W.take (2 + (i + 1))) = none := fun ok => by
        rw [ok] at h1
        exact scan_go ha h1
      have em : ((2 : Int) + (i : Nat)).fmod 2 = (2 + (i : Nat)) % 2 := Int.fmod_eq_emod_of_nonneg _ (by decide)
      refine ⟨_, rfl, .inl ⟨_, rfl, _, _, rfl, rfl, by show (2 : Int) ≠ 0; decide, rfl, _, rfl, ?_⟩⟩
      by_cases hev : i % 2 = 0
      · refine iteT' (decide_eq_true (by show V.int (Int.fmod _ 2) = _; rw [em]; congr 1; omega)) ?_
        have eok : okW cs ws (2 + i) = (decide (c ∈ cs) && (decide (2 + i = 2) || decide (ixC cs (ws.getD i "") < ixC cs c))) := by
          unfold okW
          rw [if_neg (by omega), if_pos (by omega), egc, show 2 + i - 2 = i by omega]
        refine ⟨_, rfl, _, rfl, p, _, _, .str c, rfl, rfl, SqL.of hpa, by rw [ei]; exact atI_nat hix, _, rfl, cl, _, rfl, .inl (SqL.of hca), rfl, flat_strs _, _, rfl, ?_⟩
        rw [inV_str]
        by_cases hm : c ∈ cs
        case neg =>
          rw [decide_eq_false hm, Bool.false_and] at eok
          exact iteT' (by rw [decide_eq_false hm]; rfl) (iteT ⟨_, rfl, bad sa eok⟩)
        rw [decide_eq_true hm, Bool.true_and] at eok
        refine iteF' (by rw [decide_eq_true hm]; rfl) ?_
        obtain ⟨x1, x2⟩ := ixC_spec hm
        have lx : ixC cs c < 3 := by have := (List.getElem?_eq_some_iff.mp x1).1; omega
        have ix : (cs.map V.str)[ixC cs c]? = some (V.str c) := by rw [List.getElem?_map, x1]; rfl
        have nah : ∀ m z, m < ixC cs c → (cs.map V.str)[m]? = some z → eqV z (V.str c) = false := fun m z hm hz => by
          rw [List.getElem?_map] at hz
          obtain ⟨y, hy, rfl⟩ := Option.map_eq_some_iff.mp hz
          exact beq_eq_false_iff_ne.mpr (x2 m y hm hy)
        refine ⟨_, rfl, .inl ⟨rfl, _, SqL.of hca⟩, _, rfl, _, rfl, p, _, _, .str c, rfl, rfl, SqL.of hpa, by rw [ei]; exact atI_nat hix, cl, _, .str c, ixC cs c, .str c, rfl, rfl, SqL.of hca, rfl, flat_strs _, ix, by show (c == c) = true; exact beq_self_eq_true _, nah, ?_⟩
        refine ⟨_, rfl, _, _, rfl, rfl, _, rfl, ?_⟩
        have eV : lastV cs ws i = if i = 0 then -1 else (ixC cs (ws.getD i "") : Int) := by
          unfold lastV
          by_cases h0 : i = 0
          · rw [if_pos h0, if_pos h0]
          · rw [if_neg h0, if_neg h0, show 2 + 2 * ((i - 1) / 2) = i by omega]
        have eV1 : lastV cs ws (i + 1) = (ixC cs c : Int) := by
          unfold lastV
          rw [if_neg (by omega), show 2 + 2 * ((i + 1 - 1) / 2) = 2 + i by omega, egc]
        by_cases hle : (ixC cs c : Int) ≤ lastV cs ws i
        · refine iteT' (decide_eq_true hle) ⟨_, rfl, bad sa ?_⟩
          rw [eV] at hle
          by_cases h0 : i = 0
          · rw [if_pos h0] at hle; omega
          · rw [if_neg h0] at hle
            rw [eok, decide_eq_false (by omega), decide_eq_false (by omega)]; rfl
        · refine iteF' (decide_eq_false hle) ?_
          have okk : okW cs ws (2 + i) = true := by
            rw [eV] at hle
            rw [eok]
            by_cases h0 : i = 0
            · rw [decide_eq_true (by omega), Bool.true_or]
            · rw [if_neg h0] at hle
              rw [decide_eq_true (p := ixC cs (ws.getD i "") < ixC cs c) (by omega), Bool.or_true]
          refine ⟨_, rfl, .inl ⟨rfl, _, SqL.of hca⟩, _, rfl, _, rfl, p, _, _, .str c, rfl, rfl, SqL.of hpa, by rw [ei]; exact atI_nat hix, cl, _, .str c, ixC cs c, .str c, rfl, rfl, SqL.of hca, rfl, flat_strs _, ix, by show (c == c) = true; exact beq_self_eq_true _, nah, ?_⟩
          exact ⟨sa, good okk, _, by rw [eV1]; rfl⟩
      · refine iteF' (decide_eq_false (by show ¬ V.int (Int.fmod _ 2) = _; rw [em]; intro z; injection z with z; omega)) ?_
        have eok : okW cs ws (2 + i) = isNm c := by
          unfold okW
          rw [if_neg (by omega), if_neg (by omega), egc]
        have eV1 : lastV cs ws (i + 1) = lastV cs ws i := by
          unfold lastV
          rw [if_neg (by omega), if_neg (by omega), show (i + 1 - 1) / 2 = (i - 1) / 2 by omega]
        refine ⟨_, rfl, _, rfl, p, _, _, .str c, rfl, rfl, SqL.of hpa, by rw [ei]; exact atI_nat hix, c, rfl, hw c hcm, fun Hb sb => ⟨_, rfl, ?_⟩⟩
        cases hn : isNm c with
        | false => exact iteT ⟨_, rfl, bad (sa.trans sb) (by rw [eok, hn])⟩
        | true => exact iteF ⟨sa.trans sb, good (by rw [eok, hn]), _, by rw [eV1]; rfl⟩
    · rintro σ Ha ⟨sa, ha, u, rfl⟩
      have e1 : W.take (2 + ((ws.length : Int) - 2).toNat) = W := List.take_of_length_le (by rw [eW, List.length_map, List.length_range]; omega)
      rw [e1] at ha
      have hfin := k Ha sa
      have e2 : scan (W ++ [(decide (ws.length % 2 = 0), ws.length)]) = scan [(decide (ws.length % 2 = 0), ws.length)] := by rw [scan_app, ha]
      rw [eS] at hfin
      have hpa := sa _ _ hp
      have em : ((ws.length : Nat) : Int).fmod 2 = (ws.length : Nat) % 2 := Int.fmod_eq_emod_of_nonneg _ (by decide)
      refine ⟨_, rfl, p, _, rfl, .inl (SqL.of hpa), _, _, rfl, rfl, _, rfl, ?_⟩
      rw [List.length_map]
      by_cases h3 : 3 < ws.length
      case neg =>
        refine iteF' (decide_eq_false (by omega)) (iteF ⟨_, rfl, p, _, rfl, .inl (SqL.of hpa), ?_⟩)
        rw [List.length_map]
        by_cases h2 : 2 < ws.length
        · rw [decide_eq_true h2] at hfin
          have e3 : scan ((true, 1) :: (true, 0) :: (true, 1) :: (true, 2) :: (W ++ [(decide (ws.length % 2 = 0), ws.length)])) = some ws.length := by
            show scan (W ++ [(decide (ws.length % 2 = 0), ws.length)]) = _
            rw [e2, decide_eq_false (by omega)]; rfl
          rw [e3] at hfin
          exact hfin
        · rw [decide_eq_false h2] at hfin
          have : ws.length = 2 := by omega
          rw [this]
          exact hfin
      rw [decide_eq_true (by omega)] at hfin
      have e3 : scan ((true, 1) :: (true, 0) :: (true, 1) :: (true, 2) :: (W ++ [(decide (ws.length % 2 = 0), ws.length)])) = scan [(decide (ws.length % 2 = 0), ws.length)] := e2
      rw [e3] at hfin
      refine iteT' (decide_eq_true (by omega)) ?_
      refine ⟨_, rfl, p, _, rfl, .inl (SqL.of hpa), _, _, rfl, rfl, by show (2 : Int) ≠ 0; decide, rfl, _, rfl, ?_⟩
      rw [List.length_map]
      by_cases hev : ws.length % 2 = 0
      · rw [decide_eq_true hev] at hfin
        refine iteT' (decide_eq_true (by show V.int (Int.fmod _ 2) = _; rw [em]; congr 1; omega)) ?_
        exact hfin
      · rw [decide_eq_false hev] at hfin
        refine iteF' (decide_eq_false (by show ¬ V.int (Int.fmod _ 2) = _; rw [em]; intro z; injection z with z; omega)) ⟨_, rfl, p, _, rfl, .inl (SqL.of hpa), ?_⟩
        rw [List.length_map]
        exact hfin
end
end NK

namespace NK
open PySem PySem.Spec PyProof.Rows L2 NA TL
theorem spl_ne (S : List Nat) : ∀ (k : Nat) (acc l : List Nat), spl S k acc l ≠ []
  | k, acc, [] => by rw [spl_nil]; exact List.cons_ne_nil _ _
  | 0, acc, c :: r => by
    show (if pre S (c :: r) = true then acc :: spl S (S.length - 1) [] r else spl S 0 (acc ++ [c]) r) ≠ []
    split
    · exact List.cons_ne_nil _ _
    · exact spl_ne S 0 _ r
  | k + 1, acc, c :: r => by
    show spl S k acc r ≠ []
    exact spl_ne S k acc r
theorem mem_joinS {S : List Nat} {c : Nat} {p : List Nat} : ∀ ps : List (List Nat), p ∈ ps → c ∈ p → c ∈ joinL S ps
  | [], h, _ => (List.not_mem_nil h).elim
  | [q], h, hc => by
    rw [List.mem_singleton.mp h] at hc
    exact hc
  | q :: r :: ps, h, hc => by
    rw [show joinL S (q :: r :: ps) = q ++ (S ++ joinL S (r :: ps)) from rfl]
    rcases List.mem_cons.mp h with rfl | h
    · exact List.mem_append_left _ hc
    · exact List.mem_append_right _ (List.mem_append_right _ (mem_joinS (r :: ps) h hc))
theorem len_joinS {S : List Nat} {p : List Nat} : ∀ ps : List (List Nat), p ∈ ps → p.length ≤ (joinL S ps).length
  | [], h => (List.not_mem_nil h).elim
  | [q], h => by
    rw [List.mem_singleton.mp h]; exact Nat.le_refl _
  | q :: r :: ps, h => by
    rw [show joinL S (q :: r :: ps) = q ++ (S ++ joinL S (r :: ps)) from rfl, List.length_append, List.length_append]
    rcases List.mem_cons.mp h with rfl | h
    · omega
    · have := len_joinS (S := S) (r :: ps) h
      omega
theorem many_joinS {s : Nat} : ∀ ps : List (List Nat), ps.length ≤ (joinL [s] ps).length + 1
  | [] => by show 0 ≤ _; omega
  | [q] => by show 1 ≤ _; omega
  | q :: r :: ps => by
    have := many_joinS (s := s) (r :: ps)
    rw [show joinL [s] (q :: r :: ps) = q ++ ([s] ++ joinL [s] (r :: ps)) from rfl, List.length_append, List.length_append, List.length_cons]
    show _ ≤ q.length + (1 + _) + 1
    omega
theorem split_facts {x y : Str} {s : Nat} (ey : tl y = [s]) (hs : y.cps.all (· < 256) = true) : Txt.split x y ≠ [] ∧ (Txt.split x y).length ≤ x.length + 1 ∧ (∀ p ∈ Txt.split x y, p.length ≤ x.length ∧ ∀ c ∈ tl p, c ∈ tl x) := by
  have e : tl x = joinL [s] ((Txt.split x y).map tl) := by
    have h := PySem.StrLaws.join_split x y
    have h2 := congrArg tl h
    rw [tl_join, ey] at h2
    exact h2.symm
  refine ⟨fun z => ?_, ?_, fun p hp => ⟨?_, fun c hc => ?_⟩⟩
  · have h := split_spl x y (by rw [ey]; exact List.cons_ne_nil _ _) (kind_ok hs)
    rw [z] at h
    exact spl_ne _ _ _ _ h.symm
  · have := many_joinS (s := s) ((Txt.split x y).map tl)
    rw [← e, List.length_map, ← len_tl] at this
    exact this
  · have := len_joinS (S := [s]) _ (List.mem_map_of_mem (f := tl) hp)
    rw [← e, ← len_tl, ← len_tl] at this
    exact this
  · rw [e]
    exact mem_joinS _ (List.mem_map_of_mem (f := tl) hp) hc
/-- a text as it may come -/
def Tx0 (x : Str) : Prop := x.length ≤ 99999 ∧ ∀ c ∈ tl x, c < 128
def LSof (x : Str) : List (List Str) := (Txt.split x "\n").map fun l => Txt.split l " "
theorem lf_all : ("\n" : Str).cps.all (· < 256) = true := by decide +kernel
theorem bl_all : (" " : Str).cps.all (· < 256) = true := by decide +kernel
theorem ls_ne (x : Str) : LSof x ≠ [] := fun h => (split_facts (x := x) lf_tl lf_all).1 (List.map_eq_nil_iff.mp h)
theorem ls_len {x : Str} (h : Tx0 x) : (LSof x).length ≤ 100000 := by
  have := (split_facts (x := x) lf_tl lf_all).2.1
  unfold LSof
  rw [List.length_map]
  have := h.1
  omega
theorem ls_words {x : Str} (h : Tx0 x) : ∀ ws ∈ LSof x, ws ≠ [] ∧ ws.length ≤ 100000 ∧ ∀ w ∈ ws, Wk w := by
  intro ws hw
  obtain ⟨l, hl, rfl⟩ := List.mem_map.mp hw
  obtain ⟨h1, h2⟩ := (split_facts (x := x) lf_tl lf_all).2.2 l hl
  obtain ⟨f1, f2, f3⟩ := split_facts (x := l) bl_tl bl_all
  have hx := h.1
  refine ⟨f1, by omega, fun w hw => ?_⟩
  obtain ⟨g1, g2⟩ := f3 w hw
  exact ⟨by omega, fun c hc => h.2 c (h2 c (g2 c hc))⟩
theorem ls_back (x : Str) : Txt.join "\n" ((LSof x).map lineX) = x := by
  unfold LSof
  rw [List.map_map]
  have : (Txt.split x "\n").map (lineX ∘ fun l => Txt.split l " ") = Txt.split x "\n" := by
    refine (List.map_congr_left fun l _ => ?_).trans (List.map_id _)
    show Txt.join " " (Txt.split l " ") = l
    rw [join_eq]
    exact PySem.StrLaws.join_split l " "
  rw [this, join_eq]
  exact PySem.StrLaws.join_split x "\n"
/-- the lists of words of a text's lines -/
def LinesAt (H : Hp) (ps : List Addr) (LS : List (List Str)) : Prop := Paired (fun p ws => H p = some (.lst (ws.map V.str))) ps LS
theorem LinesAt.same {H H' : Hp} {ps : List Addr} {LS : List (List Str)} (h : LinesAt H ps LS) (e : Same H H') : LinesAt H' ps LS := prd_imp h fun _ _ z => e _ _ z
/-- [l.split(" ") for l in lines] -/
theorem lc_words {K : PySem.W.Frag} {p D : Addr} {H1 : Hp} {x : Str} {σ : L2.St} {i : Nat} {te : TE} {Qd : Hp → Prop} (hx : Tx0 x) (v1 : H1 p = some (.lst ((Txt.split x "\n").map V.str))) (hD : H1 D = none)
    (h1 : ∀ y, wipe ((wipe σ [i]).set i (some y)) [i] = wipe σ [i])
    (hte : ∀ l H' (Q' : VK), l.length ≤ 99999 → (∀ q, H' q = none → Q' (.ref q) (upd H' q (.lst ((Txt.split l " ").map V.str)))) → te ((wipe σ [i]).set i (some (.str l))) H' Q')
    (k : ∀ ps Hx, Same H1 Hx → Hx D = some (.lst (ps.map V.ref)) → LinesAt Hx ps (LSof x) → Qd Hx) :
    ∃ W : Nat → Nat → Hp → Prop, (∃ m, W 0 m (upd H1 D (.lst []))) ∧ ∀ j m H, W j m H →
      ((Itl K p).stop j H ∧ Qd H) ∨ ((Itl K p).go j H ∧ ∃ Nx : Hp → Prop, (∀ H', Nx H' → ∃ m', m' < m ∧ W (j + 1) m' H') ∧ ∀ y H', (Itl K p).yld j H y H' → gName i y (wipe σ [i]) H' fun σ2 H2 => wipe σ2 [i] = wipe σ [i] ∧ tYes σ2 H2 fun b H3 =>
        if b = true then te σ2 H3 fun y H4 => ∃ acc, H4 D = some (.lst acc) ∧ acc.length < sizeLine ∧ Nx (upd H4 D (.lst (acc ++ [y]))) else Nx H3) := by
  have ln := ls_len hx
  have lx := hx.1
  refine lc_list (K := K) (a := p) (xs := (Txt.split x "\n").map V.str) (fun j Hx => Same H1 Hx ∧ ∃ ps, Hx D = some (.lst (ps.map V.ref)) ∧ Paired (fun q ws => q ≠ D ∧ Hx q = some (.lst (ws.map V.str))) ps ((LSof x).take j))
      ⟨Same.new hD, [], upd_same, by rw [List.take_zero]; exact .nil⟩ (fun j Hx _ q => SqL.of (q.1 _ _ v1)) ?_ ?_
  · rintro j y Hx hy ⟨sx, ps, hDx, hps⟩
    rw [List.getElem?_map] at hy
    obtain ⟨l, hl, rfl⟩ := Option.map_eq_some_iff.mp hy
    have hws : (LSof x)[j]? = some (Txt.split l " ") := by unfold LSof; rw [List.getElem?_map, hl]; rfl
    have hj : j < (LSof x).length := (List.getElem?_eq_some_iff.mp hws).1
    refine ⟨h1 _, ?_⟩
    unfold tYes
    dsimp only
    rw [if_pos rfl]
    refine hte l Hx _ (Nat.le_trans ((split_facts (x := x) lf_tl lf_all).2.2 l (List.mem_of_getElem? hl)).1 lx) fun q hq => ?_
    have s2 := Same.new (o := .lst ((Txt.split l " ").map V.str)) hq
    have nqD : q ≠ D := (ne_of_none hDx hq).symm
    have lp : ps.length ≤ 100000 := by
      have := hps.length
      rw [List.length_take] at this
      omega
    refine ⟨_, s2 _ _ hDx, by rw [List.length_map]; exact szl (by omega), Same.mut (sx.trans s2) hD, ps ++ [q], by rw [upd_same, List.map_append]; rfl, ?_⟩
    rw [List.take_add_one, hws]
    exact Paired.snoc (prd_imp hps fun a b ⟨y1, y2⟩ => ⟨y1, by rw [upd_ne y1]; exact s2 _ _ y2⟩) ⟨nqD, by rw [upd_ne nqD]; exact upd_same⟩
  · rintro Hx ⟨sx, ps, hDx, hps⟩
    rw [List.length_map, show (Txt.split x "\n").length = (LSof x).length from (by unfold LSof; rw [List.length_map]), List.take_length] at hps
    exact k ps Hx sx hDx (prd_imp hps fun a b y => y.2)
/-- a fault, as it is told -/
def FR (v : V) (H : Hp) : Option (Nat × Nat) → Prop
  | none => v = .non
  | some (i, j) => ∃ q, v = .ref q ∧ H q = some (.tup [.int i, .int j])
end NK

namespace NK
open PySem PySem.Spec PyProof.Rows L2 NA TL
/-- the text that is passed, or none -/
def TV (K : PySem.W.Frag) (H : Hp) (v : V) : Option Str → Prop
  | some x => v = .str x ∧ Tx0 x
  | none => ∃ t, TyX K H v t ∧ PySem.W.kitOne K t (.type "str") = some false
def faultOf : Option Str → Option (Nat × Nat)
  | some x => scan (fileS (LSof x))
  | none => some (0, 0)
theorem prd_get {α β : Type} {R : α → β → Prop} {xs : List α} {ys : List β} (h : Paired R xs ys) {j : Nat} {x : α} (hx : xs[j]? = some x) : ∃ y, ys[j]? = some y ∧ R x y := by
  induction h generalizing j with
  | nil => cases hx
  | cons r _ ih =>
    cases j with
    | zero => cases hx; exact ⟨_, rfl, r⟩
    | succ j => exact ih hx
theorem not_non (o : Option Nat) : decide (oI o = V.non) = o.isNone := by
  cases o <;> rfl
section
variable {P : Program} {w : World} {K : PySem.W.Frag} {mg : Str → Option Value} {base : Heap} {A : Ad}
def sp_lfault (K : PySem.W.Frag) : Sp := fun vs H Q _ => ∃ (v : V) (ox : Option Str), vs = [v] ∧ TV K H v ox ∧ ∀ u H', Same H H' → FR u H' (faultOf ox) → Q u H'
theorem ok_lfault (T : Tx P K mg A) : FnR P w K mg base CX0 4 A.f_law_fault (sp_lfault K) := by
  refine fnr T.F_law_fault sc_law_fault (fun _ _ _ _ _ _ us hl => match us, hl with | [_], _ => rfl) (fun vs H Q E h => ?_) (fun cdv A' outer s H vs Q E hr h => ?_)
  · obtain ⟨v, ox, rfl, _⟩ := h; rfl
  · obtain ⟨v, ox, rfl, hv, k⟩ := h
    refine ⟨_, pss_cons (ps_if (pt_not (pt_val (pe_callB call_isi (by rfl) T.z_isinstance (by decide +kernel) (pa_cons (pv 0) (pa_cons (pe_bltn (v := .ty "str") (by rfl) T.z_str (by decide +kernel) rfl) pa_nil))))) (pss_one (ps_ret (pe_tup (pa_cons pe_int (pa_cons pe_int pa_nil))))) pss_nil)
      (pss_cons (ps_setLc (i := 2) (own := [("_law_line_here", 1)]) (g := gName 1) (tt := tYes) rfl sc_law_fault.nd rfl rfl (sw_true rfl rfl rfl rfl) (pi_list (pe_split (pv 0) pe_str)) (blkOk_by (N := ["_law_text_here", "_law_line_here", "_law_lines", "_law_places_here", "_law_word"]) (sc := defScope s_law_fault) (by decide +kernel)) (fun _ _ _ _ _ => pg_name (i := 1) sc_law_fault.nd rfl (Or.inl rfl)) (fun _ _ _ _ _ => pts_nil) (fun _ _ _ _ _ => (pe_split (pv 1) pe_str)))
      (pss_cons (ps_if (pt_cmp (pc_notN (pe_cl (ok_lheadf T) (hr.mono (by decide)) (by rfl) T.mg_law_head_fault T.kp_law_head_fault pass0 (pa_cons (pe_ix ix_list (pv 2) pe_int (fun _ _ => rfl)) pa_nil)))) (pss_one (ps_ret (pe_tup (pa_cons pe_int (pa_cons (pe_cl (ok_lheadf T) (hr.mono (by decide)) (by rfl) T.mg_law_head_fault T.kp_law_head_fault pass0 (pa_cons (pe_ix ix_list (pv 2) pe_int (fun _ _ => rfl)) pa_nil)) pa_nil))))) pss_nil)
      (pss_cons (ps_set (i := 3) sc_law_fault.nd rfl (.inl rfl) (pe_lst pa_nil))
      (pss_cons (ps_for PassesOwn.never rfl (pi_range2 (by rfl) T.z_range (pa_cons pe_int (pa_cons (pe_callB (call_len_seqK (K := K) rfl) (by rfl) T.z_len PySem.boot_len (pa_cons (pv 2) pa_nil)) pa_nil))) (pg_name (i := 1) sc_law_fault.nd rfl (.inl rfl))
        (pss_cons (ps_if (pt_cmpR op_ne (pe_ix ix_list (pe_ix ix_list (pv 2) (pv 1) (fun _ _ => rfl)) pe_int (fun _ _ => rfl)) pe_str (nomark _)) (pss_one (ps_ret (pe_tup (pa_cons (pv 1) (pa_cons pe_int pa_nil))))) pss_nil)
      (pss_cons (ps_set (i := 4) sc_law_fault.nd rfl (.inl rfl) (pe_cl (ok_lrowf T) (hr.mono (by decide)) (by rfl) T.mg_law_row_fault T.kp_law_row_fault pass0 (pa_cons (pe_ix ix_list (pv 2) (pv 1) (fun _ _ => rfl)) (pa_cons (pe_slice sl_list (pe_ix ix_list (pv 2) pe_int (fun _ _ => rfl)) (po_some pe_int) po_none) (pa_cons (pv 3) (pa_cons (pv 3) pa_nil))))))
      (pss_cons (ps_if (pt_cmp (pc_notN (pv 4))) (pss_one (ps_ret (pe_tup (pa_cons (pv 1) (pa_cons (pv 4) pa_nil))))) pss_nil)
      (pss_one (ps_expr (pe_bm PySem.F.plainAttrs_list PySem.F.slot_list_append PySem.F.type_list_append mt_append (pv 3) (pa_cons (pe_ix ix_list (pe_ix ix_list (pv 2) (pv 1) (fun _ _ => rfl)) pe_int (fun _ _ => rfl)) pa_nil))))))))
      (pss_one (ps_ret pe_non)))))), ?_⟩
    cases ox with
    | none =>
      obtain ⟨t, ty, kt⟩ := hv
      exact ⟨_, rfl, v, .ty "str", t, .type "str", false, rfl, .ty "str", ty, kt, false, rfl, iteT ⟨sz (by show 2 ≤ 1000000; omega), fun q hq => k _ _ (Same.new hq) ⟨q, rfl, upd_same⟩⟩⟩
    | some x =>
    obtain ⟨rfl, hx⟩ := hv
    have hxl := hx.1
    refine ⟨_, rfl, .str x, .ty "str", .type "str", .type "str", true, rfl, .ty "str", .base (.str x), kit_self, true, rfl, iteF ?_⟩
    refine ⟨_, rfl, ⟨_, rfl⟩, _, _, rfl, rfl, rfl, sz (by omega), fun p hp => ?_⟩
    refine ⟨p, rfl, ⟨_, SqL.of upd_same⟩, fun D hD => lc_words hx upd_same hD (fun _ => rfl) (fun l H' Q' hl hq => ⟨_, rfl, ⟨_, rfl⟩, _, _, rfl, rfl, rfl, sz (by omega), fun q hq' => hq q hq'⟩) fun ps H2 s2 hD2 hps => ?_⟩
    have s02 := (Same.new (o := .lst ((Txt.split x "\n").map V.str)) hp).trans s2
    obtain ⟨LS, eLS⟩ : ∃ LS, LS = LSof x := ⟨_, rfl⟩
    have hls := ls_words hx
    have lls := ls_len hx
    have ef : faultOf (some x) = scan (fileS LS) := by rw [eLS]; rfl
    rw [← eLS] at hps hls lls
    obtain ⟨ws0, LS', eL⟩ : ∃ ws0 LS', LS = ws0 :: LS' := by
      cases hLS : LS with
      | nil => exact (ls_ne x (eLS ▸ hLS)).elim
      | cons a b => exact ⟨a, b, rfl⟩
    clear eLS
    subst eL
    obtain ⟨p0, ps', rfl, hp0, hps'⟩ : ∃ p0 ps', ps = p0 :: ps' ∧ H2 p0 = some (.lst (ws0.map V.str)) ∧ LinesAt H2 ps' LS' := by
      cases hps with
      | cons a b => exact ⟨_, _, rfl, a, b⟩
    have lps : ps'.length = LS'.length := hps'.length
    obtain ⟨w1, w2, w3⟩ := hls ws0 (List.mem_cons_self ..)
    have l0 : 1 ≤ ws0.length := List.length_pos_iff.mpr w1
    rw [ef] at k
    have eF : scan (fileS (ws0 :: LS')) = match (scan (headS ws0)).map (fun k => (0, k)) with | some c => some c | none => scan (linesS (ws0.drop 1) 1 [] LS') := by
      show scan ((headS ws0).map (fun p => (p.1, 0, p.2)) ++ linesS (ws0.drop 1) 1 [] LS') = _
      rw [scan_app, scan_map (fun k => (0, k))]
      cases scan (headS ws0) <;> rfl
    refine ⟨_, rfl, D, _, 0, .ref p0, rfl, rfl, SqL.of hD2, atI_nat (j := 0) rfl, p0, ws0, rfl, hp0, l0, by omega, w3, fun H3 s3 => ⟨_, rfl, ?_⟩⟩
    have s03 := s02.trans s3
    rw [not_non]
    cases eh : scan (headS ws0) with
    | some k0 =>
      rw [eh] at eF
      refine iteT ?_
      refine ⟨_, rfl, D, _, 0, .ref p0, rfl, rfl, SqL.of (s3 _ _ hD2), atI_nat (j := 0) rfl, p0, ws0, rfl, s3 _ _ hp0, l0, by omega, w3, fun H4 s4 => ⟨sz (by show 2 ≤ 1000000; omega), fun q hq => ?_⟩⟩
      rw [eh]
      refine k _ _ ((s03.trans s4).trans (Same.new hq)) ?_
      rw [eF]
      exact ⟨q, rfl, upd_same⟩
    | none =>
      rw [eh] at eF
      have eF : scan (fileS (ws0 :: LS')) = scan (linesS (ws0.drop 1) 1 [] LS') := eF
      obtain ⟨cs, ews, gc⟩ := head_good eh
      have ecs : ws0.drop 1 = cs := by rw [ews]; rfl
      rw [ecs] at eF
      refine iteF ⟨sz (by show 0 ≤ 1000000; omega), fun pl hpl => ?_⟩
      have hD3 := s3 _ _ hD2
      have hps3 := hps'.same s3
      have hp3 := s3 _ _ hp0
      refine ⟨_, rfl, D, _, rfl, .inl (SqL.of ((Same.new hpl) _ _ hD3)), 1, _, rfl, by rw [List.length_map, List.length_cons, lps]; rw [List.length_cons] at lls; omega, ?_⟩
      rw [List.length_map, List.length_cons, lps]
      refine for_range (lo := 1) (n := (((LS'.length + 1 : Nat) : Int) - 1).toNat) (fun i σ H' => Same H3 H' ∧ (∃ known : List Str, H' pl = some (.lst (known.map V.str)) ∧ known.Pairwise (fun a b => a.cps.toList < b.cps.toList) ∧ known.length ≤ 40 ∧ (∀ q ∈ known, isTx q = true) ∧ scan (linesS cs 1 [] LS') = scan (linesS cs (1 + i) known (LS'.drop i))) ∧ ∃ u v, σ = [some (.str x), u, some (.ref D), some (.ref pl), v])
        ⟨Same.new hpl, ⟨[], upd_same, .nil, by simp, fun _ h => (List.not_mem_nil h).elim, rfl⟩, _, _, rfl⟩ ?_ ?_
      · rintro i σ Ha hi ⟨sa, ⟨known, hka, pk, lk, gk, esc⟩, u, v, rfl⟩
        have hi : i < LS'.length := by omega
        obtain ⟨ws, hws⟩ : ∃ ws, LS'[i]? = some ws := ⟨_, List.getElem?_eq_getElem hi⟩
        have edr : LS'.drop i = ws :: LS'.drop (i + 1) := by
          obtain ⟨hlt, e⟩ := List.getElem?_eq_some_iff.mp hws
          rw [List.drop_eq_getElem_cons hlt, e]
        obtain ⟨v1, v2, v3⟩ := hls ws (List.mem_cons_of_mem _ (List.mem_of_getElem? hws))
        obtain ⟨w0, wr, rfl⟩ : ∃ w0 wr, ws = w0 :: wr := by
          cases ws with
          | nil => exact (v1 rfl).elim
          | cons a b => exact ⟨a, b, rfl⟩
        have hpi : ∃ pp, ps'[i]? = some pp ∧ H3 pp = some (.lst ((w0 :: wr).map V.str)) := by
          have hlt : i < ps'.length := by omega
          obtain ⟨ws', h1, h2⟩ := prd_get hps3 (List.getElem?_eq_getElem hlt)
          rw [hws] at h1
          injection h1 with h1
          exact ⟨_, List.getElem?_eq_getElem hlt, by rw [h1]; exact h2⟩
        obtain ⟨pp, hpp, hpw⟩ := hpi
        have ei : (1 : Int) + (i : Nat) = ((i + 1 : Nat) : Int) := by omega
        have hixL : ((p0 :: ps').map V.ref)[i + 1]? = some (V.ref pp) := by rw [List.getElem?_map, List.getElem?_cons_succ, hpp]; rfl
        have eln : scan (linesS cs 1 [] LS') = match (scan (lineS cs known (w0 :: wr))).map (fun k => (1 + i, k)) with | some c => some c | none => scan (linesS cs (1 + i + 1) (known ++ [(w0 :: wr).getD 1 ""]) (LS'.drop (i + 1))) := by
          rw [esc, edr]
          show scan ((lineS cs known (w0 :: wr)).map (fun p => (p.1, 1 + i, p.2)) ++ linesS cs (1 + i + 1) (known ++ [(w0 :: wr).getD 1 ""]) (LS'.drop (i + 1))) = _
          rw [scan_app, scan_map (fun k => (1 + i, k))]
          cases scan (lineS cs known (w0 :: wr)) <;> rfl
        have hpa := sa _ _ hpw
        have hDa := sa _ _ hD3
        have bad : ∀ {Hz : Hp} {q : Addr} {kk : Nat}, Same H3 Hz → scan (lineS cs known (w0 :: wr)) = some kk → Hz q = some (.tup [.int (1 + (i : Nat)), .int kk]) → Q (.ref q) Hz := fun {Hz q kk} s e hq => by
          refine k _ _ (s03.trans s) ?_
          rw [eF, eln, e]
          exact ⟨q, rfl, by rw [hq]; simp⟩
        refine ⟨_, rfl, _, rfl, D, _, _, .ref pp, rfl, rfl, SqL.of hDa, by rw [ei]; exact atI_nat hixL, pp, _, 0, .str w0, rfl, rfl, SqL.of hpa, atI_nat (j := 0) rfl, rfl, _, rfl, ?_⟩
        by_cases e0 : w0 = "row"
        case neg =>
          refine iteT' (by rw [decide_eq_false fun z => e0 (by injection z)]; rfl) ⟨_, rfl, sz (by show 2 ≤ 1000000; omega), fun q hq => ?_⟩
          refine bad (kk := 0) (sa.trans (Same.new hq)) ?_ upd_same
          unfold lineS
          rw [show (w0 :: wr).headD "" = w0 from rfl, decide_eq_false e0]; rfl
        refine iteF' (by rw [e0, decide_eq_true rfl]; rfl) ?_
        have eline : scan (lineS cs known (w0 :: wr)) = scan (rowS cs known (w0 :: wr)) := by
          unfold lineS
          rw [show (w0 :: wr).headD "" = w0 from rfl, decide_eq_true e0]; rfl
        refine ⟨_, rfl, _, rfl, D, _, _, .ref pp, rfl, rfl, SqL.of hDa, by rw [ei]; exact atI_nat hixL, _, rfl, D, _, 0, .ref p0, rfl, rfl, SqL.of hDa, atI_nat (j := 0) rfl, 1, rfl, p0, _, rfl, SqL.of (sa _ _ hp3), fun cl hcl => ?_⟩
        have ec : cutV (ws0.map V.str) (some 1) none = cs.map V.str := by
          unfold cutV
          rw [HT.sIx_none, show (1 : Int) = ((1 : Nat) : Int) from rfl, HT.sIx_nat, Nat.min_eq_left (by rw [List.length_map]; exact l0), ← List.map_drop, ecs]
          exact List.take_of_length_le (by rw [List.length_map, List.length_map, ews, List.length_cons]; omega)
        rw [ec]
        have s5 := Same.new (o := .lst (cs.map V.str)) hcl
        have sa5 := sa.trans s5
        have hk5 := s5 _ _ hka
        refine ⟨_, rfl, _, rfl, pp, cl, pl, w0 :: wr, cs, known, rfl, s5 _ _ hpa, upd_same, hk5, by rw [List.length_cons]; omega, by omega, v3, gc.hi, fun c hc => ?_, fun c hc => ?_, lk, pk, fun H6 s6 => ?_⟩
        · have := nm_sk (gc.nm c hc); exact ⟨by have := this.1; omega, this.2⟩
        · have := tx_sk (gk c hc); exact ⟨by have := this.1; omega, this.2⟩
        have sa6 := sa5.trans s6
        have hk6 := s6 _ _ hk5
        refine ⟨_, rfl, _, rfl, ?_⟩
        rw [not_non]
        cases er : scan (rowS cs known (w0 :: wr)) with
        | some kk => exact iteT ⟨_, rfl, _, rfl, sz (by show 2 ≤ 1000000; omega), fun q hq => bad (kk := kk) (sa6.trans (Same.new hq)) (eline.trans er) upd_same⟩
        | none =>
          rw [er] at eline
          obtain ⟨t, r, e1, e2, g1, g2, g3, g4⟩ := row_good gc.hi gc.nd gc.nm eline
          have hD6 := sa6 _ _ hD3
          have hix1 : ((w0 :: wr).map V.str)[1]? = some (V.str t) := by rw [e1]; rfl
          refine iteF ⟨_, rfl, .inl ⟨rfl, _, SqL.of hk6⟩, _, rfl, _, rfl, D, _, _, .ref pp, rfl, rfl, SqL.of hD6, by rw [ei]; exact atI_nat hixL, pp, _, 1, .str t, rfl, rfl, SqL.of (sa6 _ _ hpw), atI_nat (j := 1) hix1, pl, _, _, rfl, rfl, hk6, szl (by rw [List.length_map]; omega), ?_⟩
          refine ⟨Same.mut sa6 hpl, ⟨known ++ [t], by rw [upd_same, List.map_append]; rfl, List.pairwise_append.mpr ⟨pk, by simp, fun a ha b hb => by rw [List.mem_singleton.mp hb]; exact g3 a ha⟩, by rw [List.length_append, List.length_singleton]; omega, fun q hq => ?_, ?_⟩, _, _, rfl⟩
          · rcases List.mem_append.mp hq with h | h
            · exact gk q h
            · rw [List.mem_singleton.mp h]; exact g1
          · rw [eln, eline, ← e2]; rfl
      · rintro σ Ha ⟨sa, ⟨known, hka, pk, lk, gk, esc⟩, u, v, rfl⟩
        have : LS'.drop (((LS'.length + 1 : Nat) : Int) - 1).toNat = [] := List.drop_of_length_le (by omega)
        rw [this] at esc
        refine k _ _ (s03.trans sa) ?_
        rw [eF, esc]
        rfl
end
end NK

namespace NK
open PySem PySem.Spec PyProof.Rows L2 NA TL
section
variable {P : Program} {w : World} {K : PySem.W.Frag} {mg : Str → Option Value} {base : Heap} {A : Ad}
/-- BadText(i, j), seen from the heap H -/
def ErrT (A : Ad) (H : Hp) (i j : V) (E : XK) : Prop := ∀ H' d, Same H H' → H' d = none → E (.ref A.c_BadText) (some d) (upd H' d (.xd [("word", j), ("line", i)]))
theorem ErrT.up {H H1 : Hp} {i j : V} {E : XK} (h : ErrT A H i j E) (s : Same H H1) : ErrT A H1 i j E := fun H' d s' hd => h H' d (s.trans s') hd
def sp_need (A : Ad) : Sp := fun vs H Q E => ∃ (b : Bool) (i j : V), vs = [.bl b, i, j] ∧ (b = true → Q .non H) ∧ (b = false → ErrT A H i j E)
theorem ok_need (T : Tx P K mg A) : FnR P w K mg base (L2.CX P w) 3 A.f_need (sp_need A) := by
  refine fnx T.F_need sc_need (fun _ _ _ _ _ _ us hl => match us, hl with | [_, _, _], _ => rfl) (fun vs H Q E h => ?_) (fun cdv A' outer s H vs Q E hr h => ?_)
  · obtain ⟨b, i, j, rfl, _⟩ := h; rfl
  · obtain ⟨b, i, j, rfl, k1, k2⟩ := h
    refine ⟨_, pss_one (ps_if (pt_not (pt_val (pv 0))) (pss_one (ps_raise rfl takesX (pmk_err2 T.er_BadText hr (by rfl) T.mg_BadText (pa_cons (pv 1) (pa_cons (pv 2) pa_nil))))) pss_nil), ?_⟩
    cases b with
    | true => exact ⟨_, rfl, true, rfl, iteF' rfl (k1 rfl)⟩
    | false => exact ⟨_, rfl, false, rfl, iteT' rfl ⟨_, rfl, _, rfl, v_err2 fun d hd => k2 rfl H d (Same.refl H) hd⟩⟩
def sp_words (A : Ad) (K : PySem.W.Frag) : Sp := fun vs H Q E => ∃ (v : V) (ox : Option Str), vs = [v] ∧ TV K H v ox ∧ (∀ x, ox = some x → ∀ l ps H', Same H H' → H' l = some (.lst (ps.map V.ref)) → LinesAt H' ps (LSof x) → Q (.ref l) H') ∧ (ox = none → ErrT A H (.int 0) (.int 0) E)
theorem ok_words (T : Tx P K mg A) : FnR P w K mg base (L2.CX P w) 4 A.f_words_of (sp_words A K) := by
  refine fnx T.F_words_of sc_words_of (fun _ _ _ _ _ _ us hl => match us, hl with | [_], _ => rfl) (fun vs H Q E h => ?_) (fun cdv A' outer s H vs Q E hr h => ?_)
  · obtain ⟨v, ox, rfl, _⟩ := h; rfl
  · obtain ⟨v, ox, rfl, hv, k1, k2⟩ := h
    refine ⟨_, pss_cons (ps_expr (pe_cl (ok_need T) (hr.mono (by decide)) (by rfl) T.mg_need T.kp_need passX (pa_cons (pe_callB call_isi (by rfl) T.z_isinstance (by decide +kernel) (pa_cons (pv 0) (pa_cons (pe_bltn (v := .ty "str") (by rfl) T.z_str (by decide +kernel) rfl) pa_nil))) (pa_cons pe_int (pa_cons pe_int pa_nil)))))
      (pss_one (ps_ret (pe_lc (own := [("line", 1)]) (g := gName 1) (tt := tYes) rfl sc_words_of.nd (pi_list (pe_split (pv 0) pe_str)) (blkOk_by (N := ["text", "line"]) (sc := defScope s_words_of) (by decide +kernel)) (fun _ _ _ _ _ => pg_name (i := 1) sc_words_of.nd rfl (Or.inl rfl)) (fun _ _ _ _ _ => pts_nil) (fun _ _ _ _ _ => (pe_split (pv 1) pe_str))))), ?_⟩
    cases ox with
    | none =>
      obtain ⟨t, ty, kt⟩ := hv
      exact ⟨_, rfl, v, .ty "str", t, .type "str", false, rfl, .ty "str", ty, kt, false, .int 0, .int 0, rfl, (fun z => by cases z), fun _ => k2 rfl⟩
    | some x =>
      obtain ⟨rfl, hx⟩ := hv
      have hxl := hx.1
      refine ⟨_, rfl, .str x, .ty "str", .type "str", .type "str", true, rfl, .ty "str", .base (.str x), kit_self, true, .int 0, .int 0, rfl, (fun _ => ?_), fun z => by cases z⟩
      refine ⟨_, rfl, ⟨_, rfl⟩, _, _, rfl, rfl, rfl, sz (by omega), fun p hp => ?_⟩
      refine ⟨p, rfl, ⟨_, SqL.of upd_same⟩, fun D hD => lc_words hx upd_same hD (fun _ => rfl) (fun l H' Q' hl hq => ⟨_, rfl, ⟨_, rfl⟩, _, _, rfl, rfl, rfl, sz (by omega), fun q hq' => hq q hq'⟩) fun ps H2 s2 hD2 hps => ?_⟩
      exact k1 x rfl D ps H2 ((Same.new (o := .lst ((Txt.split x "\n").map V.str)) hp).trans s2) hD2 hps
def sp_colin (A : Ad) : Sp := fun vs H Q E => ∃ (p : Addr) (ws : List Str), vs = [.ref p] ∧ H p = some (.lst (ws.map V.str)) ∧ 1 ≤ ws.length ∧ ws.length ≤ 100000 ∧ (∀ w ∈ ws, Wk w) ∧
  (scan (headS ws) = none → ∀ tc H', Same H H' → H' tc = some (.tup ((ws.drop 1).map V.str)) → Q (.ref tc) H') ∧ (∀ k : Nat, scan (headS ws) = some k → ErrT A H (.int 0) (.int k) E)
theorem ok_colin (T : Tx P K mg A) : FnR P w K mg base (L2.CX P w) 4 A.f_columns_in (sp_colin A) := by
  obtain ⟨t1, k1⟩ := T.widest_Table
  refine fnx T.F_columns_in sc_columns_in (fun _ _ _ _ _ _ us hl => match us, hl with | [_], _ => rfl) (fun vs H Q E h => ?_) (fun cdv A' outer s H vs Q E hr h => ?_)
  · obtain ⟨p, ws, rfl, _⟩ := h; rfl
  · obtain ⟨p, ws, rfl, hp, l1, l2, hw, kg, kb⟩ := h
    refine ⟨_, pss_cons (ps_expr (pe_cl (ok_need T) (hr.mono (by decide)) (by rfl) T.mg_need T.kp_need passX (pa_cons (pe_cmpR op_eq (pe_ix ix_list (pv 0) pe_int (fun _ _ => rfl)) pe_str (nomark _)) (pa_cons pe_int (pa_cons pe_int pa_nil)))))
      (pss_cons (ps_expr (pe_cl (ok_need T) (hr.mono (by decide)) (by rfl) T.mg_need T.kp_need passX (pa_cons (pe_cmpR op_gt (pe_callB (call_len_seqK (K := K) rfl) (by rfl) T.z_len PySem.boot_len (pa_cons (pv 0) pa_nil)) pe_int (nomark _)) (pa_cons pe_int (pa_cons pe_int pa_nil)))))
      (pss_cons (ps_set (i := 1) sc_columns_in.nd rfl (.inl rfl) (pe_slice sl_list (pv 0) (po_some pe_int) po_none))
      (pss_cons (ps_for (passes_of rfl) rfl (pi_enum (by rfl) T.z_enumerate (pa_cons (pv 1) pa_nil)) (pg_tup (by rfl) (pgs_cons (pg_name (i := 2) sc_columns_in.nd rfl (.inl rfl)) (pgs_cons (pg_name (i := 3) sc_columns_in.nd rfl (.inl rfl)) pgs_nil)))
        (pss_one (ps_expr (pe_cl (ok_need T) (hr.mono (by decide)) (by rfl) T.mg_need T.kp_need passX (pa_cons (pe_and (pe_cmpR op_lt (pv 2) (ClX.pe_cval (pe_glob (v := .ref A.c_Table) (by rfl) T.mg_Table rfl)) (nomark _)) (pe_and (pe_cl (ok_is_name T) (hr.mono (by decide)) (by rfl) T.mg_is_name T.kp_is_name pass0 (pa_cons (pv 3) pa_nil)) (pe_one (pe_cmpR (r := rIn K true) op_notIn_seq (pv 3) (pe_slice sl_list (pv 1) po_none (po_some (pv 2))) (by rfl))))) (pa_cons pe_int (pa_cons (pe_op op_add (pv 2) pe_int) pa_nil)))))))
      (pss_one (ps_ret (pe_callTy call_tuple_of (by rfl) T.z_tuple (by decide +kernel) (pa_cons (pv 1) pa_nil))))))), ?_⟩
    obtain ⟨w0, rest, rfl⟩ : ∃ w0 rest, ws = w0 :: rest := by
      cases ws with
      | nil => rw [List.length_nil] at l1; omega
      | cons a b => exact ⟨a, b, rfl⟩
    obtain ⟨cols, ecol⟩ : ∃ cols, cols = (List.range rest.length).map fun i => (okH rest i, i + 1) := ⟨_, rfl⟩
    have eS : headS (w0 :: rest) = (decide (w0 = "columns"), 0) :: (decide (1 < rest.length + 1), 1) :: cols := by rw [ecol]; rfl
    have hat : ∀ i, i < rest.length → cols[i]? = some (okH rest i, i + 1) := fun i hi => by
      rw [ecol, List.getElem?_map, List.getElem?_range hi]; rfl
    rw [List.length_cons] at l2
    rw [eS] at kg kb
    refine ⟨_, rfl, p, _, 0, .str w0, rfl, rfl, SqL.of hp, atI_nat (j := 0) rfl, rfl, _, .int 0, .int 0, rfl, fun e0 => ?_, fun e0 => ?_⟩
    case refine_2 =>
      have e0 : ¬ w0 = "columns" := fun z => by rw [z, decide_eq_true rfl] at e0; cases e0
      exact kb 0 (by rw [decide_eq_false e0]; rfl)
    have e0 : w0 = "columns" := by have := of_decide_eq_true e0; injection this
    rw [decide_eq_true e0] at kg kb
    refine ⟨_, rfl, p, _, rfl, .inl (SqL.of hp), _, _, rfl, rfl, _, .int 0, .int 1, rfl, fun h1 => ?_, fun h1 => ?_⟩
    case refine_2 =>
      have h1 := of_decide_eq_false h1
      rw [List.length_map, List.length_cons] at h1
      exact kb 1 (by rw [decide_eq_false (by omega)]; rfl)
    have h1 := of_decide_eq_true h1
    rw [List.length_map, List.length_cons] at h1
    rw [decide_eq_true (by omega)] at kg kb
    have kg : scan cols = none → ∀ tc H', Same H H' → H' tc = some (.tup (rest.map V.str)) → Q (.ref tc) H' := kg
    have kb : ∀ k : Nat, scan cols = some k → ErrT A H (.int 0) (.int k) E := kb
    refine ⟨_, rfl, 1, rfl, p, _, rfl, SqL.of hp, fun q hq => ?_⟩
    have ec : cutV ((w0 :: rest).map V.str) (some 1) none = rest.map V.str := by
      unfold cutV
      rw [HT.sIx_none, show (1 : Int) = ((1 : Nat) : Int) from rfl, HT.sIx_nat, Nat.min_eq_left (by rw [List.length_map, List.length_cons]; omega)]
      show List.take _ (List.drop 1 (V.str w0 :: rest.map V.str)) = _
      exact List.take_of_length_le (by simp)
    rw [ec]
    have s1 := Same.new (o := .lst (rest.map V.str)) hq
    have v1 : (upd H q (.lst (rest.map V.str))) q = some (.lst (rest.map V.str)) := upd_same
    generalize upd H q (.lst (rest.map V.str)) = H1 at s1 v1
    refine ⟨_, rfl, q, _, rfl, SqL.of v1, for_it (walk_enum (a := q) (xs := rest.map V.str)) (fun i σ H' => Same H1 H' ∧ scan (cols.take i) = none ∧ ∃ v u, σ = [some (.ref p), some (.ref q), v, u]) ⟨Same.refl _, by rw [List.take_zero]; rfl, none, none, rfl⟩ (fun i σ H' _ h => SqL.of (h.1 _ _ v1)) ?_ ?_⟩
    · rintro i x σ H2 H3 hi ⟨s2, ha, v, u, rfl⟩ ⟨tt, y, z, rfl, ht, rfl, ey, ez⟩
      injection ey with ey; subst ey
      dsimp only at ez
      rw [List.getElem?_map] at ez
      obtain ⟨c, hc, rfl⟩ := Option.map_eq_some_iff.mp ez
      have hcm := List.mem_of_getElem? hc
      have hi' : i < rest.length := (List.getElem?_eq_some_iff.mp hc).1
      have hwc := hw c (List.mem_cons_of_mem _ hcm)
      refine ⟨tt, _, rfl, SqT.of upd_same, rfl, _, _, rfl, _, _, rfl, rfl, ?_⟩
      have s3 := s2.trans (Same.new (o := .tup [V.int (i : Nat), V.str c]) ht)
      have eok : okH rest i = (decide (i < 3) && isNm c && !decide (c ∈ rest.take i)) := by unfold okH; rw [List.getD_eq_getElem?_getD, hc]; rfl
      have h1' := hat i hi'
      have bad : ∀ {Hz : Hp}, Same H1 Hz → okH rest i = false → ErrT A Hz (.int 0) (.int ((i : Nat) + 1)) E := fun {Hz} s ok => by
        rw [ok] at h1'
        exact (kb (i + 1) (scan_hit ha h1')).up (s1.trans s)
      have good : okH rest i = true → scan (cols.take (i + 1)) = none := fun ok => by
        rw [ok] at h1'
        exact scan_go ha h1'
      refine ⟨_, rfl, A.c_Table, .type "type", .int 3, _, rfl, T.rdT, ⟨k1, ⟨_, rfl⟩⟩, _, _, rfl, rfl, _, rfl, ?_⟩
      by_cases h3 : i < 3
      case neg =>
        refine iteF' (decide_eq_false (by omega)) ⟨_, rfl, _, _, rfl, rfl, false, .int 0, .int (i + 1), rfl, (fun z => by cases z), fun _ => bad s3 (by rw [eok, decide_eq_false h3]; rfl)⟩
      rw [decide_eq_true h3, Bool.true_and] at eok
      refine iteT' (decide_eq_true (by omega)) ⟨_, rfl, .inl ⟨c, rfl, sz (by have := hwc.1; omega), fun H4 s4 => ⟨_, rfl, ?_⟩⟩⟩
      have s5 := s3.trans s4
      cases hn : isNm c with
      | false =>
        rw [hn] at eok
        exact iteF' rfl ⟨_, rfl, _, _, rfl, rfl, false, .int 0, .int (i + 1), rfl, (fun z => by cases z), fun _ => bad s5 eok⟩
      | true =>
        rw [hn, Bool.true_and] at eok
        refine iteT' rfl ?_
        refine ⟨_, rfl, _, rfl, _, rfl, _, rfl, q, _, rfl, SqL.of (s5 _ _ v1), fun r hr' => ⟨r, _, rfl, .inl (SqL.of upd_same), rfl, ?_, _, rfl, _, _, rfl, rfl, !decide (c ∈ rest.take i), .int 0, .int (i + 1), ?_, fun hb => ?_, fun hb => ?_⟩⟩
        · rw [cut_take, ← List.map_take]; exact flat_strs _
        · rw [cut_take, ← List.map_take, inV_str]
          rfl
        · exact ⟨s5.trans (Same.new hr'), good (eok.trans hb), _, _, rfl⟩
        · exact bad (s5.trans (Same.new hr')) (eok.trans hb)
    · rintro σ H' ⟨s2, ha, v, u, rfl⟩
      have e1 : cols.take (rest.map V.str).length = cols := List.take_of_length_le (by rw [ecol, List.length_map, List.length_range, List.length_map]; omega)
      rw [e1] at ha
      exact ⟨_, rfl, q, _, rfl, .inl ⟨SqL.of (s2 _ _ v1), fun tc htc => kg ha tc _ ((s1.trans s2).trans (Same.new htc)) upd_same⟩⟩
end
end NK

namespace NK
open PySem PySem.Spec PyProof.Rows L2 NA TL
def cellS (cs ws : List Str) : List (Bool × Nat) := (decide (2 < ws.length), 2) :: (((List.range ws.length).map fun i => (okW cs ws i, i)) ++ [(decide (ws.length % 2 = 0), ws.length)])
theorem rowS_eq (cs known ws : List Str) : rowS cs known ws = (decide (1 < ws.length), 1) :: (!isTx (ws.getD 1 "") || decide (ws.getD 1 "" ∈ known) || decide (known.length < 40), 0) :: (isTx (ws.getD 1 "") && lastT known (ws.getD 1 ""), 1) :: cellS cs ws := rfl
theorem pairs_at : ∀ (l : List Str) (k : Nat) (a b : Str), l[2 * k]? = some a → l[2 * k + 1]? = some b → (pairsR l)[k]? = some (a, b)
  | [], k, a, b, h, _ => by cases h
  | [x], 0, a, b, _, h => by cases h
  | [x], k + 1, a, b, h, _ => by cases h
  | x :: y :: l, 0, a, b, h1, h2 => by cases h1; cases h2; rfl
  | x :: y :: l, k + 1, a, b, h1, h2 => pairs_at l k a b h1 h2
theorem pairs_len : ∀ l : List Str, (pairsR l).length = l.length / 2
  | [] => rfl
  | [x] => by show 0 = 1 / 2; decide
  | x :: y :: l => by
    show (pairsR l).length + 1 = (l.length + 1 + 1) / 2
    rw [pairs_len l]; omega
theorem okW_incr {cs ws : List Str} {n : Nat} (h : ∀ j, j < n → okW cs ws j = true) : ∀ d a, 2 + 2 * (a + d + 1) < n → ixC cs (ws.getD (2 + 2 * a) "") < ixC cs (ws.getD (2 + 2 * (a + d + 1)) "") := by
  have step : ∀ a, 2 + 2 * (a + 1) < n → ixC cs (ws.getD (2 + 2 * a) "") < ixC cs (ws.getD (2 + 2 * (a + 1)) "") := fun a ha => by
    have := h _ ha
    unfold okW at this
    rw [if_neg (by omega), if_pos (by omega)] at this
    simp only [Bool.and_eq_true, Bool.or_eq_true, decide_eq_true_eq] at this
    rcases this.2 with z | z
    · omega
    · rw [show 2 + 2 * (a + 1) - 2 = 2 + 2 * a by omega] at z
      exact z
  intro d
  induction d with
  | zero => exact fun a ha => step a ha
  | succ d ih =>
    intro a ha
    have h1 := ih a (by omega)
    have h2 := step (a + d + 1) (by omega)
    have e : a + (d + 1) + 1 = a + d + 1 + 1 := by omega
    rw [e]
    omega
theorem drop_mem {cs : List Str} (nd : cs.Nodup) {c : Str} {m : Nat} : c ∈ cs.drop m ↔ c ∈ cs ∧ m ≤ ixC cs c := by
  constructor
  · intro h
    have hm := List.mem_of_mem_drop h
    refine ⟨hm, ?_⟩
    obtain ⟨j, hj, e⟩ := List.mem_iff_getElem.mp h
    rw [List.getElem_drop] at e
    obtain ⟨x1, _⟩ := ixC_spec hm
    obtain ⟨hl, e2⟩ := List.getElem?_eq_some_iff.mp x1
    have := (List.getElem_inj nd).mp (e.trans e2.symm)
    omega
  · rintro ⟨hm, hle⟩
    obtain ⟨x1, _⟩ := ixC_spec hm
    obtain ⟨hl, e2⟩ := List.getElem?_eq_some_iff.mp x1
    refine List.mem_iff_getElem.mpr ⟨ixC cs c - m, by rw [List.length_drop]; omega, ?_⟩
    rw [List.getElem_drop]
    simpa only [show m + (ixC cs c - m) = ixC cs c by omega] using e2
/-- where what is free begins, ahead of the word at i -/
def nxF (cs ws : List Str) (i : Nat) : Nat := (lastV cs ws (i - 2) + 1).toNat
theorem nxF_0 {cs ws : List Str} {i : Nat} (h : i ≤ 2) : nxF cs ws i = 0 := by
  unfold nxF lastV
  rw [if_pos (by omega)]; rfl
theorem nxF_even {cs ws : List Str} {k : Nat} (h : k ≠ 0) : nxF cs ws (2 + 2 * k) = ixC cs (ws.getD (2 * k) "") + 1 := by
  unfold nxF lastV
  rw [if_neg (by omega), show 2 + 2 * ((2 + 2 * k - 2 - 1) / 2) = 2 * k by omega]
  omega
theorem nxF_odd {cs ws : List Str} {k : Nat} : nxF cs ws (3 + 2 * k) = ixC cs (ws.getD (2 + 2 * k) "") + 1 := by
  unfold nxF lastV
  rw [if_neg (by omega), show 2 + 2 * ((3 + 2 * k - 2 - 1) / 2) = 2 + 2 * k by omega]
  omega
/-- the keys of the pairs up to the word at n are unlike -/
theorem pairs_nd {cs ws : List Str} {n : Nat} (h : ∀ j, j < n → okW cs ws j = true) (hn : n ≤ ws.length) : (((pairsR (ws.drop 2)).take ((n - 1) / 2)).map (·.1)).Nodup := by
  refine List.pairwise_map.mpr (List.pairwise_iff_getElem.mpr fun i j hi hj hij e => ?_)
  rw [List.length_take] at hi hj
  rw [List.getElem_take, List.getElem_take] at e
  obtain ⟨a1, _⟩ := pairs_get (ws.drop 2) i _ (List.getElem?_eq_getElem (by omega))
  obtain ⟨b1, _⟩ := pairs_get (ws.drop 2) j _ (List.getElem?_eq_getElem (by omega))
  rw [List.getElem?_drop] at a1 b1
  have := okW_incr h (j - i - 1) i (by omega)
  rw [show i + (j - i - 1) + 1 = j by omega, List.getD_eq_getElem?_getD, a1, List.getD_eq_getElem?_getD, b1, e] at this
  exact Nat.lt_irrefl _ this
section
variable {P : Program} {w : World} {K : PySem.W.Frag} {mg : Str → Option Value} {base : Heap} {A : Ad}
def sp_celin (A : Ad) : Sp := fun vs H Q E => ∃ (v : V) (p tc : Addr) (ws cs : List Str), vs = [v, .ref p, .ref tc] ∧ H p = some (.lst (ws.map V.str)) ∧ H tc = some (.tup (cs.map V.str)) ∧ GCol cs ∧ 2 ≤ ws.length ∧ ws.length ≤ 100000 ∧ (∀ w ∈ ws, Wk w) ∧
  (scan (cellS cs ws) = none → ∀ b H', H b = none → Same H H' → Cel H' b (pairsR (ws.drop 2)) → Q (.ref b) H') ∧ (∀ k : Nat, scan (cellS cs ws) = some k → ErrT A H v (.int k) E)
theorem ok_celin (T : Tx P K mg A) : FnR P w K mg base (L2.CX P w) 4 A.f_cells_in (sp_celin A) := by
  refine fnx T.F_cells_in sc_cells_in (fun _ _ _ _ _ _ us hl => match us, hl with | [_, _, _], _ => rfl) (fun vs H Q E h => ?_) (fun cdv A' outer s H vs Q E hr h => ?_)
  · obtain ⟨v, p, tc, ws, cs, rfl, _⟩ := h; rfl
  · obtain ⟨v, p, tc, ws, cs, rfl, hp, htc, gc, l1, l2, hw, kg, kb⟩ := h
    refine ⟨_, pss_cons (ps_expr (pe_cl (ok_need T) (hr.mono (by decide)) (by rfl) T.mg_need T.kp_need passX (pa_cons (pe_cmpR op_gt (pe_callB (call_len_seqK (K := K) rfl) (by rfl) T.z_len PySem.boot_len (pa_cons (pv 1) pa_nil)) pe_int (nomark _)) (pa_cons (pv 0) (pa_cons pe_int pa_nil)))))
      (pss_cons (ps_set (i := 3) sc_cells_in.nd rfl (.inl rfl) pe_dnewK)
      (pss_cons (ps_set (i := 4) sc_cells_in.nd rfl (.inl rfl) (pe_callTy call_list_of (by rfl) T.z_list (by decide +kernel) (pa_cons (pv 2) pa_nil)))
      (pss_cons (ps_for (passes_of rfl) rfl (pi_enum (by rfl) T.z_enumerate (pa_cons (pv 1) pa_nil)) (pg_tup (by rfl) (pgs_cons (pg_name (i := 5) sc_cells_in.nd rfl (.inl rfl)) (pgs_cons (pg_name (i := 6) sc_cells_in.nd rfl (.inl rfl)) pgs_nil)))
        (pss_one (ps_if (PW.pt (pw_and (pt_cmpR op_gt (pv 5) pe_int (nomark _)) (pw_and1 (pt_cmpR op_eq (pe_op op_modN (pv 5) pe_int) pe_int (nomark _))))) (pss_cons (ps_expr (pe_cl (ok_need T) (hr.mono (by decide)) (by rfl) T.mg_need T.kp_need passX (pa_cons (pe_cmpR (r := rIn K false) op_in_seq (pv 6) (pv 4) (by rfl)) (pa_cons (pv 0) (pa_cons (pv 5) pa_nil)))))
      (pss_one (ps_set (i := 4) sc_cells_in.nd rfl (.inl rfl) (pe_slice sl_list (pv 4) (po_some (pe_op op_add (pe_bm PySem.F.plainAttrs_list PySem.F.slot_list_index PySem.F.type_list_index mt_index (pv 4) (pa_cons (pv 6) pa_nil)) pe_int)) po_none)))) (pss_one (ps_if (pt_cmpR op_gt (pv 5) pe_int (nomark _)) (pss_cons (ps_expr (pe_cl (ok_need T) (hr.mono (by decide)) (by rfl) T.mg_need T.kp_need passX (pa_cons (pe_cl (ok_is_name T) (hr.mono (by decide)) (by rfl) T.mg_is_name T.kp_is_name pass0 (pa_cons (pv 6) pa_nil)) (pa_cons (pv 0) (pa_cons (pv 5) pa_nil)))))
      (pss_one (ps_dput (hu_of hr) (pv 3) (pe_ix ix_list (pv 1) (pe_op op_sub (pv 5) pe_int) (fun _ _ => rfl)) (pv 6) rfl))) pss_nil)))))
      (pss_cons (ps_expr (pe_cl (ok_need T) (hr.mono (by decide)) (by rfl) T.mg_need T.kp_need passX (pa_cons (pe_cmpR op_eq (pe_op op_modN (pe_callB (call_len_seqK (K := K) rfl) (by rfl) T.z_len PySem.boot_len (pa_cons (pv 1) pa_nil)) pe_int) pe_int (nomark _)) (pa_cons (pv 0) (pa_cons (pe_callB (call_len_seqK (K := K) rfl) (by rfl) T.z_len PySem.boot_len (pa_cons (pv 1) pa_nil)) pa_nil)))))
      (pss_one (ps_ret (pv 3))))))), ?_⟩
    have c3 := gc.hi
    obtain ⟨W, eW⟩ : ∃ W, W = (List.range ws.length).map fun i => (okW cs ws i, i) := ⟨_, rfl⟩
    have eS : cellS cs ws = (decide (2 < ws.length), 2) :: (W ++ [(decide (ws.length % 2 = 0), ws.length)]) := by rw [eW]; rfl
    have hat : ∀ i, i < ws.length → W[i]? = some (okW cs ws i, i) := fun i hi => by
      rw [eW, List.getElem?_map, List.getElem?_range hi]; rfl
    have allok : ∀ n, n ≤ ws.length → scan (W.take n) = none → ∀ j, j < n → okW cs ws j = true := fun n hn h j hj => by
      have h1 : (W.take n)[j]? = some (okW cs ws j, j) := by rw [List.getElem?_take_of_lt hj]; exact hat j (by omega)
      exact scan_none h _ (List.mem_of_getElem? h1)
    rw [eS] at kg kb
    refine ⟨_, rfl, p, _, rfl, .inl (SqL.of hp), _, _, rfl, rfl, _, rfl, _, v, .int 2, rfl, fun h2 => ?_, fun h2 => ?_⟩
    case refine_2 =>
      have h2 := of_decide_eq_false h2
      rw [List.length_map] at h2
      exact kb 2 (by rw [decide_eq_false (by omega)]; rfl)
    have h2 := of_decide_eq_true h2
    rw [List.length_map] at h2
    rw [decide_eq_true (by omega)] at kg kb
    have kg : scan (W ++ [(decide (ws.length % 2 = 0), ws.length)]) = none → ∀ b H', H b = none → Same H H' → Cel H' b (pairsR (ws.drop 2)) → Q (.ref b) H' := kg
    have kb : ∀ k : Nat, scan (W ++ [(decide (ws.length % 2 = 0), ws.length)]) = some k → ErrT A H v (.int k) E := kb
    obtain ⟨prs, eP⟩ : ∃ prs, prs = pairsR (ws.drop 2) := ⟨_, rfl⟩
    have lP : prs.length = (ws.length - 2) / 2 := by rw [eP, pairs_len, List.length_drop]
    intro cb hcb
    have s1 := Same.new (o := .dK []) hcb
    have v1 : (upd H cb (.dK [])) cb = some (.dK []) := upd_same
    generalize upd H cb (.dK []) = H1 at s1 v1
    refine ⟨_, rfl, tc, _, rfl, .inr (SqT.of (s1 _ _ htc)), fun fr hfr => ?_⟩
    have s2 := s1.trans (Same.new (o := .lst (cs.map V.str)) hfr)
    have v2 := (Same.new (o := .lst (cs.map V.str)) hfr) _ _ v1
    have vf : (upd H1 fr (.lst (cs.map V.str))) fr = some (.lst (cs.map V.str)) := upd_same
    generalize upd H1 fr (.lst (cs.map V.str)) = H2 at s2 v2 vf
    refine ⟨_, rfl, p, _, rfl, SqL.of (s2 _ _ hp), for_it (walk_enum (a := p) (xs := ws.map V.str)) (fun i σ H' => Same H H' ∧ H' cb = some (.dK (celM (prs.take ((i - 2) / 2)))) ∧ scan (W.take i) = none ∧
        ∃ fr x y, H' fr = some (.lst ((cs.drop (nxF cs ws i)).map V.str)) ∧ σ = [some v, some (.ref p), some (.ref tc), some (.ref cb), some (.ref fr), x, y])
      ⟨s2, by simpa [celM] using v2, by rw [List.take_zero]; rfl, fr, none, none, by rw [nxF_0 (by omega), List.drop_zero]; exact vf, rfl⟩ (fun i σ H' _ h => SqL.of (h.1 _ _ hp)) ?_ ?_⟩
    · rintro i x σ Ha Hb hi ⟨sa, va, ha, fr, x0, y0, hfr, rfl⟩ ⟨tt, y, z, rfl, ht, rfl, ey, ez⟩
      injection ey with ey; subst ey
      dsimp only at ez
      rw [List.getElem?_map] at ez
      obtain ⟨wd, hwd, rfl⟩ := Option.map_eq_some_iff.mp ez
      have hi' : i < ws.length := by rw [List.length_map] at hi; exact hi
      have hwk := hw wd (List.mem_of_getElem? hwd)
      have egw : ws.getD i "" = wd := by rw [List.getD_eq_getElem?_getD, hwd]; rfl
      refine ⟨tt, _, rfl, SqT.of upd_same, rfl, _, _, rfl, _, _, rfl, rfl, ?_⟩
      have sn := Same.new (o := .tup [V.int (i : Nat), V.str wd]) ht
      have sb := sa.trans sn
      have vb := sn _ _ va
      have hfb := sn _ _ hfr
      generalize upd Ha tt (.tup [V.int (i : Nat), V.str wd]) = Hc at sn sb vb hfb
      have h1 := hat i hi'
      have bad : ∀ {Hz : Hp}, Same H Hz → okW cs ws i = false → ErrT A Hz v (.int (i : Nat)) E := fun {Hz} s ok => by
        rw [ok] at h1
        exact (kb i (by rw [scan_app, scan_hit ha h1])).up s
      have good : okW cs ws i = true → scan (W.take (i + 1)) = none := fun ok => by
        rw [ok] at h1
        exact scan_go ha h1
      have fin : ∀ {x1 x2 : Option V} {Hd : Hp} {fr' : Addr}, Same H Hd → Hd cb = some (.dK (celM (prs.take ((i + 1 - 2) / 2)))) → okW cs ws i = true → Hd fr' = some (.lst ((cs.drop (nxF cs ws (i + 1))).map V.str)) →
          (Same H Hd ∧ Hd cb = some (.dK (celM (prs.take ((i + 1 - 2) / 2)))) ∧ scan (W.take (i + 1)) = none ∧ ∃ fr x y, Hd fr = some (.lst ((cs.drop (nxF cs ws (i + 1))).map V.str)) ∧ [some v, some (.ref p), some (.ref tc), some (.ref cb), some (.ref fr'), x1, x2] = [some v, some (.ref p), some (.ref tc), some (.ref cb), some (.ref fr), x, y]) :=
        fun a b c d => ⟨a, b, good c, _, _, _, d, rfl⟩
      by_cases h1' : (1 : Int) < (i : Int)
      case neg =>
        refine ⟨_, rfl, _, _, rfl, rfl, _, rfl, iteF' (decide_eq_false h1') ⟨_, rfl, _, _, rfl, rfl, _, rfl, iteF' (decide_eq_false h1') ?_⟩⟩
        have e1 : (i + 1 - 2) / 2 = (i - 2) / 2 := by omega
        exact fin sb (by rw [e1]; exact vb) (by unfold okW; rw [if_pos (by omega)]) (by rw [nxF_0 (by omega)]; rw [nxF_0 (by omega)] at hfb; exact hfb)
      refine ⟨_, rfl, _, _, rfl, rfl, _, rfl, iteT' (decide_eq_true h1') ?_⟩
      have em : (i : Int).fmod 2 = (i : Int) % 2 := Int.fmod_eq_emod_of_nonneg _ (by decide)
      by_cases hev : i % 2 = 0
      · obtain ⟨kk, rfl⟩ : ∃ kk, i = 2 + 2 * kk := ⟨(i - 2) / 2, by omega⟩
        refine ⟨_, rfl, _, _, rfl, rfl, by show (2 : Int) ≠ 0; decide, rfl, _, rfl, iteT' (decide_eq_true (by show V.int (Int.fmod _ 2) = _; rw [em]; congr 1; omega)) ?_⟩
        obtain ⟨m, hm⟩ : ∃ m, m = nxF cs ws (2 + 2 * kk) := ⟨_, rfl⟩
        rw [← hm] at hfb
        have eok : okW cs ws (2 + 2 * kk) = decide (wd ∈ cs.drop m) := by
          unfold okW
          rw [if_neg (by omega), if_pos (by omega), egw, show 2 + 2 * kk - 2 = 2 * kk by omega, Bool.eq_iff_iff]
          simp only [Bool.and_eq_true, Bool.or_eq_true, decide_eq_true_eq]
          rw [drop_mem gc.nd, hm]
          by_cases h0 : kk = 0
          · subst h0
            rw [nxF_0 (by omega)]
            exact ⟨fun h => ⟨h.1, Nat.zero_le _⟩, fun h => ⟨h.1, .inl rfl⟩⟩
          · rw [nxF_even h0]
            exact ⟨fun h => ⟨h.1, h.2.elim (fun z => by omega) fun z => z⟩, fun h => ⟨h.1, .inr h.2⟩⟩
        refine ⟨_, rfl, _, rfl, fr, _, rfl, .inl (SqL.of hfb), rfl, flat_strs _, _, rfl, _, rfl, inV (.str wd) ((cs.drop m).map V.str), v, .int ((2 + 2 * kk : Nat) : Int), rfl, fun hin => ?_, fun hin => ?_⟩
        case refine_2 => exact bad sb (by rw [eok, ← inV_str]; exact hin)
        rw [inV_str] at hin
        have hmem := of_decide_eq_true hin
        have okk : okW cs ws (2 + 2 * kk) = true := by rw [eok]; exact hin
        obtain ⟨hmc, hle⟩ := (drop_mem gc.nd).mp hmem
        obtain ⟨x1, x2⟩ := ixC_spec hmc
        have lx := (List.getElem?_eq_some_iff.mp x1).1
        have ix : ((cs.drop m).map V.str)[ixC cs wd - m]? = some (V.str wd) := by
          rw [List.getElem?_map, List.getElem?_drop, show m + (ixC cs wd - m) = ixC cs wd by omega, x1]; rfl
        refine ⟨_, rfl, _, rfl, .inl ⟨rfl, _, SqL.of hfb⟩, _, rfl, fr, _, .str wd, ixC cs wd - m, .str wd, rfl, rfl, SqL.of hfb, rfl, flat_strs _, ix, by show (wd == wd) = true; exact beq_self_eq_true _, fun j z' hj hz => ?_, ?_⟩
        · rw [List.getElem?_map, List.getElem?_drop] at hz
          obtain ⟨c', hc', rfl⟩ := Option.map_eq_some_iff.mp hz
          exact beq_eq_false_iff_ne.mpr (x2 _ _ (by omega) hc')
        have ec : cutV ((cs.drop m).map V.str) (some (((ixC cs wd - m : Nat) : Int) + 1)) none = (cs.drop (ixC cs wd + 1)).map V.str := by
          unfold cutV
          rw [HT.sIx_none, show ((ixC cs wd - m : Nat) : Int) + 1 = ((ixC cs wd - m + 1 : Nat) : Int) from rfl, HT.sIx_nat, Nat.min_eq_left (by rw [List.length_map, List.length_drop]; omega), ← List.map_drop, List.drop_drop, show m + (ixC cs wd - m + 1) = ixC cs wd + 1 by omega]
          exact List.take_of_length_le (by simp; omega)
        refine ⟨_, _, rfl, rfl, _, rfl, fr, _, rfl, SqL.of hfb, fun fr' hfr' => ?_⟩
        rw [ec]
        have sF := Same.new (o := .lst ((cs.drop (ixC cs wd + 1)).map V.str)) hfr'
        refine fin (sb.trans sF) ?_ okk ?_
        · have := sF _ _ vb
          rw [show (2 + 2 * kk + 1 - 2) / 2 = (2 + 2 * kk - 2) / 2 by omega]
          exact this
        · rw [show 2 + 2 * kk + 1 = 3 + 2 * kk by omega, nxF_odd, egw]
          exact upd_same
      · obtain ⟨kk, rfl⟩ : ∃ kk, i = 3 + 2 * kk := ⟨(i - 3) / 2, by omega⟩
        refine ⟨_, rfl, _, _, rfl, rfl, by show (2 : Int) ≠ 0; decide, rfl, _, rfl, iteF' (decide_eq_false (by show ¬ V.int (Int.fmod _ 2) = _; rw [em]; intro z; injection z with z; omega)) ⟨_, rfl, _, _, rfl, rfl, _, rfl, iteT' (decide_eq_true h1') ?_⟩⟩
        have eok : okW cs ws (3 + 2 * kk) = isNm wd := by
          unfold okW
          rw [if_neg (by omega), if_neg (by omega), egw]
        refine ⟨_, rfl, .inl ⟨wd, rfl, sz (by have := hwk.1; omega), fun Hd sd => ?_⟩⟩
        have sbd := sb.trans sd
        refine ⟨_, rfl, _, rfl, isNm wd, v, .int ((3 + 2 * kk : Nat) : Int), rfl, fun hnm => ?_, fun hnm => bad sbd (eok.trans hnm)⟩
        have okk := eok.trans hnm
        have hpd := sbd _ _ hp
        have e0 : (3 + 2 * kk - 2) / 2 = kk := by omega
        rw [e0] at vb
        have vd := sd _ _ vb
        obtain ⟨c, hc⟩ : ∃ c, ws[2 + 2 * kk]? = some c := ⟨_, List.getElem?_eq_getElem (by omega)⟩
        have hq : prs[kk]? = some (c, wd) := by
          rw [eP]
          exact pairs_at _ _ _ _ (by rw [List.getElem?_drop]; exact hc) (by rw [List.getElem?_drop, show 2 + (2 * kk + 1) = 3 + 2 * kk by omega]; exact hwd)
        have ix : (ws.map V.str)[2 + 2 * kk]? = some (V.str c) := by rw [List.getElem?_map, hc]; rfl
        have ncf : fr ≠ cb := fun z => by subst z; rw [sd _ _ hfb] at vd; cases vd
        have ep : putR (prs.take kk) c wd = prs.take (kk + 1) := by
          have nd := pairs_nd (n := 3 + 2 * kk) (fun j hj => allok (3 + 2 * kk) (by omega) ha j hj) (by omega)
          rw [← eP, show (3 + 2 * kk - 1) / 2 = kk + 1 by omega, List.take_add_one, hq, List.map_append] at nd
          rw [putR_new (look_none.mpr fun p' hp' e => (List.nodup_append.mp nd).2.2 _ (List.mem_map_of_mem hp') _ (List.mem_singleton.mpr rfl) e), List.take_add_one, hq]
          rfl
        refine ⟨_, rfl, _, rfl, _, rfl, _, rfl, _, _, rfl, rfl, p, _, _, .str c, rfl, rfl, SqL.of hpd, ?_, cb, _, rfl, DPut.k (k := Sum.inr c) vd (by rw [List.length_map, List.length_take]; exact szl (by omega)), ?_⟩
        · rw [show ((3 + 2 * kk : Nat) : Int) - 1 = ((2 + 2 * kk : Nat) : Int) by omega]
          exact atI_nat ix
        · rw [putK_cel, ep]
          refine fin (Same.mut sbd hcb) ?_ okk ?_
          · rw [upd_same, show (3 + 2 * kk + 1 - 2) / 2 = kk + 1 by omega]
          · rw [upd_ne ncf, show 3 + 2 * kk + 1 = 2 + 2 * (kk + 1) by omega, nxF_even (by omega), show 2 * (kk + 1) = 2 + 2 * kk by omega]
            rw [nxF_odd] at hfb
            exact sd _ _ hfb
    · rintro σ Ha ⟨sa, va, ha, fr, x0, y0, hfr, rfl⟩
      have hpa := sa _ _ hp
      rw [List.length_map] at va ha
      have eWf : W.take ws.length = W := List.take_of_length_le (by rw [eW, List.length_map, List.length_range]; omega)
      have hok := allok ws.length (Nat.le_refl _) ha
      rw [eWf] at ha
      have e1 : prs.take ((ws.length - 2) / 2) = prs := List.take_of_length_le (by omega)
      rw [e1] at va
      have em : ((ws.map V.str).length : Int).fmod 2 = (ws.length : Nat) % 2 := by rw [List.length_map]; exact Int.fmod_eq_emod_of_nonneg _ (by decide)
      have e2 : scan (W ++ [(decide (ws.length % 2 = 0), ws.length)]) = scan [(decide (ws.length % 2 = 0), ws.length)] := by rw [scan_app, ha]
      rw [e2] at kg kb
      refine ⟨_, rfl, p, _, rfl, .inl (SqL.of hpa), _, _, rfl, rfl, by show (2 : Int) ≠ 0; decide, rfl, _, rfl, _, rfl, p, _, rfl, .inl (SqL.of hpa), decide (ws.length % 2 = 0), v, .int (ws.length : Nat), ?_, fun hb => ?_, fun hb => ?_⟩
      · show [V.bl (decide (V.int (Int.fmod _ 2) = V.int 0)), _, V.int _] = _
        rw [em, List.length_map]
        have : decide (V.int (((ws.length : Nat) : Int) % 2) = V.int 0) = decide (ws.length % 2 = 0) := decide_eq_decide.mpr ⟨fun h => by injection h with h; omega, fun h => by congr 1; omega⟩
        rw [this]
      · have hb := of_decide_eq_true hb
        refine ⟨_, rfl, kg (by rw [decide_eq_true hb]; rfl) cb Ha hcb sa ?_⟩
        rw [← eP]
        refine ⟨⟨fun z => ?_, ?_⟩, va⟩
        · rw [z, List.length_nil] at lP
          omega
        · have nd := pairs_nd hok (Nat.le_refl _)
          rw [← eP, show (ws.length - 1) / 2 = (ws.length - 2) / 2 by omega, e1] at nd
          exact nd
      · have hb := of_decide_eq_false hb
        exact (kb ws.length (by rw [decide_eq_false hb]; rfl)).up sa
end
end NK

namespace NK
open PySem PySem.Spec PyProof.Rows L2 NA TL
abbrev shF (tc ts l : Addr) : List (Str × V) := [("wide", .ref tc), ("sides", .ref ts), ("split_at", .ref l), ("stage", .int 0)]
/-- a sheet at x: its columns at tc, its first dict at d0, its other one empty -/
def Sht (A : Ad) (H : Hp) (x tc d0 : Addr) (cs : List Str) : Prop := ∃ dx ts l d1, H x = some (.ins A.c_Sheet dx (shF tc ts l)) ∧ H ts = some (.tup [.ref d0, .ref d1]) ∧ H d1 = some (.dK []) ∧ d1 ≠ d0 ∧ H tc = some (.tup (cs.map V.str))
theorem Sht.same {A : Ad} {H H' : Hp} {x tc d0 : Addr} {cs : List Str} (h : Sht A H x tc d0 cs) (e : Same H H') : Sht A H' x tc d0 cs :=
  let ⟨dx, ts, l, d1, h1, h2, h3, h4, h5⟩ := h; ⟨dx, ts, l, d1, e _ _ h1, e _ _ h2, e _ _ h3, h4, e _ _ h5⟩
theorem Sht.sam {A : Ad} {H H' : Hp} {x tc d0 : Addr} {cs : List Str} {kvs : List (Key × V)} (h : Sht A H x tc d0 cs) (hd : H d0 = some (.dK kvs)) (e : Sam d0 H H') : Sht A H' x tc d0 cs :=
  let ⟨dx, ts, l, d1, h1, h2, h3, h4, h5⟩ := h
  ⟨dx, ts, l, d1, e _ _ (fun z => by subst z; rw [hd] at h1; cases h1) h1, e _ _ (fun z => by subst z; rw [hd] at h2; cases h2) h2, e _ _ h4 h3, h4, e _ _ (fun z => by subst z; rw [hd] at h5; cases h5) h5⟩
theorem putF_new {k : Str} {v : V} : ∀ fs : List (Str × V), (∀ p ∈ fs, p.1 ≠ k) → putF k v fs = fs ++ [(k, v)]
  | [], _ => rfl
  | (a, b) :: fs, h => by
    unfold putF
    rw [if_neg (h (a, b) (List.mem_cons_self ..)), putF_new fs fun p hp => h p (List.mem_cons_of_mem _ hp)]
    rfl
theorem nes1 : ("wide" : Str) ≠ ("sides" : Str) ∧ ("wide" : Str) ≠ ("split_at" : Str) ∧ ("sides" : Str) ≠ ("split_at" : Str) ∧ ("wide" : Str) ≠ ("stage" : Str) ∧ ("sides" : Str) ≠ ("stage" : Str) ∧ ("split_at" : Str) ≠ ("stage" : Str) := by decide +kernel
theorem pfS1 (t u : V) : putF ("sides" : Str) u [(("wide" : Str), t)] = [(("wide" : Str), t), (("sides" : Str), u)] := putF_new _ fun p hp => by
  simp only [List.mem_cons, List.not_mem_nil, or_false] at hp
  subst hp; exact nes1.1
theorem pfS2 (t u v : V) : putF ("split_at" : Str) v [(("wide" : Str), t), (("sides" : Str), u)] = [(("wide" : Str), t), (("sides" : Str), u), (("split_at" : Str), v)] := putF_new _ fun p hp => by
  simp only [List.mem_cons, List.not_mem_nil, or_false] at hp
  rcases hp with rfl | rfl
  · exact nes1.2.1
  · exact nes1.2.2.1
theorem pfS3 (t u v w : V) : putF ("stage" : Str) w [(("wide" : Str), t), (("sides" : Str), u), (("split_at" : Str), v)] = [(("wide" : Str), t), (("sides" : Str), u), (("split_at" : Str), v), (("stage" : Str), w)] := putF_new _ fun p hp => by
  simp only [List.mem_cons, List.not_mem_nil, or_false] at hp
  rcases hp with rfl | rfl | rfl
  · exact nes1.2.2.2.1
  · exact nes1.2.2.2.2.1
  · exact nes1.2.2.2.2.2
section
variable {P : Program} {w : World} {K : PySem.W.Frag} {mg : Str → Option Value} {base : Heap} {A : Ad}
theorem Tx.clS (T : Tx P K mg A) : L2.Cls K A.c_Sheet := ⟨T.pg_Sheet, T.hd_Sheet, T.po_Sheet, T.sa_Sheet⟩
theorem Tx.mkS (T : Tx P K mg A) : Mk K A.c_Sheet A.f_Sheet_init := ⟨T.mk_Sheet, T.at_Sheet_init, T.fn_Sheet_init, T.kc_Sheet⟩
theorem Tx.addRowM (T : Tx P K mg A) : Meth K A.c_Sheet "add_row" A.f_Sheet_add_row := ⟨T.at_Sheet_add_row, T.fn_Sheet_add_row, T.kp_Sheet_add_row⟩
theorem Tx.isRoomM (T : Tx P K mg A) : Meth K A.c_Sheet "is_room" A.f_Sheet_is_room := ⟨T.at_Sheet_is_room, T.fn_Sheet_is_room, T.kp_Sheet_is_room⟩
theorem Tx.tableOnM (T : Tx P K mg A) : Meth K A.c_Sheet "table_on" A.f_Sheet_table_on := ⟨T.at_Sheet_table_on, T.fn_Sheet_table_on, T.kp_Sheet_table_on⟩
def sp_sinit (A : Ad) : Sp := fun vs H Q _ => ∃ (H0 : Hp) (x dx tc : Addr) (cs : List Str), vs = [.ref x, .ref tc] ∧ Same H0 H ∧ H0 x = none ∧ H x = some (.ins A.c_Sheet dx []) ∧ H0 tc = some (.tup (cs.map V.str)) ∧
  ∀ d0 H', Same H0 H' → H0 d0 = none → Sht A H' x tc d0 cs → H' d0 = some (.dK []) → Q .non H'
theorem ok_sinit (T : Tx P K mg A) : FnR P w K mg base CX0 1 A.f_Sheet_init (sp_sinit A) := by
  refine fnr T.F_Sheet_init sc_Sheet_init (fun _ _ _ _ _ _ us hl => match us, hl with | [_, _], _ => rfl) (fun vs H Q E h => ?_) (fun cdv A' outer s H vs Q E hr h => ?_)
  · obtain ⟨H0, x, dx, tc, cs, rfl, _⟩ := h; rfl
  · obtain ⟨H0, x, dx, tc, cs, rfl, s0, hx0, hx, htc, k⟩ := h
    refine ⟨_, pss_cons (ps_fld (pv 0) (pv 1) rfl)
      (pss_cons (ps_fld (pv 0) (pe_tup (pa_cons pe_dnewK (pa_cons pe_dnewK pa_nil))) rfl)
      (pss_cons (ps_fld (pv 0) (pe_lst pa_nil) rfl)
      (pss_one (ps_fld (pv 0) pe_int rfl)))), ?_⟩
    have nxt : tc ≠ x := ne_of_none htc hx0
    refine ⟨_, rfl, _, rfl, x, A.c_Sheet, dx, [], rfl, hx, T.clS, T.nwide_Sheet, by show 0 < 1000; decide, ?_⟩
    have s1 : Same H0 (upd H x (.ins A.c_Sheet dx [("wide", .ref tc)])) := Same.mut s0 hx0
    have hx1 : (upd H x (.ins A.c_Sheet dx [("wide", .ref tc)])) x = some (.ins A.c_Sheet dx [("wide", .ref tc)]) := upd_same
    show tSeq _ _ _ _ (upd H x (.ins A.c_Sheet dx [("wide", .ref tc)]))
    generalize upd H x (.ins A.c_Sheet dx [("wide", .ref tc)]) = H1 at s1 hx1 ⊢
    intro d0 hd0 d1 hd1
    refine ⟨sz (by show 2 ≤ 1000000; omega), fun ts hts => ?_⟩
    have b0 := Same.new (o := .dK []) hd0
    have b1 := Same.new (o := .dK []) hd1
    have b2 := Same.new (o := .tup [V.ref d0, .ref d1]) hts
    have v0 := b2 _ _ (b1 _ _ (upd_same : (upd H1 d0 (.dK [])) d0 = _))
    have v1 := b2 _ _ (upd_same : (upd (upd H1 d0 (.dK [])) d1 (.dK [])) d1 = _)
    have vt : (upd (upd (upd H1 d0 (.dK [])) d1 (.dK [])) ts (.tup [V.ref d0, .ref d1])) ts = some (.tup [V.ref d0, .ref d1]) := upd_same
    have b02 := (b0.trans b1).trans b2
    have n10 : d1 ≠ d0 := fun z => by subst z; rw [upd_same] at hd1; cases hd1
    have f0 : H0 d0 = none := s1.free hd0
    have hx2 := b02 _ _ hx1
    have s2 := s1.trans b02
    generalize upd (upd (upd H1 d0 (.dK [])) d1 (.dK [])) ts (.tup [V.ref d0, .ref d1]) = H2 at b02 v0 v1 vt hx2 s2
    refine ⟨_, rfl, x, A.c_Sheet, dx, _, rfl, hx2, T.clS, T.nsides_Sheet, by show 1 < 1000; decide, ?_⟩
    rw [pfS1]
    have nt : ts ≠ x := fun z => by subst z; rw [vt] at hx2; cases hx2
    have n0 : d0 ≠ x := fun z => by subst z; rw [v0] at hx2; cases hx2
    have n1 : d1 ≠ x := fun z => by subst z; rw [v1] at hx2; cases hx2
    have s3 : Same H0 (upd H2 x (.ins A.c_Sheet dx [("wide", .ref tc), ("sides", .ref ts)])) := Same.mut s2 hx0
    have e3 : Sam x H2 (upd H2 x (.ins A.c_Sheet dx [("wide", .ref tc), ("sides", .ref ts)])) := (Sam.refl _).upd
    have hx3 : (upd H2 x (.ins A.c_Sheet dx [("wide", .ref tc), ("sides", .ref ts)])) x = some (.ins A.c_Sheet dx [("wide", .ref tc), ("sides", .ref ts)]) := upd_same
    have v0 := e3 _ _ n0 v0
    have v1 := e3 _ _ n1 v1
    have vt := e3 _ _ nt vt
    generalize upd H2 x (.ins A.c_Sheet dx [("wide", .ref tc), ("sides", .ref ts)]) = H3 at s3 e3 hx3 v0 v1 vt
    refine ⟨sz (by show 0 ≤ 1000000; omega), fun l hl => ?_⟩
    have b3 := Same.new (o := .lst []) hl
    have s4 := s3.trans b3
    refine ⟨_, rfl, x, A.c_Sheet, dx, _, rfl, b3 _ _ hx3, T.clS, T.nsplit_at_Sheet, by show 2 < 1000; decide, ?_⟩
    rw [pfS2]
    refine ⟨_, rfl, x, A.c_Sheet, dx, _, rfl, upd_same, T.clS, T.nstage_Sheet, by show 3 < 1000; decide, ?_⟩
    rw [pfS3]
    have fx : ∀ {a : Addr} {o : HO}, a ≠ x → H3 a = some o → (upd (upd (upd H3 l (.lst [])) x (.ins A.c_Sheet dx [("wide", .ref tc), ("sides", .ref ts), ("split_at", .ref l)])) x (.ins A.c_Sheet dx (shF tc ts l))) a = some o := fun {a o} n h => by
      rw [upd_ne n, upd_ne n]; exact b3 _ _ h
    exact k d0 _ (Same.mut (Same.mut s4 hx0) hx0) f0 ⟨dx, ts, l, d1, upd_same, fx nt vt, fx n1 v1, n10, fx nxt (s3 _ _ htc)⟩ (fx n0 v0)
end
end NK

namespace NK
open PySem PySem.Spec PyProof.Rows L2 NA TL
theorem shl_wide (tc ts l : Addr) : (shF tc ts l).lookup ("wide" : Str) = some (.ref tc) := by
  show List.lookup ("wide" : Str) ((("wide" : Str), V.ref tc) :: _) = _
  rw [List.lookup, show (("wide" : Str) == ("wide" : Str)) = true from beq_self_eq_true _]
theorem shl_sides (tc ts l : Addr) : (shF tc ts l).lookup ("sides" : Str) = some (.ref ts) := by
  show List.lookup ("sides" : Str) ((("wide" : Str), V.ref tc) :: (("sides" : Str), V.ref ts) :: _) = _
  rw [List.lookup, show (("sides" : Str) == ("wide" : Str)) = false from by decide +kernel, List.lookup, show (("sides" : Str) == ("sides" : Str)) = true from beq_self_eq_true _]
theorem shl_none (tc ts l : Addr) {m : Str} (h1 : (m == ("wide" : Str)) = false) (h2 : (m == ("sides" : Str)) = false) (h3 : (m == ("split_at" : Str)) = false) (h4 : (m == ("stage" : Str)) = false) : (shF tc ts l).lookup m = none := by
  show List.lookup m ((("wide" : Str), V.ref tc) :: (("sides" : Str), V.ref ts) :: (("split_at" : Str), V.ref l) :: (("stage" : Str), V.int 0) :: []) = _
  rw [List.lookup, h1, List.lookup, h2, List.lookup, h3, List.lookup, h4, List.lookup]
/-- [b(x) for x in d], d a dict of rows -/
theorem v_allB {σ : L2.St} {id i : Nat} {H : Hp} {d : Addr} {rs : Rows} {Q : VK} (hR : Rws H d rs) (h64 : rs.length < 64) (hσ : σ[id]? = some (some (.ref d))) (h1 : ∀ x, wipe ((wipe σ [i]).set i (some x)) [i] = wipe σ [i]) (te : TE) (b : Str → Bool)
    (hte : ∀ q ∈ rs, ∀ H' (Q' : VK), Q' (.bl (b q.1)) H' → te ((wipe σ [i]).set i (some (.str q.1))) H' Q')
    (k : ∀ p H', H p = none → Same H H' → H' p = some (.lst ((rs.map fun q => b q.1).map V.bl)) → Q (.ref p) H') :
    tLockE (tLc (iKeys (tVar id)) (gName i) tYes te [i]) σ H Q := by
  obtain ⟨kvs, hK⟩ := hR
  have hd := hK.1
  obtain ⟨q1, q2, q3, q4, q5⟩ := hK.pt
  have hlen : kvs.length = rs.length := hK.2.length
  refine ⟨d, _, hd, trivial, fun od => ⟨_, hσ, d, od, rfl, .inl ⟨kvs, upd_same, fun D hD => ?_⟩⟩⟩
  refine lc_all (walk_keys (d := d) (o := od) (kvs := kvs)) (fun i v _ => v = .bl (b ((rs.map (·.1)).getD i ""))) hD (fun _ _ _ _ _ _ _ h => h) (fun H3 s3 => s3 _ _ upd_same) (by rw [hlen]; exact szl (by omega)) ?_ g_name_mono ?_
  · rintro j x H3 H4 hj s3 ⟨rfl, key, v, e, rfl⟩
    have ek : (rs.map (fun p => (Sum.inr p.1 : Key)))[j]? = some key := by rw [← q2, List.getElem?_map, e]; rfl
    rw [List.getElem?_map] at ek
    obtain ⟨q, hq, rfl⟩ := Option.map_eq_some_iff.mp ek
    exact ⟨Same.refl _, h1 _, Same.refl _, fun Q' hQ => hte q (List.mem_of_getElem? hq) _ _ (hQ _ _ (Same.refl _) (by rw [List.getD_eq_getElem?_getD, List.getElem?_map, hq]; rfl))⟩
  · intro H3 ys s3 e3 hl3 hy
    have ey : ys = (rs.map fun q => b q.1).map V.bl := by
      rw [list_fn hl3 hy, hlen, ← List.length_map (f := fun x : Str × Row => x.1) (as := rs)]
      have := range_map (rs.map (·.1)) ("" : Str) fun z => V.bl (b z)
      rw [this, List.map_map, List.map_map]; rfl
    have sU := Same.unlock hd s3
    have hnd : D ≠ d := fun z => by subst z; rw [upd_same] at hD; cases hD
    have hD0 : H D = none := by rw [upd_ne hnd] at hD; exact hD
    exact ⟨s3 _ _ upd_same, k D _ hD0 sU (by rw [upd_ne hnd, e3, ey])⟩
section
variable {P : Program} {w : World} {K : PySem.W.Frag} {mg : Str → Option Value} {base : Heap} {A : Ad}
def sp_is_room (A : Ad) : Sp := fun vs H Q _ => ∃ (x tc d0 : Addr) (t : Str) (cs : List Str) (rs : Rows), vs = [.ref x, .str t] ∧ Sht A H x tc d0 cs ∧ Rws H d0 rs ∧ rs.length ≤ 40 ∧ (rs.map (·.1)).Nodup ∧ ∀ H', Same H H' → Q (.bl (decide (t ∈ rs.map (·.1)) || decide (rs.length < 40))) H'
theorem ok_is_room (T : Tx P K mg A) : FnR P w K mg base CX0 1 A.f_Sheet_is_room (sp_is_room A) := by
  obtain ⟨t1, k1⟩ := T.most_Table
  refine fnr T.F_Sheet_is_room sc_Sheet_is_room (fun _ _ _ _ _ _ us hl => match us, hl with | [_, _], _ => rfl) (fun vs H Q E h => ?_) (fun cdv A' outer s H vs Q E hr h => ?_)
  · obtain ⟨x, tc, d0, t, cs, rs, rfl, _⟩ := h; rfl
  · obtain ⟨x, tc, d0, t, cs, rs, rfl, ⟨dx, ts, l, d1, hx, hts, hd1, n10, htc⟩, ⟨kvs, hK⟩, h40, nd, k⟩ := h
    refine ⟨_, pss_cons (ps_set (i := 2) sc_Sheet_is_room.nd rfl (.inl rfl) (pe_mrg (pe_ix ix_tup (pe_fld (pv 0) rfl) pe_int (fun _ _ => rfl)) (pe_ix ix_tup (pe_fld (pv 0) rfl) pe_int (fun _ _ => rfl))))
      (pss_one (ps_ret (pe_or (pe_cmp (pc_din (hu_of hr) (pv 1) (pv 2)) rfl) (pe_one (pe_cmpR op_lt (pe_callB call_lenD (by rfl) T.z_len PySem.boot_len (pa_cons (pv 2) pa_nil)) (ClX.pe_cval (pe_glob (v := .ref A.c_Table) (by rfl) T.mg_Table rfl)) (nomark _)))))), ?_⟩
    have hd0 := hK.1
    have hlen : kvs.length = rs.length := hK.2.length
    intro p hp
    have s1 := Same.new (o := .dK []) hp
    have np0 : p ≠ d0 := (ne_of_none hd0 hp).symm
    have np1 : p ≠ d1 := (ne_of_none hd1 hp).symm
    refine ⟨_, rfl, x, _, dx, _, _, rfl, s1 _ _ hx, T.clS, T.nsides_Sheet, shl_sides tc ts l, ?_⟩
    refine ⟨ts, _, 0, .ref d0, rfl, rfl, SqT.of (s1 _ _ hts), atI_nat (j := 0) rfl, d0, kvs, rfl, .inl (s1 _ _ hd0), np0, upd_same, sz (by omega), ?_⟩
    have s2 : Same H (upd (upd H p (.dK [])) p (.dK (mergeK [] kvs))) := Same.mut s1 hp
    have vp : (upd (upd H p (.dK [])) p (.dK (mergeK [] kvs))) p = some (.dK (mergeK [] kvs)) := upd_same
    generalize upd (upd H p (.dK [])) p (.dK (mergeK [] kvs)) = H2 at s2 vp
    refine ⟨_, rfl, x, _, dx, _, _, rfl, s2 _ _ hx, T.clS, T.nsides_Sheet, shl_sides tc ts l, ts, _, 1, .ref d1, rfl, rfl, SqT.of (s2 _ _ hts), atI_nat (j := 1) rfl, d1, [], rfl, .inl (s2 _ _ hd1), np1, vp, sz (by show _ + 0 ≤ _; omega), ?_⟩
    have s3 : Same H (upd H2 p (.dK (mergeK (mergeK [] kvs) []))) := Same.mut s2 hp
    have v3 : (upd H2 p (.dK (mergeK (mergeK [] kvs) []))) p = some (.dK (mergeK [] kvs)) := upd_same
    have ekv : mergeK [] kvs = kvs := by
      obtain ⟨q1, q2, q3, q4, q5⟩ := hK.pt
      exact mergeK_nil (by rw [q2]; exact List.Pairwise.map _ (fun a b hab q => hab (Sum.inr.inj q)) nd |> fun h => by rw [List.map_map] at h; exact h)
    replace v3 : (upd H2 p (.dK (mergeK (mergeK [] kvs) []))) p = some (.dK kvs) := by rw [upd_same]; exact congrArg (fun x => some (HO.dK x)) ekv
    have dg := DGet.k (k := Sum.inr t) v3
    have hin : (valV kvs (Sum.inr t)).isSome = decide (t ∈ rs.map (·.1)) := by
      obtain ⟨q1, q2, q3, q4, q5⟩ := hK.pt
      cases e : look rs t with
      | some r =>
        obtain ⟨a, ha, _⟩ := q4 t r e
        rw [ha, decide_eq_true (List.mem_map_of_mem (f := fun x : Str × Row => x.1) (look_mem e))]; rfl
      | none =>
        rw [q5 t e, decide_eq_false fun hm => by
          obtain ⟨q, hq, he⟩ := List.mem_map.mp hm
          exact look_none.mp e q hq he]; rfl
    generalize upd H2 p (.dK (mergeK (mergeK [] kvs) [])) = H3 at s3 v3 dg
    refine ⟨_, rfl, _, rfl, p, _, rfl, dg, _, rfl, ?_⟩
    rw [hin]
    by_cases hm : t ∈ rs.map (·.1)
    · refine iteT' (decide_eq_true hm) ?_
      have := k _ s3
      rw [decide_eq_true hm, Bool.true_or] at this
      exact this
    · refine iteF' (decide_eq_false hm) ⟨_, rfl, p, _, rfl, v3, A.c_Table, .type "type", .int 40, _, rfl, T.rdT, ⟨k1, ⟨_, rfl⟩⟩, _, _, rfl, rfl, ?_⟩
      have := k _ s3
      rw [decide_eq_false hm, Bool.false_or, ← hlen] at this
      have e2 : decide (((kvs.length : Nat) : Int) < 40) = decide (kvs.length < 40) := decide_eq_decide.mpr (by omega)
      show Q (.bl (decide _)) _
      rw [e2]
      exact this
def sp_table_on (A : Ad) : Sp := fun vs H Q _ => ∃ (x tc d0 : Addr) (cs : List Str) (rs : Rows), vs = [.ref x, .int 0] ∧ Sht A H x tc d0 cs ∧ Rws H d0 rs ∧ GCol cs ∧ GRw cs rs ∧ rs.length ≤ 40 ∧
  ∀ g dx fs H', H g = none → H dx = none → Same H H' → fs.Perm rs → Tbl A H' g dx cs fs → Q (.ref g) H'
theorem ok_table_on (T : Tx P K mg A) : FnR P w K mg base CX0 7 A.f_Sheet_table_on (sp_table_on A) := by
  refine fnr T.F_Sheet_table_on sc_Sheet_table_on (fun _ _ _ _ _ _ us hl => match us, hl with | [_, _], _ => rfl) (fun vs H Q E h => ?_) (fun cdv A' outer s H vs Q E hr h => ?_)
  · obtain ⟨x, tc, d0, cs, rs, rfl, _⟩ := h; rfl
  · obtain ⟨x, tc, d0, cs, rs, rfl, ⟨dx, ts, l, d1, hx, hts, hd1, n10, htc⟩, hR, gc, gr, l40, k⟩ := h
    refine ⟨_, pss_one (ps_ret (StX.pe_makeR T.mkT (ok_tinit T) (hr.mono (by decide)) (by rfl) T.mg_Table passF (pa_cons (pe_fld (pv 0) rfl) (pa_cons (pe_ix ix_tup (pe_fld (pv 0) rfl) (pv 1) (fun _ _ => rfl)) pa_nil)))), ?_⟩
    refine ⟨_, rfl, x, _, dx, _, _, rfl, hx, T.clS, T.nwide_Sheet, shl_wide tc ts l, _, rfl, x, _, dx, _, _, rfl, hx, T.clS, T.nsides_Sheet, shl_sides tc ts l, _, rfl, ts, _, 0, .ref d0, rfl, rfl, SqT.of hts, atI_nat (j := 0) rfl, ?_⟩
    unfold tNil
    dsimp only
    exact mk_good' (.inr htc) gc gr l40 hR fun g H' dx fs hg hd s pm t _ => k g dx fs H' hg hd s pm t
end
end NK

namespace NK
open PySem PySem.Spec PyProof.Rows L2 NA TL
section
variable {P : Program} {w : World} {K : PySem.W.Frag} {mg : Str → Option Value} {base : Heap} {A : Ad}
def sp_add_row (A : Ad) : Sp := fun vs H Q E => ∃ (x tc d0 p : Addr) (v : V) (ws cs : List Str) (rs : Rows), vs = [.ref x, .int 0, v, .ref p] ∧ Sht A H x tc d0 cs ∧ Rws H d0 rs ∧ H p = some (.lst (ws.map V.str)) ∧ GCol cs ∧ 1 ≤ ws.length ∧ ws.length ≤ 100000 ∧ (∀ w ∈ ws, Wk w) ∧
  rs.length ≤ 40 ∧ (rs.map (·.1)).Nodup ∧ (scan (rowS cs (rs.map (·.1)) ws) = none → ∀ H', Sam d0 H H' → Rws H' d0 (putR rs (ws.getD 1 "") (pairsR (ws.drop 2))) → Q .non H') ∧ (∀ k : Nat, scan (rowS cs (rs.map (·.1)) ws) = some k → ErrT A H v (.int k) E)
theorem ok_add_row (T : Tx P K mg A) : FnR P w K mg base (L2.CX P w) 5 A.f_Sheet_add_row (sp_add_row A) := by
  refine fnx T.F_Sheet_add_row sc_Sheet_add_row (fun _ _ _ _ _ _ us hl => match us, hl with | [_, _, _, _], _ => rfl) (fun vs H Q E h => ?_) (fun cdv A' outer s H vs Q E hr h => ?_)
  · obtain ⟨x, tc, d0, p, v, ws, cs, rs, rfl, _⟩ := h; rfl
  · obtain ⟨x, tc, d0, p, v, ws, cs, rs, rfl, hS, hR, hp, gc, l1, l2, hw, h40, nd, kg, kb⟩ := h
    refine ⟨_, pss_cons (ps_expr (pe_cl (ok_need T) (hr.mono (by decide)) (by rfl) T.mg_need T.kp_need passX (pa_cons (pe_cmpR op_gt (pe_callB (call_len_seqK (K := K) rfl) (by rfl) T.z_len PySem.boot_len (pa_cons (pv 3) pa_nil)) pe_int (nomark _)) (pa_cons (pv 2) (pa_cons pe_int pa_nil)))))
      (pss_cons (ps_asg (pe_tup (pa_cons (pe_ix ix_tup (pe_fld (pv 0) rfl) (pv 1) (fun _ _ => rfl)) (pa_cons (pe_ix ix_list (pv 3) pe_int (fun _ _ => rfl)) pa_nil))) (pg_tup (by rfl) (pgs_cons (pg_name (i := 4) sc_Sheet_add_row.nd rfl (.inl rfl)) (pgs_cons (pg_name (i := 5) sc_Sheet_add_row.nd rfl (.inr rfl)) pgs_nil))) (by rfl))
      (pss_jn (ps_if (pt_val (pe_cl (ok_is_text T) (hr.mono (by decide)) (by rfl) T.mg_is_text T.kp_is_text pass0 (pa_cons (pv 5) pa_nil))) (pss_one (ps_expr (pe_cl (ok_need T) (hr.mono (by decide)) (by rfl) T.mg_need T.kp_need passX (pa_cons (pe_methR (pv 0) T.clS T.isRoomM (ok_is_room T) (hr.mono (by decide)) pass0 (pa_cons (pv 5) pa_nil)) (pa_cons (pv 2) (pa_cons pe_int pa_nil)))))) pss_nil)
      (pss_cons (ps_expr (pe_cl (ok_need T) (hr.mono (by decide)) (by rfl) T.mg_need T.kp_need passX (pa_cons (pe_and (pe_cl (ok_is_text T) (hr.mono (by decide)) (by rfl) T.mg_is_text T.kp_is_text pass0 (pa_cons (pv 5) pa_nil)) (pe_one (pe_callB (cr_all rfl) (by rfl) T.z_all (by decide +kernel) (pa_cons (pe_lock (pe_lc (own := [("other", 6)]) (g := gName 6) (tt := tYes) rfl sc_Sheet_add_row.nd (pi_keys (pv 4)) (blkOk_by (N := ["self", "side", "line", "words", "rows", "place", "other"]) (sc := defScope s_Sheet_add_row) (by decide +kernel)) (fun _ _ _ _ _ => pg_name (i := 6) sc_Sheet_add_row.nd rfl (Or.inl rfl)) (fun _ _ _ _ _ => pts_nil) (fun _ _ _ _ _ => (pe_cmpR op_lt_str (pv 6) (pv 5) (nomark _))))) pa_nil)))) (pa_cons (pv 2) (pa_cons pe_int pa_nil)))))
      (pss_one (ps_dput (hu_of hr) (pv 4) (pv 5) (pe_cl (ok_celin T) (hr.mono (by decide)) (by rfl) T.mg_cells_in T.kp_cells_in passX (pa_cons (pv 2) (pa_cons (pv 3) (pa_cons (pe_fld (pv 0) rfl) pa_nil)))) rfl))))), ?_⟩
    obtain ⟨dx, ts, l, d1, hx, hts, hd1, n10, htc⟩ := id hS
    obtain ⟨kvs, hK⟩ := id hR
    have hd0 := hK.1
    rw [rowS_eq] at kg kb
    refine ⟨_, rfl, p, _, rfl, .inl (SqL.of hp), _, _, rfl, rfl, _, rfl, _, v, .int 1, rfl, fun h1 => ?_, fun h1 => ?_⟩
    case refine_2 =>
      have h1 := of_decide_eq_false h1
      rw [List.length_map] at h1
      exact kb 1 (by rw [decide_eq_false (by omega)]; rfl)
    have h1 := of_decide_eq_true h1
    rw [List.length_map] at h1
    rw [decide_eq_true (by omega)] at kg kb
    obtain ⟨t, ht⟩ : ∃ t, ws[1]? = some t := ⟨_, List.getElem?_eq_getElem (by omega)⟩
    have hwt := hw t (List.mem_of_getElem? ht)
    have egt : ws.getD 1 "" = t := by rw [List.getD_eq_getElem?_getD, ht]; rfl
    have hix : (ws.map V.str)[1]? = some (V.str t) := by rw [List.getElem?_map, ht]; rfl
    rw [egt] at kg kb
    refine ⟨_, rfl, x, _, dx, _, _, rfl, hx, T.clS, T.nsides_Sheet, shl_sides tc ts l, _, rfl, ts, _, 0, .ref d0, rfl, rfl, SqT.of hts, atI_nat (j := 0) rfl, ?_⟩
    refine ⟨_, rfl, p, _, 1, .str t, rfl, rfl, SqL.of hp, atI_nat (j := 1) hix, sz (by show 2 ≤ 1000000; omega), fun tp htp => ?_⟩
    have s1 := Same.new (o := .tup [V.ref d0, .str t]) htp
    refine ⟨tp, _, rfl, SqT.of upd_same, rfl, _, _, rfl, _, _, rfl, rfl, ?_⟩
    generalize upd H tp (.tup [V.ref d0, .str t]) = H1 at s1 ⊢
    have hlen : (rs.map (·.1)).length = rs.length := List.length_map _
    rw [hlen] at kg kb
    refine ⟨fun σ' H' => Same H H' ∧ σ' = [some (.ref x), some (.int 0), some v, some (.ref p), some (.ref d0), some (.str t), none] ∧ (!isTx t || decide (t ∈ rs.map (·.1)) || decide (rs.length < 40)) = true, ?_, ?_⟩
    · refine ⟨_, rfl, .inl ⟨t, rfl, hwt.1, fun H2 s2 => ⟨isTx t, rfl, ?_⟩⟩⟩
      have s02 := s1.trans s2
      cases hT : isTx t with
      | false => exact iteF ⟨s02, rfl, rfl⟩
      | true =>
        rw [hT] at kb
        refine iteT ?_
        refine ⟨_, rfl, x, dx, _, rfl, s02 _ _ hx, shl_none tc ts l (by decide +kernel) (by decide +kernel) (by decide +kernel) (by decide +kernel), _, rfl, x, tc, d0, t, cs, rs, rfl, hS.same s02, hR.same s02, h40, nd, fun H3 s3 => ?_⟩
        refine ⟨_, rfl, _, v, .int 0, rfl, fun hb => ⟨s02.trans s3, rfl, ?_⟩, fun hb => ?_⟩
        · rw [Bool.not_true, Bool.false_or]; exact hb
        · refine (kb 0 ?_).up (s02.trans s3)
          rw [Bool.not_true, Bool.false_or, hb]; rfl
    · rintro σ' H2 ⟨s2, rfl, hroom⟩
      rw [hroom] at kg kb
      refine ⟨_, rfl, .inl ⟨t, rfl, hwt.1, fun H3 s3 => ⟨isTx t, rfl, ?_⟩⟩⟩
      have s03 := s2.trans s3
      cases hT : isTx t with
      | false =>
        rw [hT] at kb
        exact iteF ⟨_, rfl, false, v, .int 1, rfl, (fun z => by cases z), fun _ => (kb 1 rfl).up s03⟩
      | true =>
        rw [hT] at kg kb
        refine iteT ?_
        refine v_allB (hR.same s03) (by omega) rfl (fun _ => rfl) _ (fun q => decide (q.cps.toList < t.cps.toList)) (fun q hq H' Q' hQ => ⟨_, rfl, _, rfl, q.1, t, rfl, rfl, hQ⟩) fun D H4 hD s4 v4 => ?_
        have s04 := s03.trans s4
        have eall : (rs.map fun q => decide (q.1.cps.toList < t.cps.toList)).all id = lastT (rs.map (·.1)) t := by
          unfold lastT
          rw [List.all_map, List.all_map]; rfl
        refine ⟨D, _, rfl, SqL.of v4, _, rfl, _, v, .int 1, rfl, fun hb => ?_, fun hb => ?_⟩
        case refine_2 =>
          rw [eall] at hb
          rw [hb] at kb
          exact (kb 1 rfl).up s04
        rw [eall] at hb
        rw [hb] at kg kb
        have kg : scan (cellS cs ws) = none → ∀ H', Sam d0 H H' → Rws H' d0 (putR rs t (pairsR (ws.drop 2))) → Q .non H' := kg
        have kb : ∀ k : Nat, scan (cellS cs ws) = some k → ErrT A H v (.int k) E := kb
        refine ⟨_, rfl, _, rfl, _, rfl, x, _, dx, _, _, rfl, s04 _ _ hx, T.clS, T.nwide_Sheet, shl_wide tc ts l, v, p, tc, ws, cs, rfl, s04 _ _ hp, s04 _ _ htc, gc, by omega, l2, hw, fun hc b H5 hb' s5 cb => ?_, fun kk hkk => (kb kk hkk).up s04⟩
        have s05 := s04.trans s5
        obtain ⟨kvs5, hK5⟩ := hR.same s05
        refine ⟨_, rfl, _, rfl, d0, _, rfl, DPut.k (k := Sum.inr t) hK5.1 (by rw [hK5.2.length]; exact szl (by omega)), ?_⟩
        exact kg hc _ (Sam.of s05).upd (Rws.put hK5 cb)
end
end NK

namespace NK
open PySem PySem.Spec PyProof.Rows L2 NA TL
theorem pairs_of : ∀ l : Row, pairsR (flatR l) = l
  | [] => rfl
  | p :: l => by
    show (p.1, p.2) :: pairsR (flatR l) = _
    rw [pairs_of l]
abbrev rowP (ws : List Str) : Str × Row := (ws.getD 1 "", pairsR (ws.drop 2))
section
variable {P : Program} {w : World} {K : PySem.W.Frag} {mg : Str → Option Value} {base : Heap} {A : Ad}
def sp_readt (A : Ad) (K : PySem.W.Frag) : Sp := fun vs H Q E => ∃ (v : V) (ox : Option Str), vs = [v] ∧ TV K H v ox ∧
  (∀ x cs f zs, ox = some x → faultOf ox = none → LSof x = linesW cs f zs → GX cs f zs → ∀ g dx fs H', H g = none → Same H H' → fs.Perm (atG (fun z => prs cs (f z)) zs) → Tbl A H' g dx cs fs → Q (.ref g) H') ∧ (∀ i j : Nat, faultOf ox = some (i, j) → ErrT A H (.int i) (.int j) E)
theorem ok_readt (T : Tx P K mg A) : FnR P w K mg base (L2.CX P w) 9 A.f_read_table (sp_readt A K) := by
  refine fnx T.F_read_table sc_read_table (fun _ _ _ _ _ _ us hl => match us, hl with | [_], _ => rfl) (fun vs H Q E h => ?_) (fun cdv A' outer s H vs Q E hr h => ?_)
  · obtain ⟨v, ox, rfl, _⟩ := h; rfl
  · obtain ⟨v, ox, rfl, hv, kg, kb⟩ := h
    refine ⟨_, pss_cons (ps_set (i := 1) sc_read_table.nd rfl (.inl rfl) (pe_cl (ok_words T) (hr.mono (by decide)) (by rfl) T.mg_words_of T.kp_words_of passX (pa_cons (pv 0) pa_nil)))
      (pss_cons (ps_set (i := 2) sc_read_table.nd rfl (.inl rfl) (StX.pe_makeR T.mkS (ok_sinit T) (hr.mono (by decide)) (by rfl) T.mg_Sheet pass0 (pa_cons (pe_cl (ok_colin T) (hr.mono (by decide)) (by rfl) T.mg_columns_in T.kp_columns_in passX (pa_cons (pe_ix ix_list (pv 1) pe_int (fun _ _ => rfl)) pa_nil)) pa_nil)))
      (pss_cons (ps_for (passes_of rfl) rfl (pi_enum (by rfl) T.z_enumerate (pa_cons (pv 1) pa_nil)) (pg_tup (by rfl) (pgs_cons (pg_name (i := 3) sc_read_table.nd rfl (.inl rfl)) (pgs_cons (pg_name (i := 4) sc_read_table.nd rfl (.inl rfl)) pgs_nil)))
        (pss_one (ps_if (pt_cmpR op_gt (pv 3) pe_int (nomark _)) (pss_cons (ps_expr (pe_cl (ok_need T) (hr.mono (by decide)) (by rfl) T.mg_need T.kp_need passX (pa_cons (pe_cmpR op_eq (pe_ix ix_list (pv 4) pe_int (fun _ _ => rfl)) pe_str (nomark _)) (pa_cons (pv 3) (pa_cons pe_int pa_nil)))))
      (pss_one (ps_expr (pe_methR (pv 2) T.clS T.addRowM (ok_add_row T) (hr.mono (by decide)) passX (pa_cons pe_int (pa_cons (pv 3) (pa_cons (pv 4) pa_nil))))))) pss_nil)))
      (pss_one (ps_ret (pe_methR (pv 2) T.clS T.tableOnM (ok_table_on T) (hr.mono (by decide)) pass0 (pa_cons pe_int pa_nil)))))), ?_⟩
    refine ⟨_, rfl, v, ox, rfl, hv, fun x ex l ps H1 s1 hl hps => ?_, fun en => kb 0 0 (by rw [en]; rfl)⟩
    subst ex
    obtain ⟨rfl, hx⟩ := hv
    obtain ⟨LS, eLS⟩ : ∃ LS, LS = LSof x := ⟨_, rfl⟩
    have hls := ls_words hx
    have lls := ls_len hx
    have ef : faultOf (some x) = scan (fileS LS) := by rw [eLS]; rfl
    rw [← eLS] at hps hls lls
    have kg := fun cs f zs => kg x cs f zs rfl
    rw [← eLS] at kg
    obtain ⟨ws0, LS', eL⟩ : ∃ ws0 LS', LS = ws0 :: LS' := by
      cases hLS : LS with
      | nil => exact (ls_ne x (eLS ▸ hLS)).elim
      | cons a b => exact ⟨a, b, rfl⟩
    clear eLS
    subst eL
    obtain ⟨p0, ps', rfl, hp0, hps'⟩ : ∃ p0 ps', ps = p0 :: ps' ∧ H1 p0 = some (.lst (ws0.map V.str)) ∧ LinesAt H1 ps' LS' := by
      cases hps with
      | cons a b => exact ⟨_, _, rfl, a, b⟩
    have lps : ps'.length = LS'.length := hps'.length
    obtain ⟨w1, w2, w3⟩ := hls ws0 (List.mem_cons_self ..)
    have l0 : 1 ≤ ws0.length := List.length_pos_iff.mpr w1
    rw [ef] at kb
    have eF : scan (fileS (ws0 :: LS')) = match (scan (headS ws0)).map (fun k => (0, k)) with | some c => some c | none => scan (linesS (ws0.drop 1) 1 [] LS') := by
      show scan ((headS ws0).map (fun p => (p.1, 0, p.2)) ++ linesS (ws0.drop 1) 1 [] LS') = _
      rw [scan_app, scan_map (fun k => (0, k))]
      cases scan (headS ws0) <;> rfl
    refine ⟨_, rfl, l, _, 0, .ref p0, rfl, rfl, SqL.of hl, atI_nat (j := 0) rfl, p0, ws0, rfl, hp0, l0, w2, w3, fun eh tc H2 s2 htc => ?_, fun kk hkk => (kb 0 kk (by rw [eF, hkk]; rfl)).up s1⟩
    rw [eh] at eF
    have eF : scan (fileS (ws0 :: LS')) = scan (linesS (ws0.drop 1) 1 [] LS') := eF
    obtain ⟨cs, ews, gc⟩ := head_good eh
    have ecs : ws0.drop 1 = cs := by rw [ews]; rfl
    rw [ecs] at eF htc
    unfold tNil
    dsimp only
    intro xx dx hxx hdx nxd
    have sm : Same H2 (upd (upd H2 dx (.own xx)) xx (.ins A.c_Sheet dx [])) := Same.mut (Same.new hdx) hxx
    refine ⟨H2, xx, dx, tc, cs, rfl, sm, hxx, upd_same, htc, fun d0 H3 s3 hd0 hS hv0 => ⟨rfl, ?_⟩⟩
    have s13 := s2.trans s3
    have s03 := s1.trans s13
    have hl3 := s13 _ _ hl
    have hps3 := hps'.same s13
    have f0 : H d0 = none := (s1.trans s2).free hd0
    have nl : l ≠ d0 := fun z => by subst z; rw [hv0] at hl3; cases hl3
    refine ⟨_, rfl, l, _, rfl, SqL.of hl3, for_it (walk_enum (a := l) (xs := (p0 :: ps').map V.ref)) (fun i σ H' => Sam d0 H3 H' ∧ (∃ rs : Rows, Rws H' d0 rs ∧ rs = (LS'.take (i - 1)).map rowP ∧ (rs.map (·.1)).Pairwise (fun a b => a.cps.toList < b.cps.toList) ∧ rs.length ≤ 40 ∧ scan (linesS cs 1 [] LS') = scan (linesS cs (1 + (i - 1)) (rs.map (·.1)) (LS'.drop (i - 1)))) ∧ ∃ a b, σ = [some (.str x), some (.ref l), some (.ref xx), a, b])
      ⟨Sam.refl _, ⟨[], Rws.nil hv0, rfl, .nil, by simp, rfl⟩, none, none, rfl⟩ (fun i σ H' _ h => SqL.of (h.1 _ _ nl hl3)) ?_ ?_⟩
    · rintro i y σ Ha Hb hi ⟨sa, ⟨rs, hRa, ers, pk, lk, esc⟩, a0, b0, rfl⟩ ⟨tt, y1, y2, rfl, ht, rfl, ey, ez⟩
      injection ey with ey; subst ey
      dsimp only at ez
      rw [List.getElem?_map] at ez
      obtain ⟨pp, hpp, rfl⟩ := Option.map_eq_some_iff.mp ez
      refine ⟨tt, _, rfl, SqT.of upd_same, rfl, _, _, rfl, _, _, rfl, rfl, ?_⟩
      have sn := Same.new (o := .tup [V.int (i : Nat), V.ref pp]) ht
      have sb : Sam d0 H3 (upd Ha tt (.tup [V.int (i : Nat), V.ref pp])) := fun b o n h => sn _ _ (sa b o n h)
      have rb := hRa.same sn
      generalize upd Ha tt (.tup [V.int (i : Nat), V.ref pp]) = Hc at sb rb
      cases i with
      | zero => exact ⟨_, rfl, _, _, rfl, rfl, _, rfl, iteF' (decide_eq_false (by decide)) ⟨sb, ⟨rs, rb, ers, pk, lk, esc⟩, _, _, rfl⟩⟩
      | succ j =>
        refine ⟨_, rfl, _, _, rfl, rfl, _, rfl, iteT' (decide_eq_true (by omega)) ?_⟩
        rw [Nat.add_sub_cancel] at ers esc
        have hpp : ps'[j]? = some pp := hpp
        obtain ⟨ws, hws, hpw⟩ := prd_get hps3 hpp
        have hj : j < LS'.length := (List.getElem?_eq_some_iff.mp hws).1
        have edr : LS'.drop j = ws :: LS'.drop (j + 1) := by
          obtain ⟨hlt, e⟩ := List.getElem?_eq_some_iff.mp hws
          rw [List.drop_eq_getElem_cons hlt, e]
        obtain ⟨v1, v2, v3⟩ := hls ws (List.mem_cons_of_mem _ (List.mem_of_getElem? hws))
        obtain ⟨w0, wr, rfl⟩ : ∃ w0 wr, ws = w0 :: wr := by
          cases ws with
          | nil => exact (v1 rfl).elim
          | cons a b => exact ⟨a, b, rfl⟩
        have np : pp ≠ d0 := fun e => by subst e; rw [hv0] at hpw; cases hpw
        have hpc := sb _ _ np hpw
        have hSc := hS.sam hv0 sb
        have sHc : Same H Hc := Same.own s03 f0 sb
        have eln : scan (linesS cs 1 [] LS') = match (scan (lineS cs (rs.map (·.1)) (w0 :: wr))).map (fun k => (1 + j, k)) with | some c => some c | none => scan (linesS cs (1 + j + 1) (rs.map (·.1) ++ [(w0 :: wr).getD 1 ""]) (LS'.drop (j + 1))) := by
          rw [esc, edr]
          show scan ((lineS cs (rs.map (·.1)) (w0 :: wr)).map (fun p => (p.1, 1 + j, p.2)) ++ linesS cs (1 + j + 1) (rs.map (·.1) ++ [(w0 :: wr).getD 1 ""]) (LS'.drop (j + 1))) = _
          rw [scan_app, scan_map (fun k => (1 + j, k))]
          cases scan (lineS cs (rs.map (·.1)) (w0 :: wr)) <;> rfl
        have bad : ∀ kk : Nat, scan (lineS cs (rs.map (·.1)) (w0 :: wr)) = some kk → ErrT A Hc (.int ((j + 1 : Nat) : Int)) (.int kk) E := fun kk e => by
          have := kb (1 + j) kk (by rw [eF, eln, e]; rfl)
          rw [Nat.add_comm] at this
          exact this.up sHc
        refine ⟨_, rfl, pp, _, 0, .str w0, rfl, rfl, SqL.of hpc, atI_nat (j := 0) rfl, rfl, _, rfl, _, .int _, .int 0, rfl, fun e0 => ?_, fun e0 => ?_⟩
        case refine_2 =>
          refine bad 0 ?_
          unfold lineS
          rw [show (w0 :: wr).headD "" = w0 from rfl, decide_eq_false fun z => by rw [z, decide_eq_true rfl] at e0; cases e0]; rfl
        have e0 : w0 = "row" := by have := of_decide_eq_true e0; injection this
        have eline : scan (lineS cs (rs.map (·.1)) (w0 :: wr)) = scan (rowS cs (rs.map (·.1)) (w0 :: wr)) := by
          unfold lineS
          rw [show (w0 :: wr).headD "" = w0 from rfl, decide_eq_true e0]; rfl
        obtain ⟨dy, ts, l', d1, hx', _⟩ := id hSc
        have nd : (rs.map (·.1)).Nodup := pk.imp fun {a b} hab e => by rw [e] at hab; exact List.lt_irrefl _ hab
        refine ⟨_, rfl, xx, dy, _, rfl, hx', shl_none tc ts l' (by decide +kernel) (by decide +kernel) (by decide +kernel) (by decide +kernel), _, rfl, _, rfl, xx, tc, d0, pp, .int _, w0 :: wr, cs, rs, rfl, hSc, rb, hpc, gc, by rw [List.length_cons]; omega, v2, v3, lk, nd, fun hrow H' e' r' => ?_, fun kk hkk => bad kk (eline.trans hkk)⟩
        rw [hrow] at eline
        obtain ⟨t, r, e1, e2, g1, g2, g3, g4⟩ := row_good gc.hi gc.nd gc.nm eline
        rw [List.length_map] at g4
        rw [← e2] at r' eln
        have hnew : look rs t = none := look_none.mpr fun q hq e => by
          have := g3 q.1 (List.mem_map_of_mem hq)
          rw [e] at this
          exact List.lt_irrefl _ this
        rw [putR_new hnew] at r'
        refine ⟨fun b o n h => e' b o n (sb b o n h), ⟨rs ++ [(t, pairsR ((w0 :: wr).drop 2))], r', ?_, ?_, by rw [List.length_append, List.length_singleton]; omega, ?_⟩, _, _, rfl⟩
        · rw [Nat.add_sub_cancel, List.take_add_one, hws, List.map_append, ← ers, e2]; rfl
        · rw [List.map_append]
          exact List.pairwise_append.mpr ⟨pk, by simp, fun a ha b hb => by
            rw [List.map_cons, List.map_nil, List.mem_singleton] at hb
            rw [hb]; exact g3 a ha⟩
        · rw [eln, eline, Nat.add_sub_cancel, List.map_append]; rfl
    · rintro σ Ha ⟨sa, ⟨rs, hRa, ers, pk, lk, esc⟩, a0, b0, rfl⟩
      rw [List.length_map, List.length_cons, Nat.add_sub_cancel, lps] at ers esc
      rw [List.take_length] at ers
      rw [List.drop_length] at esc
      have hnone : scan (fileS (ws0 :: LS')) = none := by rw [eF, esc]; rfl
      obtain ⟨cs', f, zs, eW, gx⟩ := file_good (List.cons_ne_nil _ _) hnone
      have ecs' : cs' = cs := by
        have := congrArg (fun L : List (List Str) => (L.headD []).drop 1) eW
        exact this.symm.trans ecs
      subst ecs'
      have eLS' : LS' = zs.map fun z => rowW "row" z cs' (f z) := congrArg (fun L : List (List Str) => L.drop 1) eW
      have ers2 : rs = atG (fun z => prs cs' (f z)) zs := by
        rw [ers, eLS', List.map_map]
        refine List.map_congr_left fun z _ => ?_
        show (z, pairsR (flatR (prs cs' (f z)))) = _
        rw [pairs_of]
      have hSa := hS.sam hv0 sa
      obtain ⟨dy, ts, l', d1, hx', _⟩ := id hSa
      rw [ers2] at hRa
      have gR : ∀ z ∈ zs, GRow cs' (prs cs' (f z)) := fun z hz => prs_grow (gx.row z hz).2 (by have := gx.col.hi; omega)
      refine ⟨_, rfl, xx, dy, _, rfl, hx', shl_none tc ts l' (by decide +kernel) (by decide +kernel) (by decide +kernel) (by decide +kernel), xx, tc, d0, cs', _, rfl, hSa, hRa, gc, ⟨fun q hq => ?_, by rw [atG_keys]; exact gx.nd⟩, by show (List.map _ zs).length ≤ 40; rw [List.length_map]; exact gx.len, fun t dt fs H' ht hdt st pm tb => ?_⟩
      · obtain ⟨z, hz, rfl⟩ := List.mem_map.mp hq
        exact ⟨(gx.row z hz).1, gR z hz⟩
      · have s0a : Same H Ha := Same.own s03 f0 sa
        exact kg cs' f zs (ef.trans hnone) eW gx t dt fs H' (s0a.free ht) (s0a.trans st) pm tb
end
end NK

namespace NK
open PySem PySem.Spec PyProof.Rows L2 NA TL
section
variable {P : Program} {w : World} {K : PySem.W.Frag} {mg : Str → Option Value} {base : Heap} {A : Ad}
theorem Tx.xfT (T : Tx P K mg A) : XfC K A.c_BadText := ⟨T.ga_BadText, T.gg_BadText, T.be_BadText, T.hd_BadText⟩
theorem Tx.exT (T : Tx P K mg A) : ExcC K A.c_BadText := ⟨T.ga_BadText, T.gg_BadText, T.be_BadText, T.hd_BadText, T.ca_BadText, T.cn_Place, T.ct_Place, T.ob_BadText⟩
def sp_lheard (A : Ad) (K : PySem.W.Frag) : Sp := fun vs H Q _ => ∃ (v : V) (ox : Option Str), vs = [v] ∧ TV K H v ox ∧
  (∀ x cs f zs, ox = some x → faultOf ox = none → LSof x = linesW cs f zs → GX cs f zs → ∀ l g dx fs H', Same H H' → H' l = some (.lst [.ref g]) → fs.Perm (atG (fun z => prs cs (f z)) zs) → Tbl A H' g dx cs fs → Q (.ref l) H') ∧
  (∀ i j : Nat, faultOf ox = some (i, j) → ∀ q H', Same H H' → H' q = some (.tup [.int i, .int j]) → Q (.ref q) H')
theorem ok_lheard (T : Tx P K mg A) : FnR P w K mg base CX0 10 A.f_law_heard (sp_lheard A K) := by
  refine fnr T.F_law_heard sc_law_heard (fun _ _ _ _ _ _ us hl => match us, hl with | [_], _ => rfl) (fun vs H Q E h => ?_) (fun cdv A' outer s H vs Q E hr h => ?_)
  · obtain ⟨v, ox, rfl, _⟩ := h; rfl
  · obtain ⟨v, ox, rfl, hv, kg, kb⟩ := h
    refine ⟨_, pss_cons (ps_set (i := 1) sc_law_heard.nd rfl (.inl rfl) pe_non)
      (pss_cons (ps_try_hold (i := 2) (j := 1) (c := .ref A.c_TableError)
        (tb := fun W D σ H => ∃ Ech : XK, (∀ cls d σ' H', Ech cls d H' → W cls d σ' H') ∧ sp_readt A K [v] H (fun u H1 => ∀ p, H1 p = none → D.rt (.ref p) (upd H1 p (.lst [u]))) Ech ∧ σ[0]? = some (some v))
        rfl rfl rfl sc_law_heard.nd rfl rfl rfl rfl ⟨rfl, by decide, .inl T.mg_TableError⟩ LamX.takes0 (fun W pn xe tk _ => ?_))
      (pss_one (ps_ret (pe_ifExp (pt_val (pe_callB call_isH (by rfl) T.z_isinstance (by decide +kernel) (pa_cons (pv 1) (pa_cons (pe_glob (v := .ref A.c_BadText) (by rfl) T.mg_BadText rfl) pa_nil))))
        (pe_tup (pa_cons (pe_held (C := A.c_BadText) T.xfT T.nvl_BadText (pv 1)) (pa_cons (pe_held (C := A.c_BadText) T.xfT T.nvw_BadText (pv 1)) pa_nil))) pe_str)))), ?_⟩
    · refine ⟨fun pins s' σ H' D I h' => ?_⟩
      obtain ⟨Ech, hW, h1, h2⟩ := h'
      refine (pss_one (ps_ret (pe_lst (pa_cons (pe_cl (E := Ech) (ok_readt T) (hr.mono (by decide)) (by rfl) T.mg_read_table T.kp_read_table (passes_call tk hW) (pa_cons (pv 0) pa_nil)) pa_nil)))).run pins s' σ H' D I ?_
      obtain ⟨u, ox', eu, hv', kg', kb'⟩ := h1
      exact ⟨_, h2, u, ox', eu, hv', fun x cs f zs e1 e3 e2 gx g dx fs H' hg sm pm tb => ⟨sz (by show 1 ≤ 1000000; omega), kg' x cs f zs e1 e3 e2 gx g dx fs H' hg sm pm tb⟩, kb'⟩
    · refine ⟨fun cls d H' => cls = .ref A.c_BadText ∧ ∃ (i j : Nat) (dd : Addr), faultOf ox = some (i, j) ∧ d = some dd ∧ Same H H' ∧ H' dd = some (.xd [("word", .int j), ("line", .int i)]), ?_, ⟨v, ox, rfl, hv, ?_, ?_⟩, rfl⟩
      · rintro cls d σ' H' ⟨rfl, i, j, dd, ef, rfl, sm, hx⟩
        refine ⟨true, PySem.W.exm_ref T.be_TableError T.hd_TableError T.ty_TableError T.tb_BadText, fun _ a ha hl => ?_, fun z => by cases z⟩
        match σ', hl with
        | [x0, x1, x2], _ =>
          have hx' : upd H' a (HeldO (.ref A.c_BadText) (some dd) a) dd = some (.xd [("word", .int j), ("line", .int i)]) := by rw [upd_ne (ne_of_none hx ha)]; exact hx
          have s1 := Same.new (o := HeldO (.ref A.c_BadText) (some dd) a) ha
          refine ⟨_, rfl, a, A.c_BadText, dd, _, .ref A.c_BadText, .ref A.c_BadText, true, rfl, T.exT, upd_same, hx', (fun u h => h), kit_self, true, rfl, iteT ?_⟩
          exact ⟨_, rfl, a, dd, _, .int i, rfl, upd_same, hx', rfl, _, rfl, a, dd, _, .int j, rfl, upd_same, hx', by simp [List.lookup], sz (by show 2 ≤ 1000000; omega), fun q hq => kb i j ef q _ ((sm.trans s1).trans (Same.new hq)) upd_same⟩
      · intro x cs f zs e1 e3 e2 gx g dx fs H' hg sm pm tb p hp
        exact kg x cs f zs e1 e3 e2 gx p g dx fs _ (sm.trans (Same.new hp)) upd_same pm (tb.same (Same.new hp))
      · intro i j ef H' d sm hd
        exact ⟨rfl, i, j, d, ef, rfl, sm.trans (Same.new hd), upd_same⟩
end
end NK

namespace NK
open PySem PySem.Spec PyProof.Rows L2 NA TL
/-- the signs of a text are plain -/
def Ch (z : Str) : Prop := ∀ c ∈ tl z, c < 128
def wt (ls : List Str) : Nat := (ls.map fun l => l.length + 1).sum
theorem wt_nil : wt [] = 0 := rfl
theorem wt_cons (l : Str) (ls : List Str) : wt (l :: ls) = l.length + 1 + wt ls := by simp [wt]
theorem wt_app (a b : List Str) : wt (a ++ b) = wt a + wt b := by simp [wt]
theorem wt_sum (ls : List Str) : (ls.map fun x => x.length).sum + ls.length * 1 = wt ls := by
  induction ls with
  | nil => rfl
  | cons a b ih => rw [wt_cons, List.map_cons, List.sum_cons, List.length_cons]; omega
theorem wt_take (ls : List Str) (n : Nat) : wt (ls.take n) + wt (ls.drop n) = wt ls := by
  rw [← wt_app, List.take_append_drop]
theorem wt_three {ls : List Str} {i : Nat} {l : Str} (h : ls[i]? = some l) : wt (ls.take i) + (l.length + 1) + wt (ls.drop (i + 1)) = wt ls := by
  have h1 := wt_take ls i
  obtain ⟨hi, e⟩ := List.getElem?_eq_some_iff.mp h
  rw [List.drop_eq_getElem_cons hi, e, wt_cons] at h1
  omega
theorem wt_mem {ls : List Str} {l : Str} (h : l ∈ ls) : l.length + 1 ≤ wt ls := by
  obtain ⟨i, hi, e⟩ := List.mem_iff_getElem.mp h
  have := wt_three (i := i) (l := l) (List.getElem?_eq_some_iff.mpr ⟨hi, e⟩)
  omega
theorem wt_set (l : Str) : ∀ (ls : List Str) (i : Nat), wt (ls.set i l) ≤ wt ls + (l.length + 1)
  | [], i => by show 0 ≤ _; omega
  | a :: b, 0 => by rw [List.set_cons_zero, wt_cons, wt_cons]; omega
  | a :: b, i + 1 => by
    have := wt_set l b i
    rw [List.set_cons_succ, wt_cons, wt_cons]; omega
theorem wt_joinL {s : Nat} : ∀ ps : List Str, ps ≠ [] → (joinL [s] (ps.map tl)).length + 1 = wt ps
  | [], h => (h rfl).elim
  | [q], _ => by
    rw [wt_cons, wt_nil, len_tl]; rfl
  | q :: r :: ps, _ => by
    have := wt_joinL (s := s) (r :: ps) (List.cons_ne_nil _ _)
    rw [wt_cons, ← this, len_tl]
    show (tl q ++ ([s] ++ joinL [s] ((r :: ps).map tl))).length + 1 = _
    rw [List.length_append, List.length_append]
    show _ + (1 + _) + 1 = _
    omega
theorem wt_split {x y : Str} {s : Nat} (ey : tl y = [s]) (hs : y.cps.all (· < 256) = true) : wt (Txt.split x y) = x.length + 1 := by
  rw [← wt_joinL (s := s) _ (split_facts ey hs).1, ← ey, ← tl_join, PySem.StrLaws.join_split, len_tl]
theorem ch_joinL {S : List Nat} (hS : ∀ c ∈ S, c < 128) : ∀ ps : List Str, (∀ p ∈ ps, Ch p) → ∀ c ∈ joinL S (ps.map tl), c < 128
  | [], _, _, h => (List.not_mem_nil h).elim
  | [q], h, c, hc => h q (List.mem_cons_self ..) c hc
  | q :: r :: ps, h, c, hc => by
    rcases List.mem_append.mp (show c ∈ tl q ++ (S ++ joinL S ((r :: ps).map tl)) from hc) with h1 | h1
    · exact h q (List.mem_cons_self ..) c h1
    · rcases List.mem_append.mp h1 with h2 | h2
      · exact hS c h2
      · exact ch_joinL hS (r :: ps) (fun p hp => h p (List.mem_cons_of_mem _ hp)) c h2
theorem ch_join {y : Str} {ps : List Str} (hy : Ch y) (h : ∀ p ∈ ps, Ch p) : Ch (Txt.join y ps) := by
  intro c hc
  rw [join_eq, tl_join] at hc
  exact ch_joinL hy ps h c hc
theorem ch_split {x y : Str} {s : Nat} (ey : tl y = [s]) (hs : y.cps.all (· < 256) = true) (h : Ch x) : ∀ p ∈ Txt.split x y, Ch p := fun p hp c hc => h c (((split_facts ey hs).2.2 p hp).2 c hc)
theorem ch_app {x y : Str} (hx : Ch x) (hy : Ch y) : Ch (x ++ y) := by
  intro c hc
  rw [tl_append] at hc
  rcases List.mem_append.mp hc with h | h
  · exact hx c h
  · exact hy c h
theorem ch_cut {x : Str} (hx : Ch x) (lo hi : Option Int) : Ch (cutS x lo hi) := fun c hc => by
  have hc : c ∈ ((tl x).drop (HT.sIx x.length 0 lo)).take (HT.sIx x.length x.length hi - HT.sIx x.length 0 lo) := hc
  exact hx c (List.mem_of_mem_drop (List.mem_of_mem_take hc))
theorem ch_rev {x : Str} (hx : Ch x) : Ch (revT x) := fun c hc => hx c (revT_mem hc)
theorem ch_lf : Ch "\n" := by intro c hc; rw [lf_tl] at hc; rw [List.mem_singleton.mp hc]; omega
theorem ch_bl : Ch " " := by intro c hc; rw [bl_tl] at hc; rw [List.mem_singleton.mp hc]; omega
theorem join_fits {y : Str} {ps : List Str} {s : Nat} (ey : tl y = [s]) (hn : ps ≠ []) : (Txt.join y ps).length + 1 = wt ps := by
  rw [len_tl, join_eq, tl_join, ey]
  exact wt_joinL ps hn
theorem joined_le {y : Str} {ps : List Str} {s : Nat} (ey : tl y = [s]) : (Txt.join y ps).length ≤ wt ps := by
  cases ps with
  | nil => rw [len_tl, join_eq, tl_join]; show 0 ≤ _; omega
  | cons a b => have := join_fits (y := y) (ps := a :: b) ey (List.cons_ne_nil _ _); omega
theorem join_tx {ps : List Str} (h : ∀ p ∈ ps, Ch p) (hw : wt ps ≤ 99999) : Tx0 (Txt.join "\n" ps) := ⟨Nat.le_trans (joined_le lf_tl) hw, ch_join ch_lf h⟩
theorem join_room {y : Str} {ps : List Str} (ey : y.length = 1) (hw : wt ps ≤ 1000000) : (ps.map fun x => x.length).sum + ps.length * y.length ≤ 16777216 := by
  rw [ey, wt_sum]; omega
theorem ch_app_list {a b : List Str} (ha : ∀ p ∈ a, Ch p) (hb : ∀ p ∈ b, Ch p) : ∀ p ∈ a ++ b, Ch p := fun p hp => by
  rcases List.mem_append.mp hp with h | h
  · exact ha p h
  · exact hb p h
theorem cutV_take (ws : List Str) (n : Nat) : cutV (ws.map V.str) none (some (n : Int)) = (ws.take n).map V.str := by
  rw [cut_take, List.map_take]
theorem cutV_drop (ws : List Str) (n : Nat) : cutV (ws.map V.str) (some (n : Int)) none = (ws.drop n).map V.str := by
  unfold cutV
  rw [HT.sIx_none, HT.sIx_nat, List.map_drop]
  rcases Nat.le_total n (ws.map V.str).length with h | h
  · rw [Nat.min_eq_left h]
    exact List.take_of_length_le (by rw [List.length_drop]; omega)
  · rw [Nat.min_eq_right h, List.drop_of_length_le h, List.drop_of_length_le (Nat.le_refl _), List.take_nil]
theorem ixn_nat {n j : Nat} (hj : j < n) : ixN n (j : Int) = some j := by
  unfold ixN
  rw [if_pos (by omega), if_pos (by omega)]
  simp
def okO : V → Bool
  | .str z => decide (z.length ≤ 20) && (tl z).all (· < 128)
  | _ => false
theorem okO_all {xs : List V} (h : xs.all okO = true) : ∀ v ∈ xs, ∃ z : Str, v = .str z ∧ Ch z ∧ z.length ≤ 20 := by
  intro v hv
  have := List.all_eq_true.mp h v hv
  unfold okO at this
  split at this
  · rename_i z
    rw [Bool.and_eq_true] at this
    exact ⟨z, rfl, fun c hc => of_decide_eq_true (List.all_eq_true.mp this.2 c hc), of_decide_eq_true this.1⟩
  · cases this
theorem cutV_map (ws : List Str) (lo hi : Option Int) : ∃ M : List Str, cutV (ws.map V.str) lo hi = M.map V.str ∧ (∀ p ∈ M, p ∈ ws) ∧ wt M ≤ wt ws ∧ M.length ≤ ws.length := by
  refine ⟨(ws.drop (HT.sIx ws.length 0 lo)).take (HT.sIx ws.length ws.length hi - HT.sIx ws.length 0 lo), ?_, fun p hp => List.mem_of_mem_drop (List.mem_of_mem_take hp), ?_, ?_⟩
  · unfold cutV
    rw [List.length_map, ← List.map_drop, ← List.map_take]
  · have h1 := wt_take ws (HT.sIx ws.length 0 lo)
    have h2 := wt_take (ws.drop (HT.sIx ws.length 0 lo)) (HT.sIx ws.length ws.length hi - HT.sIx ws.length 0 lo)
    omega
  · rw [List.length_take, List.length_drop]; omega
theorem wt_le {ws : List Str} {b : Nat} (h : ∀ p ∈ ws, p.length ≤ b) : wt ws ≤ ws.length * (b + 1) := by
  induction ws with
  | nil => exact Nat.zero_le _
  | cons a r ih =>
    have h1 := h a (List.mem_cons_self ..)
    have h2 := ih fun p hp => h p (List.mem_cons_of_mem _ hp)
    rw [wt_cons, List.length_cons, Nat.add_mul]
    omega
theorem cutS_len2 (z : Str) (lo hi : Option Int) : (cutS z lo hi).length ≤ z.length := cutS_length z lo hi
end NK

set_option maxHeartbeats 8000000
namespace NK
open PySem PySem.Spec PyProof.Rows L2 NA TL
section
variable {P : Program} {w : World} {K : PySem.W.Frag} {mg : Str → Option Value} {base : Heap} {A : Ad}
def sp_lbent : Sp := fun vs H Q _ => ∃ (pn L : Addr) (b : Nat) (x : Str), vs = [.ref pn, .str x] ∧ Pen L H pn (b + 5) ∧ x.length ≤ 30000 ∧ Ch x ∧ ∀ y H', Sam pn H H' → Pen L H' pn b → Tx0 y → Q (.str y) H'
theorem ok_lbent (T : Tx P K mg A) : FnR P w K mg base CX0 4 A.f_law_bent sp_lbent := by
  refine fnr T.F_law_bent sc_law_bent (fun _ _ _ _ _ _ us hl => match us, hl with | [_, _], _ => rfl) (fun vs H Q E h => ?_) (fun cdv A' outer s H vs Q E hr h => ?_)
  · obtain ⟨pn, L, b, x, rfl, _⟩ := h; rfl
  · obtain ⟨pn, L, b, x, rfl, hp, lx, cx, k⟩ := h
    refine ⟨_, pss_cons (ps_par (i := 2) (j := 3) (by rfl) sc_law_bent.nd rfl rfl (by decide) rfl rfl (pa_cons (pe_split (pv 1) pe_str) (pa_cons (pe_cl (ok_draw T) (hr.mono (by decide)) (by rfl) T.mg_law_draw T.kp_law_draw pass0 (pa_cons (pv 0) (pa_cons pe_int pa_nil))) pa_nil)) (by rfl))
      (pss_cons (ps_set (i := 4) sc_law_bent.nd rfl (.inl rfl) (pe_cl (ok_draw T) (hr.mono (by decide)) (by rfl) T.mg_law_draw T.kp_law_draw pass0 (pa_cons (pv 0) (pa_cons (pe_callB (call_len_seqK (K := K) rfl) (by rfl) T.z_len PySem.boot_len (pa_cons (pv 2) pa_nil)) pa_nil))))
      (pss_cons (ps_set (i := 5) sc_law_bent.nd rfl (.inl rfl) (pe_split (pe_ix ix_list (pv 2) (pv 4) (fun _ _ => rfl)) pe_str))
      (pss_cons (ps_set (i := 6) sc_law_bent.nd rfl (.inl rfl) (pe_cl (ok_draw T) (hr.mono (by decide)) (by rfl) T.mg_law_draw T.kp_law_draw pass0 (pa_cons (pv 0) (pa_cons (pe_callB (call_len_seqK (K := K) rfl) (by rfl) T.z_len PySem.boot_len (pa_cons (pv 5) pa_nil)) pa_nil))))
      (pss_cons (ps_if (pt_cmpR op_eq (pv 3) pe_int (nomark _)) (pss_one (ps_ret (pe_join pe_str (pe_op op_cat (pe_slice sl_list (pv 2) po_none (po_some (pv 4))) (pe_slice sl_list (pv 2) (po_some (pe_op op_add (pv 4) pe_int)) po_none))))) pss_nil)
      (pss_cons (ps_if (pt_cmpR op_eq (pv 3) pe_int (nomark _)) (pss_one (ps_ret (pe_join pe_str (pe_op op_cat (pe_slice sl_list (pv 2) po_none (po_some (pe_op op_add (pv 4) pe_int))) (pe_slice sl_list (pv 2) (po_some (pv 4)) po_none))))) pss_nil)
      (pss_cons (ps_if (pt_cmpR op_eq (pv 3) pe_int (nomark _)) (pss_cons (ps_set (i := 7) sc_law_bent.nd rfl (.inl rfl) (pe_cl (ok_draw T) (hr.mono (by decide)) (by rfl) T.mg_law_draw T.kp_law_draw pass0 (pa_cons (pv 0) (pa_cons (pe_callB (call_len_seqK (K := K) rfl) (by rfl) T.z_len PySem.boot_len (pa_cons (pv 2) pa_nil)) pa_nil))))
      (pss_cons (ps_set (i := 8) sc_law_bent.nd rfl (.inl rfl) (pe_ix ix_list (pv 2) (pv 4) (fun _ _ => rfl)))
      (pss_cons (ps_asg (pe_ix ix_list (pv 2) (pv 7) (fun _ _ => rfl)) (pg_sub (pv 2) (pv 4) set_list))
      (pss_cons (ps_asg (pv 8) (pg_sub (pv 2) (pv 7) set_list))
      (pss_one (ps_ret (pe_join pe_str (pv 2)))))))) pss_nil)
      (pss_cons (ps_if (pt_cmpR op_lt (pv 3) pe_int (nomark _)) (pss_cons (ps_set (i := 9) sc_law_bent.nd rfl (.inl rfl) (pe_lst (pa_cons pe_str (pa_cons pe_str (pa_cons pe_str (pa_cons pe_str (pa_cons pe_str (pa_cons pe_str (pa_cons pe_str (pa_cons pe_str (pa_cons pe_str (pa_cons pe_str (pa_cons pe_str (pa_cons pe_str pa_nil))))))))))))))
      (pss_cons (ps_set (i := 9) sc_law_bent.nd rfl (.inl rfl) (pe_op op_cat (pv 9) (pe_lst (pa_cons pe_str (pa_cons pe_str (pa_cons pe_str (pa_cons pe_str (pa_cons pe_str (pa_cons pe_str (pa_cons pe_str (pa_cons pe_str (pa_cons pe_str (pa_cons pe_str (pa_cons pe_str pa_nil))))))))))))))
      (pss_cons (ps_set (i := 9) sc_law_bent.nd rfl (.inl rfl) (pe_op op_cat (pv 9) (pe_lst (pa_cons pe_str (pa_cons pe_str pa_nil)))))
      (pss_cons (ps_par (i := 10) (j := 11) (by rfl) sc_law_bent.nd rfl rfl (by decide) rfl rfl (pa_cons (pe_ix ix_list (pv 5) (pv 6) (fun _ _ => rfl)) (pa_cons (pe_cl (ok_pick T) (hr.mono (by decide)) (by rfl) T.mg_law_pick T.kp_law_pick pass0 (pa_cons (pv 0) (pa_cons (pv 9) pa_nil))) pa_nil)) (by rfl))
      (pss_cons (ps_set (i := 12) sc_law_bent.nd rfl (.inl rfl) (pe_lst (pa_cons (pe_lst pa_nil) (pa_cons (pe_lst (pa_cons (pv 11) pa_nil)) (pa_cons (pe_lst (pa_cons (pv 11) pa_nil)) (pa_cons (pe_lst (pa_cons (pv 10) (pa_cons (pv 10) pa_nil))) (pa_cons (pe_lst (pa_cons (pe_revS (pv 10)) pa_nil)) pa_nil)))))))
      (pss_cons (ps_set (i := 5) sc_law_bent.nd rfl (.inl rfl) (pe_op op_cat (pe_op op_cat (pe_slice sl_list (pv 5) po_none (po_some (pv 6))) (pe_ix ix_list (pv 12) (pe_op op_sub (pv 3) pe_int) (fun _ _ => rfl))) (pe_slice sl_list (pv 5) (po_some (pe_op op_add (pv 6) pe_int)) po_none)))
      (pss_one (ps_ret (pe_join pe_str (pe_op op_cat (pe_op op_cat (pe_slice sl_list (pv 2) po_none (po_some (pv 4))) (pe_lst (pa_cons (pe_join pe_str (pv 5)) pa_nil))) (pe_slice sl_list (pv 2) (po_some (pe_op op_add (pv 4) pe_int)) po_none))))))))))) pss_nil)
      (pss_cons (ps_set (i := 13) sc_law_bent.nd rfl (.inl rfl) (pe_cl (ok_pick T) (hr.mono (by decide)) (by rfl) T.mg_law_pick T.kp_law_pick pass0 (pa_cons (pv 0) (pa_cons (pe_lst (pa_cons pe_str (pa_cons pe_str (pa_cons pe_str (pa_cons pe_str (pa_cons pe_str (pa_cons pe_str (pa_cons pe_str pa_nil)))))))) pa_nil))))
      (pss_cons (ps_set (i := 14) sc_law_bent.nd rfl (.inl rfl) (pe_cl (ok_draw T) (hr.mono (by decide)) (by rfl) T.mg_law_draw T.kp_law_draw pass0 (pa_cons (pv 0) (pa_cons (pe_op op_add (pe_callB call_len_str (by rfl) T.z_len PySem.boot_len (pa_cons (pv 1) pa_nil)) pe_int) pa_nil))))
      (pss_one (ps_ret (pe_op op_add_str (pe_op op_add_str (pe_slice sl_str (pv 1) po_none (po_some (pv 14))) (pv 13)) (pe_slice sl_str (pv 1) (po_some (pe_op op_sub (pe_op op_add (pv 14) pe_int) (pv 3))) po_none))))))))))))), ?_⟩
    obtain ⟨xs0, hp0⟩ := hp.lst
    obtain ⟨LS, eLS⟩ : ∃ LS, LS = Txt.split x "\n" := ⟨_, rfl⟩
    have wLS : wt LS = x.length + 1 := eLS ▸ wt_split lf_tl lf_all
    have cLS : ∀ p ∈ LS, Ch p := eLS ▸ ch_split lf_tl lf_all cx
    have nLS : LS ≠ [] := eLS ▸ (split_facts lf_tl lf_all).1
    have kLS : LS.length ≤ x.length + 1 := eLS ▸ (split_facts lf_tl lf_all).2.1
    refine ⟨_, rfl, ⟨_, rfl⟩, _, _, rfl, rfl, rfl, sz (by omega), fun l hl => ?_⟩
    rw [← eLS]
    have s1 := Same.new (o := .lst (LS.map V.str)) hl
    have nl : l ≠ pn := (ne_of_none hp0 hl).symm
    have v1 : (upd H l (.lst (LS.map V.str))) l = some (.lst (LS.map V.str)) := upd_same
    have p1 := hp.same s1
    generalize upd H l (.lst (LS.map V.str)) = H1 at s1 v1 p1
    refine ⟨_, rfl, pn, L, 10, b + 4, rfl, p1, by decide, by decide, fun way H2 hway e2 p2 => ?_⟩
    refine ⟨_, _, rfl, _, rfl, _, rfl, l, _, rfl, .inl (SqL.of (e2 _ _ nl v1)), pn, L, _, b + 3, rfl, p2, ?_, ?_, fun at_ H3 hat e3 p3 => ?_⟩
    · have := List.length_pos_iff.mpr nLS
      rw [List.length_map]; omega
    · rw [List.length_map]; omega
    rw [List.length_map] at hat
    have hat : at_ < LS.length := by omega
    obtain ⟨ln, hln⟩ : ∃ ln, LS[at_]? = some ln := ⟨_, List.getElem?_eq_getElem hat⟩
    have lnm := List.mem_of_getElem? hln
    have wln := wt_three hln
    have cln := cLS ln lnm
    have v3 := e3 _ _ nl (e2 _ _ nl v1)
    have hix : (LS.map V.str)[at_]? = some (.str ln) := by rw [List.getElem?_map, hln]; rfl
    refine ⟨_, rfl, _, rfl, l, _, _, .str ln, rfl, rfl, SqL.of v3, atI_nat hix, ?_⟩
    obtain ⟨WS, eWS⟩ : ∃ WS, WS = Txt.split ln " " := ⟨_, rfl⟩
    have wWS : wt WS = ln.length + 1 := eWS ▸ wt_split bl_tl bl_all
    have cWS : ∀ p ∈ WS, Ch p := eWS ▸ ch_split bl_tl bl_all cln
    have nWS : WS ≠ [] := eWS ▸ (split_facts bl_tl bl_all).1
    have kWS : WS.length ≤ ln.length + 1 := eWS ▸ (split_facts bl_tl bl_all).2.1
    have lln : ln.length ≤ x.length := by omega
    refine ⟨⟨_, rfl⟩, _, _, rfl, rfl, rfl, sz (by omega), fun wl hwl => ?_⟩
    rw [← eWS]
    have s4 := Same.new (o := .lst (WS.map V.str)) hwl
    obtain ⟨xs3, hp3⟩ := p3.lst
    have nwl : wl ≠ pn := (ne_of_none hp3 hwl).symm
    have v4 : (upd H3 wl (.lst (WS.map V.str))) wl = some (.lst (WS.map V.str)) := upd_same
    have p4 := p3.same s4
    have v4l := s4 _ _ v3
    generalize upd H3 wl (.lst (WS.map V.str)) = H4 at s4 v4 p4 v4l
    refine ⟨_, rfl, _, rfl, wl, _, rfl, .inl (SqL.of v4), pn, L, _, b + 2, rfl, p4, ?_, ?_, fun spot H5 hspot e5 p5 => ?_⟩
    · have := List.length_pos_iff.mpr nWS
      rw [List.length_map]; omega
    · rw [List.length_map]; omega
    rw [List.length_map] at hspot
    have hspot : spot < WS.length := by omega
    obtain ⟨wd, hwd⟩ : ∃ wd, WS[spot]? = some wd := ⟨_, List.getElem?_eq_getElem hspot⟩
    have wdm := List.mem_of_getElem? hwd
    have wwd := wt_three hwd
    have cwd := cWS wd wdm
    have v5 := e5 _ _ nwl v4
    have v5l := e5 _ _ nl v4l
    have e05 : Sam pn H H5 := (((Sam.of s1).trans e2).trans e3).trans ((Sam.of s4).trans e5)
    have kk : ∀ y Hz, Sam pn H5 Hz → Pen L Hz pn b → Tx0 y → Q (.str y) Hz := fun y Hz e p t => k y Hz (e05.trans e) p t
    have nlL : l ≠ L := by
      obtain ⟨xsL, hpL⟩ := hp.ints
      exact (ne_of_none hpL hl).symm
    clear hp p1 p2 p3 p4 hp0 e2 e3 e5 v1 v3 v4 v4l s1 s4 hp3 hwl
    refine ⟨_, rfl, rfl, _, rfl, ?_⟩
    have dI : ∀ n : Nat, decide (V.int (way : Int) = V.int (n : Int)) = decide (way = n) := fun n => by
      rw [decide_eq_decide]
      exact ⟨fun z => by injection z with z; omega, fun z => by rw [z]⟩
    have ei : ((at_ : Nat) : Int) + 1 = ((at_ + 1 : Nat) : Int) := by omega
    have hxs := wt_take LS at_
    have hxs1 := wt_take LS (at_ + 1)
    have c1 : ∀ n, ∀ p ∈ LS.take n, Ch p := fun n p h => cLS p (List.mem_of_mem_take h)
    have c2 : ∀ n, ∀ p ∈ LS.drop n, Ch p := fun n p h => cLS p (List.mem_of_mem_drop h)
    have q5 : Pen L H5 pn b := p5.less (by omega)
    have k5 : ∀ y Hz, Same H5 Hz → Tx0 y → Q (.str y) Hz := fun y Hz e t => kk y Hz (Sam.of e) (q5.same e) t
    rw [show decide (V.int (way : Int) = V.int 0) = decide (way = 0) from dI 0]
    by_cases h0 : way = 0
    · refine iteT' (decide_eq_true h0) ?_
      refine ⟨⟨_, rfl⟩, _, rfl, _, rfl, _, rfl, l, _, rfl, SqL.of v5l, fun q1 hq1 => ⟨_, rfl, _, rfl, _, _, rfl, rfl, _, rfl, l, _, rfl, SqL.of ((Same.new hq1) _ _ v5l), fun q2 hq2 => ?_⟩⟩
      refine ⟨q1, q2, _, _, rfl, rfl, (Same.new hq2) _ _ upd_same, upd_same, ?_, fun q3 hq3 => ⟨_, q3, LS.take at_ ++ LS.drop (at_ + 1), rfl, rfl, .inl (SqL.of (by rw [upd_same, cutV_take, ei, cutV_drop, List.map_append])), join_room rfl (by rw [wt_app]; omega), ?_⟩⟩
      · rw [cutV_take, ei, cutV_drop, List.length_map, List.length_map, List.length_take, List.length_drop]; exact sz (by omega)
      · exact k5 _ _ (((Same.new hq1).trans (Same.new hq2)).trans (Same.new hq3)) (join_tx (ch_app_list (c1 _) (c2 _)) (by rw [wt_app]; omega))
    refine iteF' (decide_eq_false h0) ⟨_, rfl, rfl, _, rfl, ?_⟩
    rw [show decide (V.int (way : Int) = V.int 1) = decide (way = 1) from dI 1]
    by_cases h1 : way = 1
    · refine iteT' (decide_eq_true h1) ?_
      refine ⟨⟨_, rfl⟩, _, rfl, _, rfl, _, _, rfl, rfl, _, rfl, l, _, rfl, SqL.of v5l, fun q1 hq1 => ⟨_, rfl, _, rfl, _, rfl, l, _, rfl, SqL.of ((Same.new hq1) _ _ v5l), fun q2 hq2 => ?_⟩⟩
      refine ⟨q1, q2, _, _, rfl, rfl, (Same.new hq2) _ _ upd_same, upd_same, ?_, fun q3 hq3 => ⟨_, q3, LS.take (at_ + 1) ++ LS.drop at_, rfl, rfl, .inl (SqL.of (by rw [upd_same, ei, cutV_take, cutV_drop, List.map_append])), join_room rfl (by rw [wt_app]; omega), ?_⟩⟩
      · rw [ei, cutV_take, cutV_drop, List.length_map, List.length_map, List.length_take, List.length_drop]; exact sz (by omega)
      · exact k5 _ _ (((Same.new hq1).trans (Same.new hq2)).trans (Same.new hq3)) (join_tx (ch_app_list (c1 _) (c2 _)) (by rw [wt_app]; omega))
    refine iteF' (decide_eq_false h1) ⟨_, rfl, rfl, _, rfl, ?_⟩
    rw [show decide (V.int (way : Int) = V.int 2) = decide (way = 2) from dI 2]
    by_cases h2 : way = 2
    · refine iteT' (decide_eq_true h2) ?_
      refine ⟨_, rfl, _, rfl, l, _, rfl, .inl (SqL.of v5l), pn, L, _, b + 1, rfl, p5, ?_, ?_, fun ot H6 hot e6 p6 => ?_⟩
      · have := List.length_pos_iff.mpr nLS
        rw [List.length_map]; omega
      · rw [List.length_map]; omega
      rw [List.length_map] at hot
      have hot : ot < LS.length := by omega
      obtain ⟨lo, hlo⟩ : ∃ lo, LS[ot]? = some lo := ⟨_, List.getElem?_eq_getElem hot⟩
      have lom := List.mem_of_getElem? hlo
      have wlo := wt_mem lom
      have hio : (LS.map V.str)[ot]? = some (.str lo) := by rw [List.getElem?_map, hlo]; rfl
      have v6 := e6 _ _ nl v5l
      refine ⟨_, rfl, _, rfl, l, _, _, .str ln, rfl, rfl, SqL.of v6, atI_nat hix, ?_⟩
      refine ⟨_, rfl, _, rfl, l, _, _, .str lo, rfl, rfl, SqL.of v6, atI_nat hio, ?_⟩
      refine ⟨_, rfl, _, rfl, l, _, _, at_, rfl, rfl, v6, ixn_nat (by rw [List.length_map]; exact hat), ?_⟩
      refine ⟨_, rfl, _, rfl, _, rfl, l, _, _, ot, rfl, rfl, upd_same, ixn_nat (by rw [List.length_set, List.length_map]; exact hot), ?_⟩
      have w1 := wt_set lo LS at_
      have w2 := wt_set ln (LS.set at_ lo) ot
      refine ⟨⟨_, rfl⟩, _, rfl, _, l, (LS.set at_ lo).set ot ln, rfl, rfl, .inl (SqL.of (by rw [upd_same, List.map_set, List.map_set])), join_room rfl (by omega), ?_⟩
      refine k _ _ (Sam.mut (Sam.mut (e05.trans e6) hl) hl) (((p6.less (by omega)).mut nl nlL).mut nl nlL) (join_tx (fun p hp => ?_) (by omega))
      rcases List.mem_or_eq_of_mem_set hp with h | rfl
      · rcases List.mem_or_eq_of_mem_set h with h | rfl
        · exact cLS p h
        · exact cLS _ lom
      · exact cln
    refine iteF' (decide_eq_false h2) ⟨_, rfl, _, _, rfl, rfl, _, rfl, ?_⟩
    by_cases h8 : way < 8
    · refine iteT' (decide_eq_true (by omega)) ?_
      refine ⟨sz (by show 12 ≤ 1000000; omega), fun q1 hq1 => ⟨_, rfl, sz (by show 11 ≤ 1000000; omega), fun q2 hq2 => ⟨q1, q2, _, _, rfl, rfl, (Same.new hq2) _ _ upd_same, upd_same, by decide, fun q3 hq3 => ⟨_, rfl, sz (by show 2 ≤ 1000000; omega), fun q4 hq4 => ⟨q3, q4, _, _, rfl, rfl, (Same.new hq4) _ _ upd_same, upd_same, by decide, fun q5 hq5 => ?_⟩⟩⟩⟩⟩
      generalize hG : upd (upd (upd (upd (upd H5 q1 (.lst _)) q2 (.lst _)) q3 (.lst _)) q4 (.lst _)) q5 (.lst _) = H6
      have sq : Same H5 H6 := by rw [← hG]; exact ((((Same.new hq1).trans (Same.new hq2)).trans (Same.new hq3)).trans (Same.new hq4)).trans (Same.new hq5)
      obtain ⟨OD, vq, o1, o2, ho⟩ : ∃ OD : List V, H6 q5 = some (.lst OD) ∧ 1 ≤ OD.length ∧ OD.length ≤ 100000 ∧ ∀ v ∈ OD, ∃ z : Str, v = .str z ∧ Ch z ∧ z.length ≤ 20 := by
        rw [← hG]
        exact ⟨_, upd_same, by decide, by decide, okO_all (by decide +kernel)⟩
      obtain ⟨xs5, hp5⟩ := p5.lst
      have nq : q5 ≠ pn := (ne_of_none (((((Same.new hq1).trans (Same.new hq2)).trans (Same.new hq3)).trans (Same.new hq4)) _ _ hp5) hq5).symm
      have p6 := p5.same sq
      have v6 := sq _ _ v5
      have v6l := sq _ _ v5l
      clear hG
      have hixw : (WS.map V.str)[spot]? = some (.str wd) := by rw [List.getElem?_map, hwd]; rfl
      refine ⟨_, rfl, _, rfl, wl, _, _, .str wd, rfl, rfl, SqL.of v6, atI_nat hixw, ?_⟩
      refine ⟨_, rfl, _, rfl, pn, L, q5, OD, b + 1, rfl, p6, vq, nq, o1, o2, fun nv H7 hnv e7 p7 => ?_⟩
      obtain ⟨nw, rfl, cnw, lnw⟩ := ho nv hnv
      have lwd : wd.length ≤ 30000 := by omega
      refine ⟨_, _, rfl, sz (by show 0 ≤ 1000000; omega), fun a1 h1 => ⟨_, rfl, sz (by show 1 ≤ 1000000; omega), fun a2 h2 => ⟨_, rfl, sz (by show 1 ≤ 1000000; omega), fun a3 h3 => ⟨_, rfl, _, rfl, sz (by show 2 ≤ 1000000; omega), fun a4 h4 => ⟨_, rfl, wd, rfl, sz (by omega), sz (by show 1 ≤ 1000000; omega), fun a5 h5 => ⟨sz (by show 5 ≤ 1000000; omega), fun m hm => ?_⟩⟩⟩⟩⟩⟩
      generalize hG : upd (upd (upd (upd (upd (upd H7 a1 (.lst _)) a2 (.lst _)) a3 (.lst _)) a4 (.lst _)) a5 (.lst _)) m (.lst _) = H8
      have sq8 : Same H7 H8 := by rw [← hG]; exact (((((Same.new h1).trans (Same.new h2)).trans (Same.new h3)).trans (Same.new h4)).trans (Same.new h5)).trans (Same.new hm)
      have vm : H8 m = some (.lst [.ref a1, .ref a2, .ref a3, .ref a4, .ref a5]) := by rw [← hG]; exact upd_same
      have hmore : ∃ (am : Addr) (ys : List Str), [V.ref a1, .ref a2, .ref a3, .ref a4, .ref a5][way - 3]? = some (.ref am) ∧ H8 am = some (.lst (ys.map V.str)) ∧ (∀ p ∈ ys, Ch p) ∧ wt ys ≤ 2 * (wd.length + 1) + 30 ∧ ys.length ≤ 2 := by
        have g1 := Same.new (o := .lst []) h1
        have i5 := Same.new (o := .lst [.ref a1, .ref a2, .ref a3, .ref a4, .ref a5]) hm
        have i4 := (Same.new h5).trans i5
        have i3 := (Same.new h4).trans i4
        have i2 := (Same.new h3).trans i3
        have i1 := (Same.new h2).trans i2
        rw [hG] at i1 i2 i3 i4 i5
        have : way - 3 = 0 ∨ way - 3 = 1 ∨ way - 3 = 2 ∨ way - 3 = 3 ∨ way - 3 = 4 := by omega
        rcases this with e | e | e | e | e <;> rw [e]
        · exact ⟨a1, [], rfl, i1 _ _ upd_same, fun p hp => (List.not_mem_nil hp).elim, by rw [wt_nil]; omega, by decide⟩
        · exact ⟨a2, [nw], rfl, i2 _ _ upd_same, fun p hp => List.mem_singleton.mp hp ▸ cnw, by rw [wt_cons, wt_nil]; omega, by show 1 ≤ 2; omega⟩
        · exact ⟨a3, [nw], rfl, i3 _ _ upd_same, fun p hp => List.mem_singleton.mp hp ▸ cnw, by rw [wt_cons, wt_nil]; omega, by show 1 ≤ 2; omega⟩
        · refine ⟨a4, [wd, wd], rfl, i4 _ _ upd_same, fun p hp => ?_, by rw [wt_cons, wt_cons, wt_nil]; omega, by show 2 ≤ 2; omega⟩
          simp only [List.mem_cons, List.not_mem_nil, or_false, or_self] at hp
          exact hp ▸ cwd
        · exact ⟨a5, [revT wd], rfl, i5 _ _ upd_same, fun p hp => List.mem_singleton.mp hp ▸ ch_rev cwd, by rw [wt_cons, wt_nil, revT_len]; omega, by show 1 ≤ 2; omega⟩
      clear hG
      obtain ⟨am, ys, hix2, vam, cys, wys, lys⟩ := hmore
      have v8 := sq8 _ _ (e7 _ _ nwl v6)
      have v8l := sq8 _ _ (e7 _ _ nl v6l)
      have p8 : Pen L H8 pn b := (p7.less (by omega)).same sq8
      have e58 : Sam pn H5 H8 := ((Sam.of sq).trans e7).trans (Sam.of sq8)
      clear sq8 h1 h2 h3 h4 h5 hm hq1 hq2 hq3 hq4 hq5 p7 e7 v6 v6l p6 sq vq
      have e3i : (way : Int) - 3 = ((way - 3 : Nat) : Int) := by omega
      have esi : ((spot : Nat) : Int) + 1 = ((spot + 1 : Nat) : Int) := by omega
      have lW1 := wt_take WS spot
      obtain ⟨W1, eW1⟩ : ∃ W1, W1 = WS.take spot ++ ys ++ WS.drop (spot + 1) := ⟨_, rfl⟩
      have wW1 : wt W1 ≤ 2 * ln.length + 40 := by rw [eW1, wt_app, wt_app]; omega
      have cW1 : ∀ p ∈ W1, Ch p := by
        rw [eW1]
        exact ch_app_list (ch_app_list (fun p h => cWS p (List.mem_of_mem_take h)) cys) fun p h => cWS p (List.mem_of_mem_drop h)
      have z1 : (WS.take spot).length ≤ 30001 := by rw [List.length_take]; omega
      have z2 : (WS.drop (spot + 1)).length ≤ 30001 := by rw [List.length_drop]; omega
      refine ⟨_, rfl, _, rfl, _, rfl, wl, _, rfl, SqL.of v8, fun r1 hr1 => ⟨_, rfl, _, rfl, _, _, rfl, rfl, m, _, _, .ref am, rfl, rfl, SqL.of ((Same.new hr1) _ _ vm), by rw [e3i]; exact atI_nat hix2, r1, am, _, _, rfl, rfl, upd_same, (Same.new hr1) _ _ vam, by rw [cutV_take, List.length_map, List.length_map]; exact sz (by omega), fun r2 hr2 => ⟨_, rfl, _, rfl, _, _, rfl, rfl, _, rfl, wl, _, rfl, SqL.of (((Same.new hr1).trans (Same.new hr2)) _ _ v8), fun r3 hr3 => ⟨r2, r3, _, _, rfl, rfl, (Same.new hr3) _ _ upd_same, upd_same, ?_, fun r4 hr4 => ?_⟩⟩⟩⟩
      · rw [List.length_append, cutV_take, esi, cutV_drop, List.length_map, List.length_map, List.length_map]; exact sz (by omega)
      generalize hG : upd (upd (upd (upd H8 r1 (.lst _)) r2 (.lst _)) r3 (.lst _)) r4 (.lst _) = H9
      have sq9 : Same H8 H9 := by rw [← hG]; exact (((Same.new hr1).trans (Same.new hr2)).trans (Same.new hr3)).trans (Same.new hr4)
      have v9 : H9 r4 = some (.lst (W1.map V.str)) := by
        rw [← hG, upd_same, cutV_take, esi, cutV_drop, eW1, List.map_append, List.map_append]
      have v9l := sq9 _ _ v8l
      have p9 := p8.same sq9
      have e59 := e58.trans (Sam.of sq9)
      clear hG sq9
      have lj : (Txt.join " " W1).length ≤ 2 * ln.length + 40 := Nat.le_trans (joined_le bl_tl) wW1
      have cj : Ch (Txt.join " " W1) := ch_join ch_bl cW1
      obtain ⟨JW, eJW⟩ : ∃ JW, JW = Txt.join " " W1 := ⟨_, rfl⟩
      have fits1 := join_room (y := " ") (ps := W1) rfl (by omega)
      have z3 : (LS.take at_).length ≤ 30001 := by rw [List.length_take]; omega
      have z4 : (LS.drop (at_ + 1)).length ≤ 30001 := by rw [List.length_drop]; omega
      have wF : wt (LS.take at_ ++ [JW] ++ LS.drop (at_ + 1)) ≤ 99999 := by
        rw [wt_app, wt_app, wt_cons, wt_nil, eJW]; omega
      refine ⟨⟨_, rfl⟩, _, rfl, _, rfl, _, rfl, l, _, rfl, SqL.of v9l, fun u1 hu1 => ?_⟩
      refine ⟨⟨_, rfl⟩, _, rfl, _, r4, W1, rfl, rfl, .inl (SqL.of ((Same.new hu1) _ _ v9)), fits1, ?_⟩
      rw [← eJW]
      refine ⟨sz (by show 1 ≤ 1000000; omega), fun u2 hu2 => ⟨u1, u2, _, _, rfl, rfl, (Same.new hu2) _ _ upd_same, upd_same, ?_, fun u3 hu3 => ?_⟩⟩
      · rw [cutV_take, List.length_map]; exact sz (by show _ + 1 ≤ 1000000; omega)
      refine ⟨_, rfl, _, rfl, _, _, rfl, rfl, _, rfl, l, _, rfl, SqL.of ((((Same.new hu1).trans (Same.new hu2)).trans (Same.new hu3)) _ _ v9l), fun u4 hu4 => ⟨u3, u4, _, _, rfl, rfl, (Same.new hu4) _ _ upd_same, upd_same, ?_, fun u5 hu5 => ?_⟩⟩
      · rw [List.length_append, cutV_take, ei, cutV_drop, List.length_map, List.length_map]; exact sz (by show _ + 1 + _ ≤ 1000000; omega)
      refine ⟨_, u5, LS.take at_ ++ [JW] ++ LS.drop (at_ + 1), rfl, rfl, .inl (SqL.of ?_), join_room rfl (by omega), ?_⟩
      · rw [upd_same, cutV_take, ei, cutV_drop, List.map_append, List.map_append]; rfl
      · have k9 : ∀ y Hz, Same H9 Hz → Tx0 y → Q (.str y) Hz := fun y Hz e t => kk y Hz (e59.trans (Sam.of e)) (p9.same e) t
        exact k9 _ _ (((((Same.new hu1).trans (Same.new hu2)).trans (Same.new hu3)).trans (Same.new hu4)).trans (Same.new hu5)) (join_tx (ch_app_list (ch_app_list (c1 _) fun p hp => by rw [List.mem_singleton.mp hp, eJW]; exact cj) (c2 _)) wF)
    refine iteF' (decide_eq_false (by omega)) ?_
    refine ⟨_, rfl, sz (by show 7 ≤ 1000000; omega), fun q1 hq1 => ?_⟩
    have nq : q1 ≠ pn := by
      obtain ⟨xs5, hp5⟩ := p5.lst
      exact (ne_of_none hp5 hq1).symm
    have ho := okO_all (xs := [V.str " ", .str "\n", .str "\t", .str "/", .str "0", .str "A", .str "-"]) (by decide +kernel)
    refine ⟨pn, L, q1, _, b + 1, rfl, p5.same (Same.new hq1), upd_same, nq, by decide, by decide, fun sv H6 hsv e6 p6 => ?_⟩
    obtain ⟨sg, rfl, csg, lsg⟩ := ho sv hsv
    have e56 : Sam pn H5 H6 := (Sam.of (Same.new hq1)).trans e6
    clear e6
    refine ⟨_, rfl, _, rfl, x, rfl, sz (by omega), _, _, rfl, rfl, pn, L, _, b, rfl, p6, by omega, by omega, fun cut H7 hcut e7 p7 => ?_⟩
    have l1 := cutS_len2 x none (some (cut : Int))
    have l2 := cutS_len2 x (some ((cut : Int) + 9 - way)) none
    refine ⟨_, rfl, _, rfl, _, rfl, x, rfl, sz (by omega), _, rfl, _, _, rfl, rfl, sz (by omega), _, rfl, _, rfl, _, _, rfl, rfl, _, rfl, _, _, rfl, rfl, _, rfl, x, rfl, sz (by omega), _, _, rfl, rfl, ?_, ?_⟩
    · rw [len_tl, tl_append, List.length_append, ← len_tl, ← len_tl]
      exact sz (by omega)
    · refine kk _ _ (e56.trans e7) p7 ⟨?_, ch_app (ch_app (ch_cut cx _ _) csg) (ch_cut cx _ _)⟩
      rw [len_tl, tl_append, tl_append, List.length_append, List.length_append, ← len_tl, ← len_tl, ← len_tl]
      omega
end
end NK

namespace NK
open PySem PySem.Spec PyProof.Rows L2 NA TL
section
variable {P : Program} {w : World} {K : PySem.W.Frag} {mg : Str → Option Value} {base : Heap} {A : Ad}
def sgT : Str := "abcdefghijklmnopqrstuvwxyz0123456789"
def sp_lmany : Sp := fun vs H Q _ => ∃ (pn L : Addr) (b : Nat), vs = [.ref pn] ∧ Pen L H pn (b + 2) ∧ ∀ y H', Sam pn H H' → Pen L H' pn b → Tx0 y → Q (.str y) H'
theorem ok_lmany (T : Tx P K mg A) : FnR P w K mg base CX0 4 A.f_law_many sp_lmany := by
  refine fnr T.F_law_many sc_law_many (fun _ _ _ _ _ _ us hl => match us, hl with | [_], _ => rfl) (fun vs H Q E h => ?_) (fun cdv A' outer s H vs Q E hr h => ?_)
  · obtain ⟨pn, L, b, rfl, _⟩ := h; rfl
  · obtain ⟨pn, L, b, rfl, hp, k⟩ := h
    refine ⟨_, pss_cons (ps_set (i := 1) sc_law_many.nd rfl (.inl rfl) pe_str)
      (pss_cons (ps_set (i := 2) sc_law_many.nd rfl (.inl rfl) (pe_op op_cat (pe_op op_cat (pe_lst (pa_cons pe_str pa_nil)) (pe_lc (own := [("_law_sign", 6)]) (g := gName 6) (tt := tYes) rfl sc_law_many.nd (pi_str (pv 1)) (blkOk_by (N := ["_law_pen_here", "_law_signs", "_law_places_here", "_law_lines", "_law_some", "_law_last", "_law_sign", "_law_place"]) (sc := defScope s_law_many) (by decide +kernel)) (fun _ _ _ _ _ => pg_name (i := 6) sc_law_many.nd rfl (Or.inl rfl)) (fun _ _ _ _ _ => pts_nil) (fun _ _ _ _ _ => (pe_op op_add_str pe_str (pv 6))))) (pe_lst (pa_cons pe_str (pa_cons pe_str (pa_cons pe_str (pa_cons pe_str pa_nil)))))))
      (pss_cons (ps_set (i := 2) sc_law_many.nd rfl (.inl rfl) (pe_slice sl_list (pe_callB cr_sortedS (by rfl) T.z_sorted (by decide +kernel) (pa_cons (pe_lc (own := [("_law_place", 7)]) (g := gName 7) (tt := tYes) rfl sc_law_many.nd (pi_list (pv 2)) (blkOk_by (N := ["_law_pen_here", "_law_signs", "_law_places_here", "_law_lines", "_law_some", "_law_last", "_law_sign", "_law_place"]) (sc := defScope s_law_many) (by decide +kernel)) (fun _ _ _ _ _ => pg_name (i := 7) sc_law_many.nd rfl (Or.inl rfl)) (fun _ _ _ _ _ => pts_nil) (fun _ _ _ _ _ => (pe_callTy SkE.call_str_str (by rfl) T.z_str (by decide +kernel) (pa_cons (pv 7) pa_nil)))) pa_nil)) po_none (po_some (pe_op op_add pe_int (pe_cl (ok_draw T) (hr.mono (by decide)) (by rfl) T.mg_law_draw T.kp_law_draw pass0 (pa_cons (pv 0) (pa_cons pe_int pa_nil)))))))
      (pss_cons (ps_setLc (i := 3) (own := [("_law_place", 7)]) (g := gName 7) (tt := tYes) rfl sc_law_many.nd rfl rfl (sw_true rfl rfl rfl rfl) (pi_list (pv 2)) (blkOk_by (N := ["_law_pen_here", "_law_signs", "_law_places_here", "_law_lines", "_law_some", "_law_last", "_law_sign", "_law_place"]) (sc := defScope s_law_many) (by decide +kernel)) (fun _ _ _ _ _ => pg_name (i := 7) sc_law_many.nd rfl (Or.inl rfl)) (fun _ _ _ _ _ => pts_nil) (fun _ _ _ _ _ => (pe_op op_add_str (pe_op op_add_str pe_str (pv 7)) pe_str)))
      (pss_cons (ps_set (i := 4) sc_law_many.nd rfl (.inl rfl) (pe_lst (pa_cons (pe_ix ix_list (pv 3) (pe_un un_neg pe_int) (fun _ _ => rfl)) (pa_cons (pe_op op_add_str (pe_ix ix_list (pv 3) (pe_un un_neg pe_int) (fun _ _ => rfl)) pe_str) (pa_cons pe_str (pa_cons pe_str (pa_cons pe_str (pa_cons pe_str (pa_cons pe_str pa_nil)))))))))
      (pss_cons (ps_set (i := 5) sc_law_many.nd rfl (.inl rfl) (pe_cl (ok_pick T) (hr.mono (by decide)) (by rfl) T.mg_law_pick T.kp_law_pick pass0 (pa_cons (pv 0) (pa_cons (pv 4) pa_nil))))
      (pss_one (ps_ret (pe_join pe_str (pe_op op_cat (pe_op op_cat (pe_lst (pa_cons pe_str pa_nil)) (pe_slice sl_list (pv 3) po_none (po_some (pe_un un_neg pe_int)))) (pe_lst (pa_cons (pv 5) pa_nil))))))))))), ?_⟩
    obtain ⟨xs0, hp0⟩ := hp.lst
    refine ⟨sz (by show 1 ≤ 1000000; omega), fun q1 hq1 => ⟨_, rfl, sgT, rfl, fun D hD => lc_txs (walk_str (z := sgT)) (SGL sgT) (by decide +kernel) (fun c => "/" ++ c) hD (fun _ _ => trivial) (by decide +kernel) ?_ g_name_mono ?_⟩⟩
    · rintro i z x Ha Hb hz sa ⟨rfl, c, hc, rfl⟩
      have e : z = ⟨#[c]⟩ := by
        have hcl : (tl sgT)[i]? = some c := by unfold tl; rw [Array.getElem?_toList]; exact hc
        unfold SGL at hz
        rw [List.getElem?_map, hcl] at hz
        injection hz with hz
        exact hz.symm
      subst e
      exact ⟨Same.refl _, rfl, Same.refl _, fun Q' hQ => ⟨_, rfl, _, _, rfl, rfl, by show 1 + 1 ≤ sizeLine; decide, hQ _ (Same.refl _)⟩⟩
    · intro H2 s2 v2
      have vq1 := s2 _ _ (show (upd H q1 (.lst [V.str "/"])) q1 = _ from upd_same)
      refine ⟨q1, D, _, _, rfl, rfl, vq1, v2, by decide +kernel, fun q2 hq2 => ⟨sz (by show 4 ≤ 1000000; omega), fun q3 hq3 => ⟨q2, q3, _, _, rfl, rfl, (Same.new hq3) _ _ upd_same, upd_same, by decide +kernel, fun q4 hq4 => ?_⟩⟩⟩
      obtain ⟨PL, ePL⟩ : ∃ PL : List Str, PL = (["/"] : List Str) ++ (SGL sgT).map (fun c => ("/" : Str) ++ c) ++ (["/z/a", "/z/b", "/z/c", "/z/d"] : List Str) := ⟨_, rfl⟩
      have gPL : ∀ p ∈ PL, Ch p ∧ p.length ≤ 4 := by
        have : PL.all (fun t => (tl t).all (· < 128) && decide (t.length ≤ 4)) = true := by rw [ePL]; decide +kernel
        intro t ht
        have := List.all_eq_true.mp this t ht
        rw [Bool.and_eq_true] at this
        exact ⟨fun c hc => of_decide_eq_true (List.all_eq_true.mp this.1 c hc), of_decide_eq_true this.2⟩
      have lPL : PL.length = 41 := by rw [ePL]; decide +kernel
      generalize hG : upd (upd (upd H2 q2 (.lst _)) q3 (.lst _)) q4 (.lst _) = H4
      have s4 : Same H H4 := by rw [← hG]; exact (((Same.new hq1).trans s2).trans (Same.new hq2)).trans ((Same.new hq3).trans (Same.new hq4))
      have v4 : H4 q4 = some (.lst (PL.map V.str)) := by rw [← hG, upd_same, ePL]; rfl
      have p4 := hp.same s4
      clear hG hq1 hq2 hq3 hq4 v2 vq1 s2 ePL
      refine v_sortl v4 (by omega) rfl (fun _ => rfl) (fun _ => rfl) fun ys p H5 hp' s5 pm so v5 => ?_
      obtain ⟨xs5, hp5⟩ := (p4.same s5).lst
      have npp : p ≠ pn := fun e => by
        subst e
        obtain ⟨ys4, hp4⟩ := p4.lst
        rw [hp'] at hp4; cases hp4
      refine ⟨_, rfl, pn, L, 2, b + 1, rfl, p4.same s5, by decide, by decide, fun d H6 hd e6 p6 => ⟨_, _, rfl, rfl, _, rfl, p, _, rfl, SqL.of (e6 _ _ npp v5), fun q5 hq5 => ?_⟩⟩
      rw [show (40 : Int) + (d : Nat) = ((40 + d : Nat) : Int) by omega, cutV_take]
      obtain ⟨YS, eYS⟩ : ∃ YS, YS = ys.take (40 + d) := ⟨_, rfl⟩
      rw [← eYS]
      have lys : ys.length = 41 := by rw [pm.length_eq, lPL]
      have lYS : 40 ≤ YS.length ∧ YS.length ≤ 41 := by rw [eYS, List.length_take]; omega
      have gYS : ∀ p ∈ YS, Ch p ∧ p.length ≤ 4 := fun p hp => gPL p (pm.subset (List.mem_of_mem_take (eYS ▸ hp)))
      have s7 := Same.new (o := .lst (YS.map V.str)) hq5
      have v7 : (upd H6 q5 (.lst (YS.map V.str))) q5 = some (.lst (YS.map V.str)) := upd_same
      have p7 := p6.same s7
      have e07 : Sam pn H (upd H6 q5 (.lst (YS.map V.str))) := ((Sam.of (s4.trans s5)).trans e6).trans (Sam.of s7)
      generalize upd H6 q5 (.lst (YS.map V.str)) = H7 at s7 v7 p7 e07
      clear s4 s5 e6 p6 p4 hq5 s7 v4 v5 hp' hp5
      have lS : ∀ a b : Str, (a ++ b).length = a.length + b.length := fun a b => by rw [len_tl, tl_append, List.length_append, ← len_tl, ← len_tl]
      refine ⟨_, rfl, q5, rfl, ⟨_, SqL.of v7⟩, fun D2 hD2 => lc_txs (walk_list (K := K) (a := q5) (xs := YS.map V.str)) YS (List.length_map _).symm (fun z => ("row " : Str) ++ z ++ " r x") hD2 (fun H' s => SqL.of (s _ _ v7)) (by rw [List.length_map]; exact szl (by omega)) ?_ g_name_mono ?_⟩
      · rintro j z x Ha Hb hz sa ⟨rfl, hx⟩
        cases str_at hz hx
        have lz := (gYS z (List.mem_of_getElem? hz)).2
        refine ⟨Same.refl _, rfl, Same.refl _, fun Q' hQ => ⟨_, rfl, _, _, rfl, rfl, ?_, _, _, rfl, rfl, ?_, hQ _ (Same.refl _)⟩⟩
        · exact sz (by show 4 + _ ≤ 1000000; omega)
        · rw [lS]; exact sz (by show 4 + _ + 4 ≤ 1000000; omega)
      intro H8 s8 v8
      obtain ⟨LN, eLN⟩ : ∃ LN, LN = YS.map fun z => ("row " : Str) ++ z ++ " r x" := ⟨_, rfl⟩
      rw [← eLN] at v8
      have chk : ∀ {z : Str}, (tl z).all (· < 128) = true → Ch z := fun h c hc => of_decide_eq_true (List.all_eq_true.mp h c hc)
      have gLN : ∀ p ∈ LN, Ch p ∧ p.length ≤ 12 := by
        intro p hp
        rw [eLN] at hp
        obtain ⟨z, hz, rfl⟩ := List.mem_map.mp hp
        obtain ⟨g1, g2⟩ := gYS z hz
        exact ⟨ch_app (ch_app (chk (by decide +kernel)) g1) (chk (by decide +kernel)), by rw [lS, lS]; show 4 + _ + 4 ≤ 12; omega⟩
      have lLN : 40 ≤ LN.length ∧ LN.length ≤ 41 := by rw [eLN, List.length_map]; exact lYS
      obtain ⟨LI, ll, eLL⟩ : ∃ LI x, LN = LI ++ [x] := (List.eq_nil_or_concat LN).resolve_left (fun e => by rw [e] at lLN; simp at lLN) |> fun ⟨a, b, h⟩ => ⟨a, b, by rw [h]; simp⟩
      have p8 := p7.same s8
      have e08 := e07.trans (Sam.of s8)
      obtain ⟨gl1, gl2⟩ := gLN ll (by rw [eLL]; simp)
      have hat : atI (LN.map V.str) (-1) = some (.str ll) := by rw [eLL, List.map_append]; exact atI_last _ _
      have nD : D2 ≠ pn := by
        obtain ⟨xs7, hp7⟩ := p7.lst
        exact (ne_of_none hp7 hD2).symm
      clear s8 eLN gYS lYS p7 e07
      have l2 : (ll ++ (" r" : Str)).length ≤ 14 := by rw [lS]; show _ + 2 ≤ 14; omega
      refine ⟨_, rfl, 1, rfl, D2, _, _, _, rfl, rfl, SqL.of v8, hat, _, rfl, 1, rfl, D2, _, _, _, rfl, rfl, SqL.of v8, hat, _, _, rfl, rfl, sz (by show _ + 2 ≤ 1000000; omega), sz (by show 7 ≤ 1000000; omega), fun q6 hq6 => ?_⟩
      have hov : ∀ v ∈ [V.str ll, .str (ll ++ " r"), .str "row /z/zz r", .str "row /z/ r x", .str "row /a r x", .str "row", .str "Row /zz r x"], ∃ z : Str, v = .str z ∧ Ch z ∧ z.length ≤ 20 := by
        intro v hv
        rcases List.mem_cons.mp hv with rfl | hv
        · exact ⟨_, rfl, gl1, by omega⟩
        rcases List.mem_cons.mp hv with rfl | hv
        · exact ⟨_, rfl, ch_app gl1 (chk (by decide +kernel)), by omega⟩
        · exact okO_all (by decide +kernel) v hv
      obtain ⟨xs8, hp8⟩ := p8.lst
      have nq6 : q6 ≠ pn := (ne_of_none hp8 hq6).symm
      refine ⟨_, rfl, _, rfl, pn, L, q6, _, b, rfl, p8.same (Same.new hq6), upd_same, nq6, by show 1 ≤ 7; omega, by show 7 ≤ 100000; omega, fun v H9 hv e9 p9 => ?_⟩
      obtain ⟨lz, rfl, clz, llz⟩ := hov v hv
      have v9 := e9 _ _ nD ((Same.new hq6) _ _ v8)
      have k9 : ∀ y Hz, Same H9 Hz → Tx0 y → Q (.str y) Hz := fun y Hz e t => k y Hz ((e08.trans ((Sam.of (Same.new hq6)).trans e9)).trans (Sam.of e)) (p9.same e) t
      obtain ⟨M, eM, mM, wM, lM⟩ := cutV_map LN none (some (-1))
      have wLN := wt_le (b := 12) fun p hp => (gLN p hp).2
      have wT : wt ((["columns r"] : List Str) ++ M ++ [lz]) ≤ 2000 := by
        rw [wt_app, wt_app, wt_cons, wt_cons, wt_nil]
        have : ("columns r" : Str).length = 9 := by decide +kernel
        omega
      refine ⟨⟨_, rfl⟩, sz (by show 1 ≤ 1000000; omega), fun r1 hr1 => ⟨_, rfl, 1, rfl, _, rfl, D2, _, rfl, SqL.of ((Same.new hr1) _ _ v9), fun r2 hr2 => ⟨r1, r2, _, _, rfl, rfl, (Same.new hr2) _ _ upd_same, upd_same, ?_, fun r3 hr3 => ⟨_, rfl, sz (by show 1 ≤ 1000000; omega), fun r4 hr4 => ⟨r3, r4, _, _, rfl, rfl, (Same.new hr4) _ _ upd_same, upd_same, ?_, fun r5 hr5 => ⟨_, r5, (["columns r"] : List Str) ++ M ++ [lz], rfl, rfl, .inl (SqL.of ?_), join_room rfl (by omega), ?_⟩⟩⟩⟩⟩⟩
      · rw [eM, List.length_map]; exact sz (by show 1 + _ ≤ 1000000; omega)
      · rw [eM, List.length_append, List.length_map]; exact sz (by show 1 + _ + 1 ≤ 1000000; omega)
      · rw [upd_same, eM, List.map_append, List.map_append]; rfl
      · refine k9 _ _ (((((Same.new hr1).trans (Same.new hr2)).trans (Same.new hr3)).trans (Same.new hr4)).trans (Same.new hr5)) (join_tx (ch_app_list (ch_app_list (fun p hp => ?_) fun p hp => (gLN p (mM p hp)).1) fun p hp => ?_) (by omega))
        · rw [List.mem_singleton.mp hp]; exact chk (by decide +kernel)
        · rw [List.mem_singleton.mp hp]; exact clz
end
end NK

namespace NK
open PySem PySem.Spec PyProof.Rows L2 NA TL
theorem nm_ch {z : Str} (h : isNm z = true) : Ch z := (nm_sk h).2
theorem tx_ch {z : Str} (h : isTx z = true) : Ch z := (tx_sk h).2
theorem showX_ch {cs : List Str} {f : Str → Row} {zs : List Str} (g : GX cs f zs) : Ch (showX cs f zs) := by
  unfold showX
  refine ch_join ch_lf fun p hp => ?_
  obtain ⟨ws, hw, rfl⟩ := List.mem_map.mp hp
  refine ch_join ch_bl fun z hz => ?_
  rcases List.mem_cons.mp hw with rfl | h
  · rcases List.mem_cons.mp hz with rfl | hz
    · exact nm_ch (by decide +kernel)
    · exact nm_ch (g.col.nm z hz)
  · obtain ⟨t, ht, rfl⟩ := List.mem_map.mp h
    rcases List.mem_cons.mp hz with rfl | hz
    · exact nm_ch (by decide +kernel)
    rcases List.mem_cons.mp hz with rfl | hz
    · exact tx_ch (g.row _ ht).1
    obtain ⟨p, hp, h⟩ := List.mem_flatMap.mp hz
    obtain ⟨h1, h2⟩ := prs_mem hp
    simp only [List.mem_cons, List.not_mem_nil, or_false] at h
    rcases h with rfl | rfl
    · exact nm_ch (g.col.nm _ h1)
    · exact nm_ch ((g.row t ht).2.2.2 _ (look_mem h2)).2
theorem scan_mem {γ : Type} : ∀ {L : List (Bool × γ)} {c : γ}, scan L = some c → ∃ b, (b, c) ∈ L
  | (true, d) :: L, c, h => by
    obtain ⟨b, hb⟩ := scan_mem (L := L) h
    exact ⟨b, List.mem_cons_of_mem _ hb⟩
  | (false, d) :: L, c, h => by
    injection h with h
    exact ⟨false, h ▸ List.mem_cons_self ..⟩
theorem head_small {ws : List Str} {b : Bool} {k : Nat} (h : (b, k) ∈ headS ws) : k ≤ ws.length + 1 := by
  unfold headS at h
  rcases List.mem_cons.mp h with e | h
  · injection e; omega
  rcases List.mem_cons.mp h with e | h
  · injection e; omega
  obtain ⟨i, hi, e⟩ := List.mem_map.mp h
  injection e with _ e
  have := List.mem_range.mp hi
  omega
theorem line_small {cs known ws : List Str} {b : Bool} {k : Nat} (h : (b, k) ∈ lineS cs known ws) : k ≤ ws.length + 2 := by
  unfold lineS rowS at h
  rcases List.mem_cons.mp h with e | h
  · injection e; omega
  rcases List.mem_append.mp h with h | h
  · rcases List.mem_cons.mp h with e | h
    · injection e; omega
    rcases List.mem_cons.mp h with e | h
    · injection e; omega
    rcases List.mem_cons.mp h with e | h
    · injection e; omega
    rcases List.mem_cons.mp h with e | h
    · injection e; omega
    obtain ⟨i, hi, e⟩ := List.mem_map.mp h
    injection e with _ e
    have := List.mem_range.mp hi
    omega
  · have e := List.mem_singleton.mp h
    injection e; omega
theorem lines_small {cs : List Str} {m : Nat} : ∀ {LS : List (List Str)} {n : Nat} {known : List Str} {b : Bool} {i j : Nat}, (∀ ws ∈ LS, ws.length ≤ m) → (b, i, j) ∈ linesS cs n known LS → i ≤ n + LS.length ∧ j ≤ m + 2
  | [], n, known, b, i, j, _, h => (List.not_mem_nil h).elim
  | ws :: LS, n, known, b, i, j, hw, h => by
    rcases List.mem_append.mp h with h | h
    · obtain ⟨p, hp, e⟩ := List.mem_map.mp h
      injection e with _ e
      injection e with e1 e2
      have := line_small (b := p.1) (k := p.2) hp
      have := hw ws (List.mem_cons_self ..)
      omega
    · have := lines_small (fun w h => hw w (List.mem_cons_of_mem _ h)) h
      rw [List.length_cons]
      omega
theorem fault_small {ox : Option Str} {i j : Nat} (hx : ∀ x, ox = some x → Tx0 x) (h : faultOf ox = some (i, j)) : i < 1000000 ∧ j < 1000000 := by
  cases ox with
  | none => injection h with h; injection h; omega
  | some x =>
    have hx := hx x rfl
    have lw := ls_words hx
    have ll := ls_len hx
    obtain ⟨b, hb⟩ := scan_mem (show scan (fileS (LSof x)) = some (i, j) from h)
    have ne := ls_ne x
    generalize LSof x = LS at *
    cases LS with
    | nil => exact (ne rfl).elim
    | cons ws LS =>
      rcases List.mem_append.mp (show (b, i, j) ∈ (headS ws).map (fun p => (p.1, 0, p.2)) ++ linesS (ws.drop 1) 1 [] LS from hb) with h | h
      · obtain ⟨p, hp, e⟩ := List.mem_map.mp h
        injection e with _ e
        injection e with e1 e2
        have := head_small (b := p.1) (k := p.2) hp
        have := (lw ws (List.mem_cons_self ..)).2.1
        omega
      · have := lines_small (m := 100000) (fun w h => (lw w (List.mem_cons_of_mem _ h)).2.1) h
        rw [List.length_cons] at ll
        omega
theorem file_shown {cs : List Str} {f : Str → Row} {zs ys : List Str} {fs : Rows} {x : Str} (e : LSof x = linesW cs f zs) (gx : GX cs f zs) (g : GTb cs fs) (pf : fs.Perm (atG (fun z => prs cs (f z)) zs)) (py : ys.Perm (fs.map (·.1))) (so : sortedS ys = true) (ro : RowsOk fs) : showX cs (atL fs) ys = x := by
  have h1 : showX cs (atL fs) ys = showX cs f zs := by
    rw [show_iff (g.gx py so) gx, cellAt_perm ro (atG_perm g.nd py), cellAt_perm gx.rok pf, cellAt_prs gx]
  rw [h1]
  have := ls_back x
  rw [e] at this
  exact this
theorem Gdt.nat {n : Nat} (h : n < 1000000) : Gdt 20 0 (.int n) := by
  have hlog : n.log2 < 20 := by
    rcases Nat.eq_zero_or_pos n with e | e
    · rw [e]; decide
    · exact (Nat.log2_lt (by omega)).mpr (by omega)
  refine ⟨by rw [PyData.showable, Int.natAbs_natCast]; exact decide_eq_true (by omega), ?_, ?_, by rw [PyData.depth]; exact Nat.le_refl _⟩
  · rw [PyData.leavesShort]
    refine decide_eq_true ?_
    rw [PyData.shown]
    show (Str.ofString (toString ((n : Nat) : Int))).length ≤ 20
    rw [len_tl, tl_num]
    exact Nat.le_trans (numL_len (k := 6) (by decide) h) (by decide)
  · rw [PyData.weight]
    split
    · omega
    · next hn =>
      rw [Int.natAbs_natCast]
      omega
theorem GRw.tb {cs : List Str} {rs : Rows} (g : GRw cs rs) (gc : GCol cs) (l : rs.length ≤ 40) : GTb cs rs := ⟨gc, fun p hp => ⟨(g.row p hp).1, tx_len73 (g.row p hp).1, (g.row p hp).2⟩, g.nd, l⟩
section
variable {K : PySem.W.Frag}
theorem tyx_map {H H' : Hp} {v : V} {t : Value} (h : TyX K H v t) (s : ∀ a o, v = .ref a → H a = some o → H' a = some o) : TyX K H' v t := by
  cases h with
  | base b =>
    cases b with
    | non => exact .base .non
    | bl x => exact .base (.bl x)
    | int i => exact .base (.int i)
    | str x => exact .base (.str x)
    | flt x => exact .base (.flt x)
    | lst e => exact .base (.lst (s _ _ rfl e))
    | frz e => exact .base (.frz (s _ _ rfl e))
    | tup e => exact .base (.tup (s _ _ rfl e))
    | dK e => exact .base (.dK (s _ _ rfl e))
    | dT e => exact .base (.dT (s _ _ rfl e))
    | ins e a b c d f => exact .base (.ins (s _ _ rfl e) a b c d f)
  | byt b => exact .byt b
  | set e => exact .set (s _ _ rfl e)
  | kList e c => exact .kList e c
  | kTuple e c => exact .kTuple e c
  | kDict e c => exact .kDict e c
  | fTuple e => exact .fTuple (s _ _ rfl e)
  | fDict e => exact .fDict (s _ _ rfl e)
theorem TV.map {H H' : Hp} {v : V} {ox : Option Str} (h : TV K H v ox) (s : ∀ a o, v = .ref a → H a = some o → H' a = some o) : TV K H' v ox := by
  cases ox with
  | some x => exact h
  | none =>
    obtain ⟨t, ty, k⟩ := h
    exact ⟨t, tyx_map ty s, k⟩
theorem TV.same {H H' : Hp} {v : V} {ox : Option Str} (h : TV K H v ox) (s : Same H H') : TV K H' v ox := h.map fun a o _ e => s a o e
theorem TV.sam {H H' : Hp} {p : Addr} {v : V} {ox : Option Str} (h : TV K H v ox) (n : v ≠ .ref p) (s : Sam p H H') : TV K H' v ox := h.map fun a o e1 e => s a o (fun z => n (by rw [e1, z])) e
theorem kn_non : PySem.W.kitOne K (.type "NoneType") (.type "str") = some false := rfl
theorem kn_int : PySem.W.kitOne K (.type "int") (.type "str") = some false := rfl
theorem kn_bool : PySem.W.kitOne K (.type "bool") (.type "str") = some false := rfl
theorem kn_list : PySem.W.kitOne K (.type "list") (.type "str") = some false := rfl
theorem kn_dict : PySem.W.kitOne K (.type "dict") (.type "str") = some false := rfl
end
end NK

namespace NK
open PySem PySem.Spec PyProof.Rows L2 NA TL
theorem c_reprIJ {K : PySem.W.Frag} {H : Hp} {p : Addr} {i j : Nat} {Q : VK} (hi : i < 1000000) (hj : j < 1000000) (hp : H p = some (.tup [.int i, .int j])) (k : Q (.str (PyData.tuple [.int i, .int j]).shown) H) : rReprP K [.ref p] H Q := by
  have gd := Gdt.tuple (W := 20) (n := 0) (ds := [.int i, .int j]) fun d hd => by
    simp only [List.mem_cons, List.not_mem_nil, or_false] at hd
    rcases hd with rfl | rfl
    · exact Gdt.nat hi
    · exact Gdt.nat hj
  exact ⟨p, _, 1, _, rfl, .tup (SqT.of hp) (.cons (.int _) (.cons (.int _) .nil)), gd, rfl, by decide, by show 22 * (2 * 21) + 20 ≤ 1000000; decide, k⟩
section
variable {P : Program} {w : World} {K : PySem.W.Frag} {mg : Str → Option Value} {base : Heap} {A : Ad}
def spLaw (A : Ad) (K : PySem.W.Frag) : Sp := fun vs H Q _ => ∃ (a : Addr) (ns : List Int), vs = [.ref a] ∧ SqL K H a (ns.map V.int) ∧ ns.length ≤ 63 ∧ ∀ H', Q (.bl true) H'
theorem ok_law (T : Tx P K mg A) : FnG P w K mg base CX0 11 A.f_law (spLaw A K) := by
  refine fnge T.F_law sc_law (fun _ _ _ _ _ _ us hl => match us, hl with | [_], _ => rfl) (fun vs H Q E h => ?_) (fun cdv A' outer s H vs Q E hr hgd h => ?_)
  · obtain ⟨a, ns, rfl, _⟩ := h; rfl
  · obtain ⟨a, ns, rfl, hS, hl, k⟩ := h
    refine ⟨_, pss_cons (ps_set (i := 1) sc_law.nd rfl (.inl rfl) (pe_cl (ok_pen T) (hr.mono (by decide)) (by rfl) T.mg_law_pen T.kp_law_pen pass0 (pa_cons (pv 0) pa_nil)))
      (pss_cons (ps_for PassesOwn.never rfl (pi_range1 (by rfl) T.z_range (pa_cons pe_int pa_nil)) (pg_name (i := 2) sc_law.nd rfl (.inl rfl))
        (pss_cons (ps_asg (pe_cl (ok_ldrawn T) (hr.mono (by decide)) (by rfl) T.mg_law_drawn T.kp_law_drawn pass0 (pa_cons (pv 1) (pa_cons pe_int pa_nil))) (pg_tup (by rfl) (pgs_cons (pg_name (i := 3) sc_law.nd rfl (.inl rfl)) (pgs_cons (pg_name (i := 4) sc_law.nd rfl (.inl rfl)) pgs_nil))) (by rfl))
      (pss_cons (ps_set (i := 5) sc_law.nd rfl (.inl rfl) (pe_cl (ok_lbent T) (hr.mono (by decide)) (by rfl) T.mg_law_bent T.kp_law_bent pass0 (pa_cons (pv 1) (pa_cons (pe_cl (ok_ltext T) (hr.mono (by decide)) (by rfl) T.mg_law_text T.kp_law_text pass0 (pa_cons (pv 3) (pa_cons (pv 4) pa_nil))) pa_nil))))
      (pss_jn (ps_if (pt_cmpR op_eq (pe_cl (ok_draw T) (hr.mono (by decide)) (by rfl) T.mg_law_draw T.kp_law_draw pass0 (pa_cons (pv 1) (pa_cons pe_int pa_nil))) pe_int (nomark _)) (pss_cons (ps_set (i := 6) sc_law.nd rfl (.inl rfl) (pe_lst (pa_cons pe_non (pa_cons pe_int (pa_cons pe_str (pa_cons pe_str (pa_cons (pe_lst (pa_cons pe_str pa_nil)) (pa_cons pe_dnewK (pa_cons pe_bl (pa_cons pe_str (pa_cons pe_str (pa_cons pe_str (pa_cons pe_str pa_nil)))))))))))))
      (pss_one (ps_set (i := 5) sc_law.nd rfl (.inl rfl) (pe_cl (ok_pick T) (hr.mono (by decide)) (by rfl) T.mg_law_pick T.kp_law_pick pass0 (pa_cons (pv 1) (pa_cons (pv 6) pa_nil)))))) pss_nil)
      (pss_jn (ps_if (pt_cmpR op_eq (pe_cl (ok_draw T) (hr.mono (by decide)) (by rfl) T.mg_law_draw T.kp_law_draw pass0 (pa_cons (pv 1) (pa_cons pe_int pa_nil))) pe_int (nomark _)) (pss_one (ps_set (i := 5) sc_law.nd rfl (.inl rfl) (pe_cl (ok_lmany T) (hr.mono (by decide)) (by rfl) T.mg_law_many T.kp_law_many pass0 (pa_cons (pv 1) pa_nil)))) pss_nil)
      (pss_cons (ps_par (i := 7) (j := 8) (by rfl) sc_law.nd rfl rfl (by decide) rfl rfl (pa_cons (pe_cl (ok_lfault T) (hr.mono (by decide)) (by rfl) T.mg_law_fault T.kp_law_fault pass0 (pa_cons (pv 5) pa_nil)) (pa_cons (pe_cl (ok_lheard T) (hr.mono (by decide)) (by rfl) T.mg_law_heard T.kp_law_heard pass0 (pa_cons (pv 5) pa_nil)) pa_nil)) (by rfl))
      (pss_jn (ps_if (PW.pt (pw_and (pt_cmp (pc_notN (pv 7))) (pw_and1 (pt_cmpR op_ne (pe_callB (call_reprP hgd hr.units) (by rfl) T.z_repr (by decide +kernel) (pa_cons (pv 8) pa_nil)) (pe_callB (call_reprP hgd hr.units) (by rfl) T.z_repr (by decide +kernel) (pa_cons (pv 7) pa_nil)) (nomark _))))) (pss_one (ps_ret pe_bl)) pss_nil)
      (pss_jn (ps_if (PW.pt (pw_and (pt_cmp (pc_isN (pv 7))) (pw_and1 (PW.pt (pw_or (pt_not (pt_val (pe_callB call_isi (by rfl) T.z_isinstance (by decide +kernel) (pa_cons (pv 8) (pa_cons (pe_bltn (v := .ty "list") (by rfl) T.z_list (by decide +kernel) rfl) pa_nil))))) (pw_or1 (pt_not (pt_val (pe_callB call_isi (by rfl) T.z_isinstance (by decide +kernel) (pa_cons (pe_ix ix_list (pv 8) pe_int (fun _ _ => rfl)) (pa_cons (pe_glob (v := .ref A.c_Table) (by rfl) T.mg_Table rfl) pa_nil))))))))))) (pss_one (ps_ret pe_bl)) pss_nil)
      (pss_one (ps_if (PW.pt (pw_and (pt_cmp (pc_isN (pv 7))) (pw_and1 (pt_cmpR op_ne (pe_cl (ok_show T) (hr.mono (by decide)) (by rfl) T.mg_show_table T.kp_show_table pass0 (pa_cons (pe_ix ix_list (pv 8) pe_int (fun _ _ => rfl)) pa_nil)) (pv 5) (nomark _))))) (pss_one (ps_ret pe_bl)) pss_nil))))))))))
      (pss_one (ps_ret pe_bl))), ?_⟩
    refine ⟨_, rfl, a, ns, rfl, hS, fun pn L H1 hpn s1 p1 => ?_⟩
    refine ⟨10, rfl, by decide, by decide, for_range (n := 10) (fun j σ H' => Pen L H' pn (120 * (10 - j)) ∧ ∃ v2 v3 v4 v5 v6 v7 v8, σ = [some (.ref a), some (.ref pn), v2, v3, v4, v5, v6, v7, v8])
      ⟨p1.less (by omega), _, _, _, _, _, _, _, rfl⟩ ?_ ?_⟩
    · rintro j σ H2 hj ⟨p2, v2, v3, v4, v5, v6, v7, v8, rfl⟩
      obtain ⟨f, ef, ef2⟩ : ∃ f, 120 * (10 - j) = f + 120 ∧ f = 120 * (10 - (j + 1)) := ⟨120 * (10 - (j + 1)), by omega, rfl⟩
      rw [ef] at p2
      refine ⟨_, rfl, pn, L, f + 15, rfl, p2, fun tp lt d cs rs H3 e3 p3 htp hlt nlt gc hR gR l10 => ?_⟩
      refine ⟨tp, _, rfl, SqT.of htp, rfl, _, _, rfl, _, _, rfl, rfl, ?_⟩
      have gt := gR.tb gc (by omega)
      refine ⟨_, rfl, _, rfl, _, rfl, lt, d, cs, rs, rfl, hlt, hR, gt, fun zs H4 s4 pz so => ?_⟩
      have gx := gt.gx pz so
      refine ⟨pn, L, f + 10, _, rfl, p3.same s4, showX_len gx, showX_ch gx, fun y H5 e5 p5 ty => ?_⟩
      clear hR htp hlt gR gt gx pz so s4 e3 e5 p2 p3
      refine ⟨fun σ H' => Pen L H' pn (f + 8) ∧ ∃ v ox v2 v3 v4 v6 v7 v8, TV K H' v ox ∧ v ≠ .ref pn ∧ σ = [some (.ref a), some (.ref pn), v2, v3, v4, some v, v6, v7, v8], ?_, ?_⟩
      · refine ⟨_, rfl, pn, L, 8, f + 9, rfl, p5, by decide, by decide, fun t H6 ht e6 p6 => ⟨rfl, _, rfl, ?_⟩⟩
        by_cases h0 : t = 0
        case neg =>
          refine iteF' (decide_eq_false fun z => h0 (by injection z; omega)) ?_
          exact ⟨p6.less (by omega), .str y, some y, _, _, _, _, _, _, ⟨rfl, ty⟩, (fun e => by cases e), rfl⟩
        refine iteT' (decide_eq_true (by rw [h0]; rfl)) ?_
        obtain ⟨xs6, hp6⟩ := p6.lst
        refine ⟨sz (by show 1 ≤ 1000000; omega), fun q1 hq1 q2 hq2 => ⟨sz (by show 11 ≤ 1000000; omega), fun q3 hq3 => ?_⟩⟩
        have g1 := (Same.new (o := .lst [V.str "columns r"]) hq1)
        have vq1 := g1.trans (Same.new (o := .dK []) hq2) |>.trans (Same.new (o := .lst [.non, .int 7, .str "", .str "columns", .ref q1, .ref q2, .bl true, .str "columns r ", .str " columns r", .str "\n", .str "row / r x"]) hq3)
        have n1 : q1 ≠ pn := (ne_of_none hp6 hq1).symm
        have n2 : q2 ≠ pn := (ne_of_none (g1 _ _ hp6) hq2).symm
        have n3 : q3 ≠ pn := (ne_of_none ((g1.trans (Same.new hq2)) _ _ hp6) hq3).symm
        have w1 := ((Same.new (o := .dK []) hq2).trans (Same.new (o := .lst [.non, .int 7, .str "", .str "columns", .ref q1, .ref q2, .bl true, .str "columns r ", .str " columns r", .str "\n", .str "row / r x"]) hq3)) _ _ (show (upd H6 q1 (.lst [V.str "columns r"])) q1 = _ from upd_same)
        have w2 := (Same.new (o := .lst [.non, .int 7, .str "", .str "columns", .ref q1, .ref q2, .bl true, .str "columns r ", .str " columns r", .str "\n", .str "row / r x"]) hq3) _ _ (show (upd (upd H6 q1 (.lst [V.str "columns r"])) q2 (.dK [])) q2 = _ from upd_same)
        refine ⟨_, rfl, _, rfl, pn, L, q3, _, f + 8, rfl, p6.same vq1, upd_same, n3, by show 1 ≤ 11; omega, by show 11 ≤ 100000; omega, fun v H7 hv e7 p7 => ?_⟩
        have u1 := e7 _ _ n1 w1
        have u2 := e7 _ _ n2 w2
        refine ⟨p7, ?_⟩
        suffices h : ∃ ox, TV K H7 v ox ∧ v ≠ .ref pn by
          obtain ⟨ox, h1, h2⟩ := h
          exact ⟨v, ox, _, _, _, _, _, _, h1, h2, rfl⟩
        have T0 : ∀ {z : Str}, (decide (z.length ≤ 99999) && ((tl z).all (· < 128))) = true → ∃ ox, TV K H7 (.str z) ox ∧ V.str z ≠ .ref pn := fun {z} h => by
          rw [Bool.and_eq_true] at h
          exact ⟨some z, ⟨rfl, of_decide_eq_true h.1, fun c hc => of_decide_eq_true (List.all_eq_true.mp h.2 c hc)⟩, fun e => by cases e⟩
        simp only [List.mem_cons, List.not_mem_nil, or_false] at hv
        rcases hv with rfl | rfl | rfl | rfl | rfl | rfl | rfl | rfl | rfl | rfl | rfl
        · exact ⟨none, ⟨_, .base .non, kn_non⟩, fun e => by cases e⟩
        · exact ⟨none, ⟨_, .base (.int 7), kn_int⟩, fun e => by cases e⟩
        · exact T0 (by decide +kernel)
        · exact T0 (by decide +kernel)
        · exact ⟨none, ⟨_, .base (.lst u1), kn_list⟩, fun e => n1 (V.ref.inj e)⟩
        · exact ⟨none, ⟨_, .base (.dK u2), kn_dict⟩, fun e => n2 (V.ref.inj e)⟩
        · exact ⟨none, ⟨_, .base (.bl true), kn_bool⟩, fun e => by cases e⟩
        · exact T0 (by decide +kernel)
        · exact T0 (by decide +kernel)
        · exact T0 (by decide +kernel)
        · exact T0 (by decide +kernel)
      · rintro σ H6 ⟨p6, v, ox, v2, v3, v4, v6, v7, v8, tv, nv, rfl⟩
        refine ⟨fun σ H' => Pen L H' pn f ∧ ∃ v ox v2 v3 v4 v6 v7 v8, TV K H' v ox ∧ σ = [some (.ref a), some (.ref pn), v2, v3, v4, some v, v6, v7, v8], ?_, ?_⟩
        · refine ⟨_, rfl, pn, L, 6, f + 7, rfl, p6, by decide, by decide, fun t H7 ht e7 p7 => ⟨rfl, _, rfl, ?_⟩⟩
          by_cases h0 : t = 0
          · refine iteT' (decide_eq_true (by rw [h0]; rfl)) ?_
            exact ⟨_, rfl, pn, L, f + 5, rfl, p7, fun y H8 e8 p8 ty => ⟨p8.less (by omega), .str y, some y, _, _, _, _, _, _, ⟨rfl, ty⟩, rfl⟩⟩
          · exact iteF' (decide_eq_false fun z => h0 (by injection z; omega)) ⟨p7.less (by omega), v, ox, _, _, _, _, _, _, tv.sam nv e7, rfl⟩
        · rintro σ H7 ⟨p7, v, ox, v2, v3, v4, v6, v7, v8, tv, rfl⟩
          refine ⟨_, rfl, v, ox, rfl, tv, fun u H8 s8 fr => ?_⟩
          have hx0 : ∀ x, ox = some x → Tx0 x := fun x e => by subst e; exact tv.2
          have p8 := p7.same s8
          refine ⟨_, rfl, v, ox, rfl, tv.same s8, fun x cs2 f2 zs2 ex en eW gx l g dx fs H9 s9 hl9 pm tb => ?_, fun fi fj ef q H9 s9 hq => ?_⟩
          · subst ex
            rw [en] at fr
            have fr : u = .non := fr
            subst fr
            obtain ⟨rfl, hx⟩ := tv
            have p9 := p8.same s9
            obtain ⟨_, ⟨xg, tcg, ig, jg⟩, _⟩ := id tb
            refine ⟨_, _, rfl, ?_⟩
            refine ⟨fun σ H' => H' = H9 ∧ σ = [some (.ref a), some (.ref pn), v2, v3, v4, some (.str x), v6, some .non, some (.ref l)], ?_, ?_⟩
            ·
              exact ⟨_, rfl, _, rfl, iteF' rfl (iteF ⟨rfl, rfl⟩)⟩
            rintro σ H' ⟨rfl, rfl⟩
            refine ⟨fun σ H'' => H'' = H' ∧ σ = [some (.ref a), some (.ref pn), v2, v3, v4, some (.str x), v6, some .non, some (.ref l)], ?_, ?_⟩
            ·
              refine ⟨_, rfl, _, rfl, iteT' rfl ⟨_, rfl, .ref l, .ty "list", .type "list", .type "list", true, rfl, .ty "list", .base (.lst hl9), kit_self, _, rfl, ?_⟩⟩
              exact iteF' rfl ⟨_, rfl, l, _, 0, .ref g, rfl, rfl, SqL.of hl9, atI_nat (j := 0) rfl, .ref g, .ref A.c_Table, .ref A.c_Table, .ref A.c_Table, true, rfl, .own _, T.tyT ig, kit_self, _, rfl, iteF' rfl ⟨rfl, rfl⟩⟩
            rintro σ H'' ⟨rfl, rfl⟩
            refine ⟨_, rfl, _, rfl, iteT' rfl ⟨_, rfl, l, _, 0, .ref g, rfl, rfl, SqL.of hl9, atI_nat (j := 0) rfl, g, dx, cs2, fs, rfl, tb, fun ys H10 s10 py so => ⟨_, rfl, ?_⟩⟩⟩
            rw [file_shown eW gx tb.1 pm py so tb.rok]
            exact ⟨rfl, _, rfl, iteF' (by rw [decide_eq_true rfl]; rfl) ⟨ef2 ▸ (p9.same s10).less (by omega), _, _, _, _, _, _, _, rfl⟩⟩
          ·
            obtain ⟨q0, rfl, hq0⟩ : ∃ q0, u = .ref q0 ∧ H8 q0 = some (.tup [.int fi, .int fj]) := by rw [ef] at fr; exact fr
            have hq9 := s9 _ _ hq0
            have p9 := p8.same s9
            obtain ⟨b1, b2⟩ := fault_small hx0 ef
            refine ⟨_, _, rfl, ?_⟩
            refine ⟨fun σ H' => H' = H9 ∧ σ = [some (.ref a), some (.ref pn), v2, v3, v4, some v, v6, some (.ref q0), some (.ref q)], ?_, ?_⟩
            · refine ⟨_, rfl, _, rfl, iteT' rfl ⟨_, rfl, ?_⟩⟩
              unfold tNil
              dsimp only
              refine c_reprIJ b1 b2 hq ⟨_, rfl, ?_⟩
              dsimp only
              refine c_reprIJ b1 b2 hq9 ⟨rfl, _, rfl, ?_⟩
              exact iteF' (by rw [decide_eq_true rfl]; rfl) ⟨rfl, rfl⟩
            rintro σ H' ⟨rfl, rfl⟩
            refine ⟨fun σ H'' => H'' = H' ∧ σ = [some (.ref a), some (.ref pn), v2, v3, v4, some v, v6, some (.ref q0), some (.ref q)], ?_, ?_⟩
            · exact ⟨_, rfl, _, rfl, iteF' rfl (iteF ⟨rfl, rfl⟩)⟩
            rintro σ H'' ⟨rfl, rfl⟩
            exact ⟨_, rfl, _, rfl, iteF' rfl (iteF ⟨ef2 ▸ p9, _, _, _, _, _, _, _, rfl⟩)⟩
    · rintro σ H2 ⟨p2, v2, v3, v4, v5, v6, v7, v8, rfl⟩
      exact k H2
end
end NK

namespace NK
open PySem PySem.Spec PyProof.Rows L2 NA LamX
/-- what the law's row needs of the text -/
def LawG (l : PySem.W.OpenLaw) (w : World) (K : PySem.W.Frag) (mg : Str → Option Value) (fa : Addr) (h : Heap) : Prop :=
  ∃ (cs : List (Addr × Addr)) (sp : Sp), (∀ p ∈ cs, h.get? p.2 = some { cls := .none, data := .fields #[] }) ∧ (∀ p ∈ cs, K.lookup p.2 = none) ∧ (∀ p ∈ cs, PySem.W.codeHdIn K p.1 p.2 = true) ∧
    (∀ (H : Hp) (a : Addr) (ns : List Int), ns.length ≤ 63 → (∀ z ∈ ns, Builtin.Int.intBits z ≤ 1048576) → (∀ p ∈ cs, H p.2 = some (.tbl #[])) → SqL K H a (ns.map V.int) → sp [.ref a] H (fun v _ => v = .bl true) fun _ _ _ => False) ∧
    ∀ base : Heap, K.In base → base.Ns mainGlobals mg → (∀ p ∈ cs, LamX.TabB base mg p.1 p.2) → FnG l.prog w K mg base CX0 11 fa sp
theorem all_mk {l : PySem.W.OpenLaw} {w : World} {K : PySem.W.Frag} {mg : Str → Option Value} {fa : Addr} {h : Heap} {A : Ad} (hfa : mg "law" = some (.ref fa)) (T : Tx l.prog K mg A)
     : LawG l w K mg fa h := by
  have e : fa = A.f_law := by
    have := hfa.symm.trans T.mg_law
    injection this with h
    injection h
  subst e
  refine ⟨[], spLaw A K, fun p hp => ?_, fun p hp => ?_, fun p hp => ?_, fun H a ns hl hb hT hS => ?_, fun base hK hN hT => ?_⟩
  · exact (List.not_mem_nil hp).elim
  · exact (List.not_mem_nil hp).elim
  · exact (List.not_mem_nil hp).elim
  · exact ⟨a, ns, rfl, hS, hl, fun _ => rfl⟩
  · exact ok_law T 
theorem walk {l : PySem.W.OpenLaw} {q : Program} {loose : List Str} {XP : (Str → Option Value) → Heap → Prop} {YP : World → Heap → Prop} {d : DefRec} {K : Params → PySem.W.Frag} (hn : l.most = some 63) (hdf : d.params.defaults = [])
    (hY : ∀ (w : World) (h : Heap), YP w h → (K w.params).In h)
    (F : ∀ (w : World) (mg : Str → Option Value) (fa : Addr) (h : Heap), YP w h → (K w.params).In h → h.Ns mainGlobals mg → mg d.name = some (.ref fa) → LawG l w (K w.params) mg fa h) :
    PySem.W.WalkO q loose XP YP l.row.toRowW d [] (fun f vs => PySem.call f vs) :=
  walk_G (n := 63) (k := 11) hn (by decide) hdf ⟨rfl, by decide, by decide⟩ hY F
end NK
open PySem PySem.W PyProof.Rows in
set_option maxRecDepth 100000 in
set_option maxHeartbeats 0 in
theorem PySem.Challenge.cw_nearestsays_k94_table_texts_refused_holds : PySem.Challenge.rw_nearestsays_k94_table_texts_refused.Holds := by
  w_on; o_law; k_head; (case hw => w_witness2)
  k_fill
  refine NK.walk (l := PySem.Challenge.rw_nearestsays_k94_table_texts_refused) rfl rfl (fun w h Y => PySem.W.kIn_of Y) ?F
  case F =>
    intro w mg fa h Y KX G hmg
    refine' NK.all_mk hmg (NK.tx_mk KX G ?mg_Place ?pg_Place ?hd_Place ?po_Place ?sa_Place ?mk_Place ?kc_Place ?sf_Place ?ca_Place ?cn_Place ?ct_Place ?cm_Place ?ob_Place ?ne_Place ?rd_Place ?ga_Place ?np_Place ?ic_Place ?ty_Place ?most_Place ?ra_Place ?su_Place ?suNoneType_Place ?subool_Place ?suint_Place ?sulist_Place ?sutuple_Place ?sudict_Place ?sustr_Place ?mg_Table ?pg_Table ?hd_Table ?po_Table ?sa_Table ?mk_Table ?kc_Table ?sf_Table ?ca_Table ?cn_Table ?ct_Table ?cm_Table ?ob_Table ?ne_Table ?rd_Table ?ga_Table ?ncolumns_Table ?nrow_of_Table ?ic_Table ?ty_Table ?nq_Table ?most_Table ?suNoneType_Table ?subool_Table ?suint_Table ?sustr_Table ?sulist_Table ?sutuple_Table ?sudict_Table ?dnNoneType_Table ?dnbool_Table ?dnint_Table ?dnstr_Table ?dnlist_Table ?dntuple_Table ?dndict_Table ?widest_Table ?mg_Sheet ?pg_Sheet ?hd_Sheet ?po_Sheet ?sa_Sheet ?mk_Sheet ?kc_Sheet ?sf_Sheet ?ca_Sheet ?cn_Sheet ?ct_Sheet ?cm_Sheet ?ob_Sheet ?ne_Sheet ?rd_Sheet ?ga_Sheet ?nwide_Sheet ?nsides_Sheet ?nsplit_at_Sheet ?nstage_Sheet ?ic_Sheet ?ty_Sheet ?mg_TableError ?ga_TableError ?gg_TableError ?be_TableError ?hd_TableError ?ca_TableError ?ob_TableError ?ic_TableError ?ty_TableError ?mg_BadPlace ?ga_BadPlace ?gg_BadPlace ?be_BadPlace ?hd_BadPlace ?ca_BadPlace ?ob_BadPlace ?ic_BadPlace ?ty_BadPlace ?mg_BadCells ?ga_BadCells ?gg_BadCells ?be_BadCells ?hd_BadCells ?ca_BadCells ?ob_BadCells ?ic_BadCells ?ty_BadCells ?mg_TooMany ?ga_TooMany ?gg_TooMany ?be_TooMany ?hd_TooMany ?ca_TooMany ?ob_TooMany ?ic_TooMany ?ty_TooMany ?mg_BadText ?ga_BadText ?gg_BadText ?be_BadText ?hd_BadText ?ca_BadText ?ob_BadText ?ic_BadText ?ty_BadText ?xa_BadPlace_init ?xb_BadPlace_init ?xc_BadPlace_init ?xd_BadPlace_init ?xe_BadPlace_init ?xf_BadPlace_init ?xg_BadPlace_init ?xh_BadPlace_init ?xi_BadPlace_init ?xj_BadPlace_init ?xk_BadPlace_init ?xl_BadPlace_init ?xm_BadPlace_init ?xn_BadPlace_init ?xo_BadPlace_init ?xp_BadPlace_init ?xq_BadPlace_init ?xr_BadPlace_init ?xs_BadPlace_init ?xt_BadPlace_init ?xu_BadPlace_init ?xa_BadCells_init ?xb_BadCells_init ?xc_BadCells_init ?xd_BadCells_init ?xe_BadCells_init ?xf_BadCells_init ?xg_BadCells_init ?xh_BadCells_init ?xi_BadCells_init ?xj_BadCells_init ?xk_BadCells_init ?xl_BadCells_init ?xm_BadCells_init ?xn_BadCells_init ?xo_BadCells_init ?xp_BadCells_init ?xq_BadCells_init ?xr_BadCells_init ?xs_BadCells_init ?xt_BadCells_init ?xu_BadCells_init ?xa_TooMany_init ?xb_TooMany_init ?xc_TooMany_init ?xd_TooMany_init ?xe_TooMany_init ?xf_TooMany_init ?xg_TooMany_init ?xh_TooMany_init ?xi_TooMany_init ?xj_TooMany_init ?xk_TooMany_init ?xl_TooMany_init ?xm_TooMany_init ?xn_TooMany_init ?xo_TooMany_init ?xp_TooMany_init ?xq_TooMany_init ?xr_TooMany_init ?xs_TooMany_init ?xt_TooMany_init ?xu_TooMany_init ?xa_BadText_init ?xb_BadText_init ?xc_BadText_init ?xd_BadText_init ?xe_BadText_init ?xf_BadText_init ?xg_BadText_init ?xh_BadText_init ?xi_BadText_init ?xi2_BadText_init ?xj_BadText_init ?xk_BadText_init ?xl_BadText_init ?xm_BadText_init ?xn_BadText_init ?xo_BadText_init ?xp_BadText_init ?xq_BadText_init ?xr_BadText_init ?xs_BadText_init ?xt_BadText_init ?xu_BadText_init ?mg_is_name ?fn_is_name ?l_is_name ?cc_is_name ?kk_is_name ?kp_is_name ?mg_is_text ?fn_is_text ?l_is_text ?cc_is_text ?kk_is_text ?kp_is_text ?mg_names_in ?fn_names_in ?l_names_in ?cc_names_in ?kk_names_in ?kp_names_in ?mg_text_of ?fn_text_of ?l_text_of ?cc_text_of ?kk_text_of ?kp_text_of ?at_Place_init ?fn_Place_init ?l_Place_init ?cc_Place_init ?kk_Place_init ?kp_Place_init ?at_Place_read ?rc_Place_read ?fi_Place_read ?fn_Place_read ?l_Place_read ?cc_Place_read ?kk_Place_read ?kp_Place_read ?mg_parts_at ?fn_parts_at ?l_parts_at ?cc_parts_at ?kk_parts_at ?kp_parts_at ?mg_text_at ?fn_text_at ?l_text_at ?cc_text_at ?kk_text_at ?kp_text_at ?mg_need_columns ?fn_need_columns ?l_need_columns ?cc_need_columns ?kk_need_columns ?kp_need_columns ?mg_need_keys ?fn_need_keys ?l_need_keys ?cc_need_keys ?kk_need_keys ?kp_need_keys ?mg_is_cells ?fn_is_cells ?l_is_cells ?cc_is_cells ?kk_is_cells ?kp_is_cells ?mg_joined_rows ?fn_joined_rows ?l_joined_rows ?cc_joined_rows ?kk_joined_rows ?kp_joined_rows ?at_Table_init ?fn_Table_init ?l_Table_init ?cc_Table_init ?kk_Table_init ?lT_Table_init ?kp_Table_init ?at_Table_places ?ge_Table_places ?tk_Table_places ?rc_Table_places ?fn_Table_places ?l_Table_places ?cc_Table_places ?kk_Table_places ?kp_Table_places ?at_Table_getitem ?fn_Table_getitem ?l_Table_getitem ?cc_Table_getitem ?kk_Table_getitem ?fi_Table_getitem ?kp_Table_getitem ?at_Table_setitem ?fn_Table_setitem ?l_Table_setitem ?cc_Table_setitem ?kk_Table_setitem ?kp_Table_setitem ?at_Table_contains ?fn_Table_contains ?l_Table_contains ?cc_Table_contains ?kk_Table_contains ?kp_Table_contains ?at_Table_len ?fn_Table_len ?l_Table_len ?cc_Table_len ?kk_Table_len ?kp_Table_len ?at_Table_bool ?fn_Table_bool ?l_Table_bool ?cc_Table_bool ?kk_Table_bool ?kp_Table_bool ?at_Table_cells ?fn_Table_cells ?l_Table_cells ?cc_Table_cells ?kk_Table_cells ?kp_Table_cells ?at_Table_eq ?fn_Table_eq ?l_Table_eq ?cc_Table_eq ?kk_Table_eq ?kp_Table_eq ?mg_row_text ?fn_row_text ?l_row_text ?cc_row_text ?kk_row_text ?kp_row_text ?mg_show_table ?fn_show_table ?l_show_table ?cc_show_table ?kk_show_table ?kp_show_table ?mg_need ?fn_need ?l_need ?cc_need ?kk_need ?kp_need ?mg_words_of ?fn_words_of ?l_words_of ?cc_words_of ?kk_words_of ?kp_words_of ?mg_columns_in ?fn_columns_in ?l_columns_in ?cc_columns_in ?kk_columns_in ?kp_columns_in ?mg_cells_in ?fn_cells_in ?l_cells_in ?cc_cells_in ?kk_cells_in ?kp_cells_in ?at_Sheet_init ?fn_Sheet_init ?l_Sheet_init ?cc_Sheet_init ?kk_Sheet_init ?kp_Sheet_init ?at_Sheet_is_room ?fn_Sheet_is_room ?l_Sheet_is_room ?cc_Sheet_is_room ?kk_Sheet_is_room ?kp_Sheet_is_room ?at_Sheet_add_row ?fn_Sheet_add_row ?l_Sheet_add_row ?cc_Sheet_add_row ?kk_Sheet_add_row ?kp_Sheet_add_row ?at_Sheet_table_on ?fn_Sheet_table_on ?l_Sheet_table_on ?cc_Sheet_table_on ?kk_Sheet_table_on ?kp_Sheet_table_on ?mg_read_table ?fn_read_table ?l_read_table ?cc_read_table ?kk_read_table ?kp_read_table ?mg_law_pen ?fn_law_pen ?l_law_pen ?cc_law_pen ?kk_law_pen ?kp_law_pen ?mg_law_draw ?fn_law_draw ?l_law_draw ?cc_law_draw ?kk_law_draw ?kp_law_draw ?mg_law_pick ?fn_law_pick ?l_law_pick ?cc_law_pick ?kk_law_pick ?kp_law_pick ?mg_law_below ?fn_law_below ?l_law_below ?cc_law_below ?kk_law_below ?kp_law_below ?mg_law_names ?fn_law_names ?l_law_names ?cc_law_names ?kk_law_names ?kp_law_names ?mg_law_places ?fn_law_places ?l_law_places ?cc_law_places ?kk_law_places ?kp_law_places ?mg_law_drawn ?fn_law_drawn ?l_law_drawn ?cc_law_drawn ?kk_law_drawn ?kp_law_drawn ?mg_law_line ?fn_law_line ?l_law_line ?cc_law_line ?kk_law_line ?kp_law_line ?mg_law_text ?fn_law_text ?l_law_text ?cc_law_text ?kk_law_text ?kp_law_text ?mg_law_is_name ?fn_law_is_name ?l_law_is_name ?cc_law_is_name ?kk_law_is_name ?kp_law_is_name ?mg_law_is_place ?fn_law_is_place ?l_law_is_place ?cc_law_is_place ?kk_law_is_place ?kp_law_is_place ?mg_law_row_fault ?fn_law_row_fault ?l_law_row_fault ?cc_law_row_fault ?kk_law_row_fault ?kp_law_row_fault ?mg_law_head_fault ?fn_law_head_fault ?l_law_head_fault ?cc_law_head_fault ?kk_law_head_fault ?kp_law_head_fault ?mg_law_bent ?fn_law_bent ?l_law_bent ?cc_law_bent ?kk_law_bent ?kp_law_bent ?mg_law_fault ?fn_law_fault ?l_law_fault ?cc_law_fault ?kk_law_fault ?kp_law_fault ?mg_law_heard ?fn_law_heard ?l_law_heard ?cc_law_heard ?kk_law_heard ?kp_law_heard ?mg_law_many ?fn_law_many ?l_law_many ?cc_law_many ?kk_law_many ?kp_law_many ?mg_law ?fn_law ?l_law ?cc_law ?kk_law ?kp_law ?k_SIGNS ?k_LONGEST_NAME ?k_MOST_NAMES ?k_MOST_ROWS ?k_MOST_COLUMNS ?z_abs ?z_all ?z_bool ?z_dict ?z_enumerate ?z_int ?z_isinstance ?z_len ?z_list ?z_range ?z_repr ?z_sorted ?z_str ?z_super ?z_tuple ?tb_BadPlace ?tb_BadCells ?tb_TooMany ?tb_BadText ?nv_BadPlace ?nv_BadCells ?nv_TooMany ?nvl_BadText ?nvw_BadText ?xBadPlace_BadCells ?xBadPlace_TooMany ?xBadPlace_BadText ?xBadCells_BadPlace ?xBadCells_TooMany ?xBadCells_BadText ?xTooMany_BadPlace ?xTooMany_BadCells ?xTooMany_BadText ?xBadText_BadPlace ?xBadText_BadCells ?xBadText_TooMany ?nn_BadPlace_BadCells ?nn_BadPlace_TooMany ?nn_BadPlace_BadText ?nn_BadCells_TooMany ?nn_BadCells_BadText ?nn_TooMany_BadText ?sub_Place_Table ?sub_Table_Place ?nn_Place_Table)
    (case mg_Place => k_is)
    (case pg_Place => k_is)
    (case hd_Place => k_is)
    (case po_Place => k_is)
    (case sa_Place => k_is)
    (case mk_Place => k_is)
    (case kc_Place => k_is)
    (case sf_Place => k_is)
    (case ca_Place => k_is)
    (case cn_Place => k_is)
    (case ct_Place => k_is)
    (case cm_Place => k_is)
    (case ob_Place => k_is)
    (case ne_Place => k_is)
    (case rd_Place => k_is)
    (case ga_Place => k_is)
    (case np_Place => k_is)
    (case ic_Place => k_is)
    (case ty_Place => k_is)
    (case most_Place => k_is)
    (case ra_Place => k_is)
    (case su_Place => k_is)
    (case suNoneType_Place => k_is)
    (case subool_Place => k_is)
    (case suint_Place => k_is)
    (case sulist_Place => k_is)
    (case sutuple_Place => k_is)
    (case sudict_Place => k_is)
    (case sustr_Place => k_is)
    (case mg_Table => k_is)
    (case pg_Table => k_is)
    (case hd_Table => k_is)
    (case po_Table => k_is)
    (case sa_Table => k_is)
    (case mk_Table => k_is)
    (case kc_Table => k_is)
    (case sf_Table => k_is)
    (case ca_Table => k_is)
    (case cn_Table => k_is)
    (case ct_Table => k_is)
    (case cm_Table => k_is)
    (case ob_Table => k_is)
    (case ne_Table => k_is)
    (case rd_Table => k_is)
    (case ga_Table => k_is)
    (case ncolumns_Table => k_is)
    (case nrow_of_Table => k_is)
    (case ic_Table => k_is)
    (case ty_Table => k_is)
    (case nq_Table => k_is)
    (case most_Table => k_is)
    (case suNoneType_Table => k_is)
    (case subool_Table => k_is)
    (case suint_Table => k_is)
    (case sustr_Table => k_is)
    (case sulist_Table => k_is)
    (case sutuple_Table => k_is)
    (case sudict_Table => k_is)
    (case dnNoneType_Table => k_is)
    (case dnbool_Table => k_is)
    (case dnint_Table => k_is)
    (case dnstr_Table => k_is)
    (case dnlist_Table => k_is)
    (case dntuple_Table => k_is)
    (case dndict_Table => k_is)
    (case widest_Table => k_is)
    (case mg_Sheet => k_is)
    (case pg_Sheet => k_is)
    (case hd_Sheet => k_is)
    (case po_Sheet => k_is)
    (case sa_Sheet => k_is)
    (case mk_Sheet => k_is)
    (case kc_Sheet => k_is)
    (case sf_Sheet => k_is)
    (case ca_Sheet => k_is)
    (case cn_Sheet => k_is)
    (case ct_Sheet => k_is)
    (case cm_Sheet => k_is)
    (case ob_Sheet => k_is)
    (case ne_Sheet => k_is)
    (case rd_Sheet => k_is)
    (case ga_Sheet => k_is)
    (case nwide_Sheet => k_is)
    (case nsides_Sheet => k_is)
    (case nsplit_at_Sheet => k_is)
    (case nstage_Sheet => k_is)
    (case ic_Sheet => k_is)
    (case ty_Sheet => k_is)
    (case mg_TableError => k_is)
    (case ga_TableError => k_is)
    (case gg_TableError => k_is)
    (case be_TableError => k_is)
    (case hd_TableError => k_is)
    (case ca_TableError => k_is)
    (case ob_TableError => k_is)
    (case ic_TableError => k_is)
    (case ty_TableError => k_is)
    (case mg_BadPlace => k_is)
    (case ga_BadPlace => k_is)
    (case gg_BadPlace => k_is)
    (case be_BadPlace => k_is)
    (case hd_BadPlace => k_is)
    (case ca_BadPlace => k_is)
    (case ob_BadPlace => k_is)
    (case ic_BadPlace => k_is)
    (case ty_BadPlace => k_is)
    (case mg_BadCells => k_is)
    (case ga_BadCells => k_is)
    (case gg_BadCells => k_is)
    (case be_BadCells => k_is)
    (case hd_BadCells => k_is)
    (case ca_BadCells => k_is)
    (case ob_BadCells => k_is)
    (case ic_BadCells => k_is)
    (case ty_BadCells => k_is)
    (case mg_TooMany => k_is)
    (case ga_TooMany => k_is)
    (case gg_TooMany => k_is)
    (case be_TooMany => k_is)
    (case hd_TooMany => k_is)
    (case ca_TooMany => k_is)
    (case ob_TooMany => k_is)
    (case ic_TooMany => k_is)
    (case ty_TooMany => k_is)
    (case mg_BadText => k_is)
    (case ga_BadText => k_is)
    (case gg_BadText => k_is)
    (case be_BadText => k_is)
    (case hd_BadText => k_is)
    (case ca_BadText => k_is)
    (case ob_BadText => k_is)
    (case ic_BadText => k_is)
    (case ty_BadText => k_is)
    (case xa_BadPlace_init => k_is)
    (case xb_BadPlace_init => rfl)
    (case xc_BadPlace_init => k_is)
    (case xd_BadPlace_init => k_is)
    (case xe_BadPlace_init => k_is)
    (case xf_BadPlace_init => k_is)
    (case xg_BadPlace_init => k_is)
    (case xh_BadPlace_init => k_is)
    (case xi_BadPlace_init => k_is)
    (case xj_BadPlace_init => k_is)
    (case xk_BadPlace_init => ks_is)
    (case xl_BadPlace_init => k_is)
    (case xm_BadPlace_init => k_is)
    (case xn_BadPlace_init => k_is)
    (case xo_BadPlace_init => first | rfl | decide +kernel)
    (case xp_BadPlace_init => k_is)
    (case xq_BadPlace_init => k_is)
    (case xr_BadPlace_init => k_is)
    (case xs_BadPlace_init => k_is)
    (case xt_BadPlace_init => rfl)
    (case xu_BadPlace_init => first | rfl | decide +kernel)
    (case xa_BadCells_init => k_is)
    (case xb_BadCells_init => rfl)
    (case xc_BadCells_init => k_is)
    (case xd_BadCells_init => k_is)
    (case xe_BadCells_init => k_is)
    (case xf_BadCells_init => k_is)
    (case xg_BadCells_init => k_is)
    (case xh_BadCells_init => k_is)
    (case xi_BadCells_init => k_is)
    (case xj_BadCells_init => k_is)
    (case xk_BadCells_init => ks_is)
    (case xl_BadCells_init => k_is)
    (case xm_BadCells_init => k_is)
    (case xn_BadCells_init => k_is)
    (case xo_BadCells_init => first | rfl | decide +kernel)
    (case xp_BadCells_init => k_is)
    (case xq_BadCells_init => k_is)
    (case xr_BadCells_init => k_is)
    (case xs_BadCells_init => k_is)
    (case xt_BadCells_init => rfl)
    (case xu_BadCells_init => first | rfl | decide +kernel)
    (case xa_TooMany_init => k_is)
    (case xb_TooMany_init => rfl)
    (case xc_TooMany_init => k_is)
    (case xd_TooMany_init => k_is)
    (case xe_TooMany_init => k_is)
    (case xf_TooMany_init => k_is)
    (case xg_TooMany_init => k_is)
    (case xh_TooMany_init => k_is)
    (case xi_TooMany_init => k_is)
    (case xj_TooMany_init => k_is)
    (case xk_TooMany_init => ks_is)
    (case xl_TooMany_init => k_is)
    (case xm_TooMany_init => k_is)
    (case xn_TooMany_init => k_is)
    (case xo_TooMany_init => first | rfl | decide +kernel)
    (case xp_TooMany_init => k_is)
    (case xq_TooMany_init => k_is)
    (case xr_TooMany_init => k_is)
    (case xs_TooMany_init => k_is)
    (case xt_TooMany_init => rfl)
    (case xu_TooMany_init => first | rfl | decide +kernel)
    (case xa_BadText_init => k_is)
    (case xb_BadText_init => rfl)
    (case xc_BadText_init => k_is)
    (case xd_BadText_init => k_is)
    (case xe_BadText_init => k_is)
    (case xf_BadText_init => k_is)
    (case xg_BadText_init => k_is)
    (case xh_BadText_init => k_is)
    (case xi_BadText_init => k_is)
    (case xi2_BadText_init => k_is)
    (case xj_BadText_init => k_is)
    (case xk_BadText_init => ks_is)
    (case xl_BadText_init => k_is)
    (case xm_BadText_init => k_is)
    (case xn_BadText_init => k_is)
    (case xo_BadText_init => first | rfl | decide +kernel)
    (case xp_BadText_init => k_is)
    (case xq_BadText_init => k_is)
    (case xr_BadText_init => k_is)
    (case xs_BadText_init => k_is)
    (case xt_BadText_init => rfl)
    (case xu_BadText_init => first | rfl | decide +kernel)
    (case mg_is_name => k_is)
    (case fn_is_name => k_is)
    (case l_is_name => k_is)
    (case cc_is_name => k_is)
    (case kk_is_name => k_is)
    (case kp_is_name => k_is)
    (case mg_is_text => k_is)
    (case fn_is_text => k_is)
    (case l_is_text => k_is)
    (case cc_is_text => k_is)
    (case kk_is_text => k_is)
    (case kp_is_text => k_is)
    (case mg_names_in => k_is)
    (case fn_names_in => k_is)
    (case l_names_in => k_is)
    (case cc_names_in => k_is)
    (case kk_names_in => k_is)
    (case kp_names_in => k_is)
    (case mg_text_of => k_is)
    (case fn_text_of => k_is)
    (case l_text_of => k_is)
    (case cc_text_of => k_is)
    (case kk_text_of => k_is)
    (case kp_text_of => k_is)
    (case at_Place_init => k_is)
    (case fn_Place_init => k_is)
    (case l_Place_init => k_is)
    (case cc_Place_init => k_is)
    (case kk_Place_init => k_is)
    (case kp_Place_init => k_is)
    (case at_Place_read => k_is)
    (case rc_Place_read => k_is)
    (case fi_Place_read => k_is)
    (case fn_Place_read => k_is)
    (case l_Place_read => k_is)
    (case cc_Place_read => k_is)
    (case kk_Place_read => k_is)
    (case kp_Place_read => k_is)
    (case mg_parts_at => k_is)
    (case fn_parts_at => k_is)
    (case l_parts_at => k_is)
    (case cc_parts_at => k_is)
    (case kk_parts_at => k_is)
    (case kp_parts_at => k_is)
    (case mg_text_at => k_is)
    (case fn_text_at => k_is)
    (case l_text_at => k_is)
    (case cc_text_at => k_is)
    (case kk_text_at => k_is)
    (case kp_text_at => k_is)
    (case mg_need_columns => k_is)
    (case fn_need_columns => k_is)
    (case l_need_columns => k_is)
    (case cc_need_columns => k_is)
    (case kk_need_columns => k_is)
    (case kp_need_columns => k_is)
    (case mg_need_keys => k_is)
    (case fn_need_keys => k_is)
    (case l_need_keys => k_is)
    (case cc_need_keys => k_is)
    (case kk_need_keys => k_is)
    (case kp_need_keys => k_is)
    (case mg_is_cells => k_is)
    (case fn_is_cells => k_is)
    (case l_is_cells => k_is)
    (case cc_is_cells => k_is)
    (case kk_is_cells => k_is)
    (case kp_is_cells => k_is)
    (case mg_joined_rows => k_is)
    (case fn_joined_rows => k_is)
    (case l_joined_rows => k_is)
    (case cc_joined_rows => k_is)
    (case kk_joined_rows => k_is)
    (case kp_joined_rows => k_is)
    (case at_Table_init => k_is)
    (case fn_Table_init => k_is)
    (case l_Table_init => k_is)
    (case cc_Table_init => k_is)
    (case kk_Table_init => k_is)
    (case lT_Table_init => k_is)
    (case kp_Table_init => k_is)
    (case at_Table_places => k_is)
    (case ge_Table_places => k_is)
    (case tk_Table_places => k_is)
    (case rc_Table_places => k_is)
    (case fn_Table_places => k_is)
    (case l_Table_places => k_is)
    (case cc_Table_places => k_is)
    (case kk_Table_places => k_is)
    (case kp_Table_places => k_is)
    (case at_Table_getitem => k_is)
    (case fn_Table_getitem => k_is)
    (case l_Table_getitem => k_is)
    (case cc_Table_getitem => k_is)
    (case kk_Table_getitem => k_is)
    (case fi_Table_getitem => k_is)
    (case kp_Table_getitem => k_is)
    (case at_Table_setitem => k_is)
    (case fn_Table_setitem => k_is)
    (case l_Table_setitem => k_is)
    (case cc_Table_setitem => k_is)
    (case kk_Table_setitem => k_is)
    (case kp_Table_setitem => k_is)
    (case at_Table_contains => k_is)
    (case fn_Table_contains => k_is)
    (case l_Table_contains => k_is)
    (case cc_Table_contains => k_is)
    (case kk_Table_contains => k_is)
    (case kp_Table_contains => k_is)
    (case at_Table_len => k_is)
    (case fn_Table_len => k_is)
    (case l_Table_len => k_is)
    (case cc_Table_len => k_is)
    (case kk_Table_len => k_is)
    (case kp_Table_len => k_is)
    (case at_Table_bool => k_is)
    (case fn_Table_bool => k_is)
    (case l_Table_bool => k_is)
    (case cc_Table_bool => k_is)
    (case kk_Table_bool => k_is)
    (case kp_Table_bool => k_is)
    (case at_Table_cells => k_is)
    (case fn_Table_cells => k_is)
    (case l_Table_cells => k_is)
    (case cc_Table_cells => k_is)
    (case kk_Table_cells => k_is)
    (case kp_Table_cells => k_is)
    (case at_Table_eq => k_is)
    (case fn_Table_eq => k_is)
    (case l_Table_eq => k_is)
    (case cc_Table_eq => k_is)
    (case kk_Table_eq => k_is)
    (case kp_Table_eq => k_is)
    (case mg_row_text => k_is)
    (case fn_row_text => k_is)
    (case l_row_text => k_is)
    (case cc_row_text => k_is)
    (case kk_row_text => k_is)
    (case kp_row_text => k_is)
    (case mg_show_table => k_is)
    (case fn_show_table => k_is)
    (case l_show_table => k_is)
    (case cc_show_table => k_is)
    (case kk_show_table => k_is)
    (case kp_show_table => k_is)
    (case mg_need => k_is)
    (case fn_need => k_is)
    (case l_need => k_is)
    (case cc_need => k_is)
    (case kk_need => k_is)
    (case kp_need => k_is)
    (case mg_words_of => k_is)
    (case fn_words_of => k_is)
    (case l_words_of => k_is)
    (case cc_words_of => k_is)
    (case kk_words_of => k_is)
    (case kp_words_of => k_is)
    (case mg_columns_in => k_is)
    (case fn_columns_in => k_is)
    (case l_columns_in => k_is)
    (case cc_columns_in => k_is)
    (case kk_columns_in => k_is)
    (case kp_columns_in => k_is)
    (case mg_cells_in => k_is)
    (case fn_cells_in => k_is)
    (case l_cells_in => k_is)
    (case cc_cells_in => k_is)
    (case kk_cells_in => k_is)
    (case kp_cells_in => k_is)
    (case at_Sheet_init => k_is)
    (case fn_Sheet_init => k_is)
    (case l_Sheet_init => k_is)
    (case cc_Sheet_init => k_is)
    (case kk_Sheet_init => k_is)
    (case kp_Sheet_init => k_is)
    (case at_Sheet_is_room => k_is)
    (case fn_Sheet_is_room => k_is)
    (case l_Sheet_is_room => k_is)
    (case cc_Sheet_is_room => k_is)
    (case kk_Sheet_is_room => k_is)
    (case kp_Sheet_is_room => k_is)
    (case at_Sheet_add_row => k_is)
    (case fn_Sheet_add_row => k_is)
    (case l_Sheet_add_row => k_is)
    (case cc_Sheet_add_row => k_is)
    (case kk_Sheet_add_row => k_is)
    (case kp_Sheet_add_row => k_is)
    (case at_Sheet_table_on => k_is)
    (case fn_Sheet_table_on => k_is)
    (case l_Sheet_table_on => k_is)
    (case cc_Sheet_table_on => k_is)
    (case kk_Sheet_table_on => k_is)
    (case kp_Sheet_table_on => k_is)
    (case mg_read_table => k_is)
    (case fn_read_table => k_is)
    (case l_read_table => k_is)
    (case cc_read_table => k_is)
    (case kk_read_table => k_is)
    (case kp_read_table => k_is)
    (case mg_law_pen => k_is)
    (case fn_law_pen => k_is)
    (case l_law_pen => k_is)
    (case cc_law_pen => k_is)
    (case kk_law_pen => k_is)
    (case kp_law_pen => k_is)
    (case mg_law_draw => k_is)
    (case fn_law_draw => k_is)
    (case l_law_draw => k_is)
    (case cc_law_draw => k_is)
    (case kk_law_draw => k_is)
    (case kp_law_draw => k_is)
    (case mg_law_pick => k_is)
    (case fn_law_pick => k_is)
    (case l_law_pick => k_is)
    (case cc_law_pick => k_is)
    (case kk_law_pick => k_is)
    (case kp_law_pick => k_is)
    (case mg_law_below => k_is)
    (case fn_law_below => k_is)
    (case l_law_below => k_is)
    (case cc_law_below => k_is)
    (case kk_law_below => k_is)
    (case kp_law_below => k_is)
    (case mg_law_names => k_is)
    (case fn_law_names => k_is)
    (case l_law_names => k_is)
    (case cc_law_names => k_is)
    (case kk_law_names => k_is)
    (case kp_law_names => k_is)
    (case mg_law_places => k_is)
    (case fn_law_places => k_is)
    (case l_law_places => k_is)
    (case cc_law_places => k_is)
    (case kk_law_places => k_is)
    (case kp_law_places => k_is)
    (case mg_law_drawn => k_is)
    (case fn_law_drawn => k_is)
    (case l_law_drawn => k_is)
    (case cc_law_drawn => k_is)
    (case kk_law_drawn => k_is)
    (case kp_law_drawn => k_is)
    (case mg_law_line => k_is)
    (case fn_law_line => k_is)
    (case l_law_line => k_is)
    (case cc_law_line => k_is)
    (case kk_law_line => k_is)
    (case kp_law_line => k_is)
    (case mg_law_text => k_is)
    (case fn_law_text => k_is)
    (case l_law_text => k_is)
    (case cc_law_text => k_is)
    (case kk_law_text => k_is)
    (case kp_law_text => k_is)
    (case mg_law_is_name => k_is)
    (case fn_law_is_name => k_is)
    (case l_law_is_name => k_is)
    (case cc_law_is_name => k_is)
    (case kk_law_is_name => k_is)
    (case kp_law_is_name => k_is)
    (case mg_law_is_place => k_is)
    (case fn_law_is_place => k_is)
    (case l_law_is_place => k_is)
    (case cc_law_is_place => k_is)
    (case kk_law_is_place => k_is)
    (case kp_law_is_place => k_is)
    (case mg_law_row_fault => k_is)
    (case fn_law_row_fault => k_is)
    (case l_law_row_fault => k_is)
    (case cc_law_row_fault => k_is)
    (case kk_law_row_fault => k_is)
    (case kp_law_row_fault => k_is)
    (case mg_law_head_fault => k_is)
    (case fn_law_head_fault => k_is)
    (case l_law_head_fault => k_is)
    (case cc_law_head_fault => k_is)
    (case kk_law_head_fault => k_is)
    (case kp_law_head_fault => k_is)
    (case mg_law_bent => k_is)
    (case fn_law_bent => k_is)
    (case l_law_bent => k_is)
    (case cc_law_bent => k_is)
    (case kk_law_bent => k_is)
    (case kp_law_bent => k_is)
    (case mg_law_fault => k_is)
    (case fn_law_fault => k_is)
    (case l_law_fault => k_is)
    (case cc_law_fault => k_is)
    (case kk_law_fault => k_is)
    (case kp_law_fault => k_is)
    (case mg_law_heard => k_is)
    (case fn_law_heard => k_is)
    (case l_law_heard => k_is)
    (case cc_law_heard => k_is)
    (case kk_law_heard => k_is)
    (case kp_law_heard => k_is)
    (case mg_law_many => k_is)
    (case fn_law_many => k_is)
    (case l_law_many => k_is)
    (case cc_law_many => k_is)
    (case kk_law_many => k_is)
    (case kp_law_many => k_is)
    (case mg_law => k_is)
    (case fn_law => k_is)
    (case l_law => k_is)
    (case cc_law => k_is)
    (case kk_law => k_is)
    (case kp_law => k_is)
    (case k_SIGNS => k_is)
    (case k_LONGEST_NAME => k_is)
    (case k_MOST_NAMES => k_is)
    (case k_MOST_ROWS => k_is)
    (case k_MOST_COLUMNS => k_is)
    (case z_abs => k_is)
    (case z_all => k_is)
    (case z_bool => k_is)
    (case z_dict => k_is)
    (case z_enumerate => k_is)
    (case z_int => k_is)
    (case z_isinstance => k_is)
    (case z_len => k_is)
    (case z_list => k_is)
    (case z_range => k_is)
    (case z_repr => k_is)
    (case z_sorted => k_is)
    (case z_str => k_is)
    (case z_super => k_is)
    (case z_tuple => k_is)
    (case tb_BadPlace => k_is)
    (case tb_BadCells => k_is)
    (case tb_TooMany => k_is)
    (case tb_BadText => k_is)
    (case nv_BadPlace => k_is)
    (case nv_BadCells => k_is)
    (case nv_TooMany => k_is)
    (case nvl_BadText => k_is)
    (case nvw_BadText => k_is)
    (case xBadPlace_BadCells => k_is)
    (case xBadPlace_TooMany => k_is)
    (case xBadPlace_BadText => k_is)
    (case xBadCells_BadPlace => k_is)
    (case xBadCells_TooMany => k_is)
    (case xBadCells_BadText => k_is)
    (case xTooMany_BadPlace => k_is)
    (case xTooMany_BadCells => k_is)
    (case xTooMany_BadText => k_is)
    (case xBadText_BadPlace => k_is)
    (case xBadText_BadCells => k_is)
    (case xBadText_TooMany => k_is)
    (case nn_BadPlace_BadCells => decide)
    (case nn_BadPlace_TooMany => decide)
    (case nn_BadPlace_BadText => decide)
    (case nn_BadCells_TooMany => decide)
    (case nn_BadCells_BadText => decide)
    (case nn_TooMany_BadText => decide)
    (case sub_Place_Table => k_is)
    (case sub_Table_Place => k_is)
    (case nn_Place_Table => decide)

