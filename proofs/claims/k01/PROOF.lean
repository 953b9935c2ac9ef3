import PyProof.Rows.All
import Wide.All
import OpenK.AllK
import Wide.FinOn
import HandS.ForMost
import HandS.More
import HandS.IsInst
import HandS.ClsMeth
import HandS.FStr
import KE.KCallOwn
import KE.KFmtOwn
import HandS.TupAny
import HandS.SetFor
import HandS.Conv
import HandS.Defaults
import HandS.MakeKwOnly
import HandS.Strs
import HandS.SortInts
import HandS.Star
import HandS.SortKw
import KE.KStar
import KE.KOpsOwn
import HandS.Comp
import HandS.Walk
import HandS.Style
import PySem.Challenge.RW_linkedfilters_k01_choices_hold
set_option Elab.async false
set_option linter.all false
set_option maxRecDepth 100000
set_option maxHeartbeats 4000000
/-! Rules of our own: ==, != and str by own methods of a plain class, a class called from a slot. -/
namespace Lf
open PySem PySem.Spec PyProof.Rows L2

section
variable {prog : Program} {w : World} {A : Around} {E : Value → Shared → Prop} {s : Shared} {K : PySem.W.Frag} {x C f : Addr} {ox : Obj} {od : Option Obj} {b tb : Value}
theorem ifBound_objNe {M : Model} {args : List Value} {Q : Option Value → Shared → Prop} (X : K.In s.heap) (I : PySem.W.InstAt s.heap x ox C od)
    (hs : PySem.W.findIn K (.ref C) "__ne__" = some (some (.builtin "object.__ne__")))
    (h : wpAny M A (call (.builtin "object.__ne__") (.ref x :: args)) (fun v => Q (some v)) E s) : wpAny M A (callSpecialIfBound? (.ref x) "__ne__" args) Q E s := by
  simp only [callSpecialIfBound?, bindSpecialIfBound?]
  refine wpAny_holding (wpAny_bind (wpAny_bind (wpAny_bind (I.type.here ((PySem.W.looks_findIn X hs).here ?_)))))
  refine wpAny_bind (wpAny_askSetting (wpAny_ite ?_))
  have fin : wpAny M A (call (.builtin "object.__ne__") ([.ref x] ++ args) >>= fun v => pure (some v)) Q E s :=
    wpAny_bind (wpAny_mono h (fun v s' h' => wpAny_pure h') fun _ _ h' => h')
  split
  · exact wpAny_bind (wpAny_of_eq (F.cmp_object.ne.bind _) (wpAny_pure (by exact fin)))
  · exact wpAny_tryCatch (wpAny_bind (wpAny_of_eq (F.cmp_object.ne.bind _) (wpAny_pure (by exact fin))))
theorem call_objNe {Q : Value → Shared → Prop} (hu : A.in1.units < cLine) (X : K.In s.heap) (I : PySem.W.InstAt s.heap x ox C od) (hm : PySem.W.mroIn K C (.type "object") = some true)
    (hs : PySem.W.findIn K (.ref C) "__eq__" = some (some (.ref f))) (hf : PySem.W.isFn K (.ref f) = true)
    (h : wpAny (model prog w) A.in1 (call (.ref f) [.ref x, b]) (fun v s' => ∃ k, v = .bool k ∧ Q (.bool (!k)) s') E s) :
    wpAny (model prog w) A (call (.builtin "object.__ne__") [.ref x, b]) Q E s := by
  refine wpAny_call (codeAny_call_builtin F.cmp_object.ne.plain F.cmpEntry_ne (PySem.W.check_slot F.cmpKind_ne F.cmpSplit_ne (I.type.andThen (PySem.W.looks_mroIn X hm)) (F.cmpArgs_ne _ _) ?_))
  unfold Builtin.«object.__ne__»
  refine wpAny_bind (m := slotArgs "__ne__" 1 _) (wpAny_pure ?_)
  refine wpAny_bind (m := cRoomFor _ _) (wpAny_cRoomFor hu ?_)
  refine wpAny_bind (m := callSpecialIfBound? (.ref x) (Str.ofString "__eq__") _) (PySem.W.ifBound_K X I hs hf (wpAny_mono h (fun r s' hq => ?_) fun _ _ y => y))
  obtain ⟨k, rfl, hq⟩ := hq
  exact wpAny_bind (wpAny_truthy_bool (wpAny_pure hq))
/-- x != b by an own __eq__ that answers a bool -/
theorem cmp_ne_K {Q : Value → Shared → Prop} (hu : A.units < cLine) (hu1 : A.in1.units < cLine) (X : K.In s.heap) (I : PySem.W.InstAt s.heap x ox C od)
    (hb : PySem.W.Looks (model prog w) s.heap (typeOf b) tb) (hn : PySem.W.notFirst K C tb = true) (hm : PySem.W.mroIn K C (.type "object") = some true)
    (hne : PySem.W.findIn K (.ref C) "__ne__" = some (some (.builtin "object.__ne__"))) (hs : PySem.W.findIn K (.ref C) "__eq__" = some (some (.ref f))) (hf : PySem.W.isFn K (.ref f) = true)
    (h : wpAny (model prog w) A.in1 (call (.ref f) [.ref x, b]) (fun v s' => ∃ k, v = .bool k ∧ Q (.bool (!k)) s') E s) :
    wpAny (model prog w) A (richCompare .NotEq (.ref x) b) Q E s := by
  have one : wpAny (model prog w) A (tryCompare (.ref x) "__ne__" b) (fun r s' => ∃ v, r = some v ∧ Q v s') E s := by
    unfold tryCompare
    refine wpAny_bind (ifBound_objNe X I hne (call_objNe hu1 X I hm hs hf (wpAny_mono h (fun v s' hv => ?_) fun _ _ e => e)))
    obtain ⟨k, rfl, hq⟩ := hv
    exact ⟨k, rfl, wpAny_pure ⟨_, rfl, hq⟩⟩
  unfold richCompare
  simp only [oneThing_ref]
  refine wpAny_holding (wpAny_bind (wpAny_cRoomFor hu ?_))
  refine wpAny_bind (I.type.here (wpAny_bind (hb.here ?_)))
  split
  · rename_i q
    have e : PySem.W.subIn K tb (.ref C) = some false := by
      rcases Bool.or_eq_true_iff.mp hn with e | e
      · rw [beq_iff_eq.mp e] at q; simp at q
      · exact beq_iff_eq.mp e
    refine wpAny_bind ((PySem.W.looks_subIn X e).here ?_)
    simp only [Bool.false_eq_true, if_false]
    refine wpAny_bind (wpAny_mono one (fun r s' z => ?_) fun _ _ e => e)
    obtain ⟨v, rfl, hq⟩ := z
    exact wpAny_pure hq
  · refine wpAny_bind (wpAny_pure ?_)
    simp only [Bool.false_eq_true, if_false]
    refine wpAny_bind (wpAny_mono one (fun r s' z => ?_) fun _ _ e => e)
    obtain ⟨v, rfl, hq⟩ := z
    exact wpAny_pure hq
end

theorem cmpback {P : Value → Shared → Prop} {z : V} {v : Value} {s' : Shared} (r : RelV z v) (h : P v s') : PySem.W.CmpBack P v s' := by
  cases z with
  | non => cases (show v = Value.none from r); exact h
  | bl b => cases (show v = Value.bool b from r); exact h
  | int i => obtain ⟨t, e⟩ := (show ∃ t, v = Value.int i t from r); cases e; exact h
  | str x => obtain ⟨t, e⟩ := (show ∃ t, v = Value.str x t from r); cases e; exact h
  | byt b => obtain ⟨t, e⟩ := (show ∃ t, v = Value.bytes b t from r); cases e; exact h
  | flt b => obtain ⟨t, e⟩ := (show ∃ t, v = Value.float b t from r); cases e; exact h
  | ref a => cases (show v = Value.ref a from r); exact h
  | ty n => cases (show v = Value.type n from r); exact h

section
variable {X : Cx} {CX : CXT} {pins : List (Addr × Obj)} {σ : L2.St} {H : Hp} {s : Shared} {a C dx p g : Addr} {fs : List (Str × V)} {n : Nat} {sp : Sp} {E : XK}
theorem run_atR {A : Around} {Q : VK} {us : List Value} {ws : List V} (F : FnR X.prog X.w X.K X.mg X.base CX n g sp) (hr : Room n A) (e0 : Env0 X.prog X.w X.K X.mg X.base A X.stack s H) (hx : Passes CX X E)
    (I : Inv X pins σ H s) (r : Vals ws us) (h : sp ws H Q E) :
    codeAny (model X.prog X.w) A (.call (.ref g) ⟨us, []⟩) (fun r s' => match r with | .ok (.ret v) => EP X pins σ Q v s' | .ok _ => False | .error e => X.xe e s') s := by
  refine codeAny_mono (F A X.stack s H us ws Q E hr e0 r h) fun r s' hq => ?_
  cases r with
  | error e => exact hx pins σ H s e s' I hq
  | ok fl =>
    cases fl with
    | ret u => exact I.after hq
    | next => exact False.elim hq
    | brk => exact False.elim hq
    | cont => exact False.elim hq
/-- x == y, x an instance of C with an own __eq__ -/
def rOwnEq (K : PySem.W.Frag) (C : Addr) (sp : Sp) (E : XK) : R2 := fun x y H Q => ∃ (a dx : Addr) (fs : List (Str × V)) (t : Value), x = .ref a ∧ H a = some (.ins C dx fs) ∧ TyX K H y t ∧ PySem.W.notFirst K C t = true ∧ sp [x, y] H Q E
def rOwnNe (K : PySem.W.Frag) (C : Addr) (sp : Sp) (E : XK) : R2 := fun x y H Q => ∃ (a dx : Addr) (fs : List (Str × V)) (t : Value), x = .ref a ∧ H a = some (.ins C dx fs) ∧ TyX K H y t ∧ PySem.W.notFirst K C t = true ∧
  sp [x, y] H (fun v H' => ∃ k, v = .bl k ∧ Q (.bl (!k)) H') E
theorem op_ownEq (hs : PySem.W.findIn X.K (.ref C) "__eq__" = some (some (.ref g))) (hf : PySem.W.isFn X.K (.ref g) = true) (F : FnR X.prog X.w X.K X.mg X.base CX n g sp) (hr : Room n X.A) (hx : Passes CX X E) :
    OpR X (compareOp .Eq) (rOwnEq X.K C sp E) := by
  intro pins s σ H x y v u Q I rx ry h
  obtain ⟨a, dx, fs, t, rfl, ha, ty, hn, q⟩ := h
  cases (show v = Value.ref a from rx)
  obtain ⟨mA, O, _⟩ := ins_get I.hok ha
  obtain ⟨od, J, _⟩ := O.look
  obtain ⟨P, Z, hp, _⟩ := kit_of I ry ty
  obtain ⟨m, hF⟩ := I.fr
  show wpAny _ _ (richCompare .Eq (.ref a) u) _ _ _
  refine PySem.W.cmp_K (op := .Eq) (tb := t) hr.units0 hF I.ok.mod.kin J (Z.ty _ _ I.kIn hp) hn hs hf ?_
  refine wpAny_mono (wpAny_call (run_fnR (us := [.ref a, u]) (vs := [.ref a, y]) F hr hx I (.cons rfl (.cons ry .nil)) q)) (fun w s' z => ?_) fun _ _ x => x
  obtain ⟨z', H', I', rz, qz⟩ := z
  exact cmpback rz ⟨z', H', I', rz, qz⟩
theorem op_ownNe (hm : PySem.W.mroIn X.K C (.type "object") = some true) (hne : PySem.W.findIn X.K (.ref C) "__ne__" = some (some (.builtin "object.__ne__")))
    (hs : PySem.W.findIn X.K (.ref C) "__eq__" = some (some (.ref g))) (hf : PySem.W.isFn X.K (.ref g) = true) (F : FnR X.prog X.w X.K X.mg X.base CX n g sp) (hr : Room (n + 1) X.A) (hx : Passes CX X E) :
    OpR X (compareOp .NotEq) (rOwnNe X.K C sp E) := by
  intro pins s σ H x y v u Q I rx ry h
  obtain ⟨a, dx, fs, t, rfl, ha, ty, hn, q⟩ := h
  cases (show v = Value.ref a from rx)
  obtain ⟨mA, O, _⟩ := ins_get I.hok ha
  obtain ⟨od, J, _⟩ := O.look
  obtain ⟨P, Z, hp, _⟩ := kit_of I ry ty
  show wpAny _ _ (richCompare .NotEq (.ref a) u) _ _ _
  refine cmp_ne_K (tb := t) hr.units0 hr.in1.units0 I.kIn J (Z.ty _ _ I.kIn hp) hn hm hne hs hf ?_
  refine wpAny_mono (wpAny_call (run_atR (us := [.ref a, u]) (ws := [.ref a, y]) F hr.in1 I.env0.in1 hx I (.cons rfl (.cons ry .nil)) q)) (fun w s' z => ?_) fun _ _ x => x
  obtain ⟨z', H', I', rz, k, ek, qz⟩ := z
  subst ek
  exact ⟨k, rz, .bl (!k), H', I', rfl, qz⟩
/-- str(x) by an own __str__ -/
def rStrOwn (C : Addr) (sp : Sp) (E : XK) : List V → Hp → VK → Prop := fun xs H Q => ∃ (a dx : Addr) (fs : List (Str × V)), xs = [V.ref a] ∧ H a = some (.ins C dx fs) ∧ sp [.ref a] H (fun z H' => ∃ y, z = .str y ∧ Q z H') E
theorem call_strOwn (hs : PySem.W.findIn X.K (.ref C) "__str__" = some (some (.ref g))) (hf : PySem.W.isFn X.K (.ref g) = true) (F : FnR X.prog X.w X.K X.mg X.base CX n g sp) (hr : Room (n + 2) X.A) (hx : Passes CX X E) :
    CallR X (.type "str") (rStrOwn C sp E) := by
  intro pins s σ H xs us Q I r h
  obtain ⟨a, dx, fs, rfl, ha, q⟩ := h
  obtain ⟨u, rfl, ru⟩ := vals1 r
  cases (show u = Value.ref a from ru)
  obtain ⟨mA, O, _⟩ := ins_get I.hok ha
  obtain ⟨od, J, _⟩ := O.look
  have hr2 : Room n X.A.in1.in1 := (show Room (n + 1) X.A.in1 from Room.in1 hr).in1
  refine PySem.W.kso_call hr2.units0 I.kIn J hs hf (wpAny_mono (wpAny_call (run_atR (us := [.ref a]) (ws := [.ref a]) F hr2 I.env0.in1.in1 hx I (.cons rfl .nil) q)) (fun w s' z => ?_) fun _ _ x => x)
  obtain ⟨z', H', I', rz, y, ey, qz⟩ := z
  subst ey
  obtain ⟨t, e⟩ := (show ∃ t, w = Value.str y t from rz)
  cases e
  exact ⟨.str y, H', I', ⟨t, rfl⟩, qz⟩
end

/-- cls(..), the class at C in the i-th slot -/
def tMakeL (i : Nat) (C : Addr) (sp : Sp) (dvs : List V) (E : XK) (t : TA) : TE := fun σ H Q => σ[i]? = some (some (.ref C)) ∧ t σ H fun vs H1 => ∀ x dx, H1 x = none → H1 dx = none → dx ≠ x →
  sp (.ref x :: (vs ++ dvs)) (upd (upd H1 dx (.own x)) x (.ins C dx [])) (fun v H2 => v = .non ∧ Q (.ref x) H2) E
section
variable {X : Cx} {CX : CXT} {k i : Nat} {f C : Addr} {fd : FuncData} {ps : List Str} {sp : Sp} {dvs : List V} {ds : List Value} {E : XK} {x : Str} {p pos : Pos} {e : Expr} {es : List Expr} {t : TA}
theorem pe_makeL (M : Mk X.K C f) (F : FnOk X.prog X.w X.K X.mg X.base CX k f fd ps sp) (hr : Room (k + 1) X.A) (hN : X.N[i]? = some x) (hv : Vis X.env.scope x) (hb : Binds X.K fd ps ds) (hd : Vals dvs ds) (hx : Passes CX X E)
    (ha : PA X (e :: es) t) (hdb : (x == ("__debug__" : Str)) = false := by decide) (hcd : (x == ("__classdict__" : Str)) = false := by decide)
    (he : starEach (e :: es) X.env = (false, eval e X.env) :: starEach es X.env := by rfl) (hpl : (backTo pos (starEach es X.env)).any (·.1) = false := by rfl) :
    PE X (.Call (.Name x p) (e :: es) [] pos) (tMakeL i C sp dvs E t) := by
  refine ⟨fun pins s σ H Q I h => ?_⟩
  obtain ⟨hs, ht⟩ := h
  refine wpAny_Call_Name_kw (thn ((pe_var (pos := p) hN hv hdb hcd).run pins s σ H (fun v H1 => v = .ref C ∧ H1 = H) I ⟨.ref C, hs, rfl, rfl⟩) fun u s1 ⟨v, H1, I1, r1, q1⟩ => ?_)
  obtain ⟨rfl, rfl⟩ := q1
  cases r1
  refine PySem.W.callWith_K (h₀ := X.base) I.ok.mod.kin M.kp (thn (ha.run pos pins s1 σ _ _ I1 ht) fun us s2 ⟨vs, H2, I2, r, q⟩ => ⟨I2.kIn, ?_⟩) he hpl
  exact run_make M F hr hb hd hx I2 r q
end

/-! ### types of values, classes -/
def notRef : Value → Bool
  | .ref _ => false
  | _ => true
def noRefs (l : List Value) : Bool := l.all notRef
theorem noRefs_of {l : List Value} {C : Addr} (h : noRefs l = true) : l.contains (.ref C) = false := by
  induction l with
  | nil => rfl
  | cons v l ih =>
    unfold noRefs at h
    rw [List.all_cons, Bool.and_eq_true] at h
    have h2 : l.contains (.ref C) = false := ih h.2
    rw [List.contains_cons, h2, Bool.or_false]
    cases v with
    | ref a => exact absurd h.1 (by show ¬ (false = true); decide)
    | _ => rfl
theorem sub_ty {K : PySem.W.Frag} {T : String} {C : Addr} (h : (fastBuiltinMro T).any noRefs = true) : PySem.W.subIn K (.type T) (.ref C) = some false := by
  show (fastBuiltinMro T).map (·.contains (.ref C)) = some false
  cases e : fastBuiltinMro T with
  | none => rw [e] at h; cases h
  | some l =>
    rw [e] at h
    exact congrArg some (noRefs_of h)
theorem nf_ty {K : PySem.W.Frag} {T : String} {C : Addr} (h : (fastBuiltinMro T).any noRefs = true) : PySem.W.notFirst K C (.type T) = true := by
  unfold PySem.W.notFirst
  rw [sub_ty h]
  exact Bool.or_true _
theorem nf_own {K : PySem.W.Frag} {C : Addr} : PySem.W.notFirst K C (.ref C) = true := by
  unfold PySem.W.notFirst
  rw [beq_self_eq_true]
  exact Bool.true_or _
theorem mro_str : (fastBuiltinMro "str").any noRefs = true := by decide +kernel
theorem mro_int : (fastBuiltinMro "int").any noRefs = true := by decide +kernel
theorem mro_bool : (fastBuiltinMro "bool").any noRefs = true := by decide +kernel
theorem mro_none : (fastBuiltinMro "NoneType").any noRefs = true := by decide +kernel
theorem mro_tuple : (fastBuiltinMro "tuple").any noRefs = true := by decide +kernel
theorem mro_list : (fastBuiltinMro "list").any noRefs = true := by decide +kernel
/-- what of the text a class must have: its instances are read, compared, asked for their class -/
structure ClsT (K : PySem.W.Frag) (C : Addr) : Prop where
  cl : Cls K C
  ca : PySem.W.findIn K (.ref C) "__class__" = some (some (.builtin "object.__class__"))
  cn : PySem.W.specialIn K (.builtin "object.__class__") "__get__" = some (some (.builtin "getset_descriptor.__get__"))
  ct : PySem.W.takesIn K (.builtin "object.__class__") = some true
  cm : PySem.W.mroIn K C (.type "object") = some true
  isc : ((PySem.W.clsIn K C).isSome && PySem.W.typeIn K (.ref C) == some (.type "type")) = true
  ne : PySem.W.findIn K (.ref C) "__ne__" = some (some (.builtin "object.__ne__"))
theorem isc_mk {K : PySem.W.Frag} {C : Addr} (a : PySem.W.isClsIn K C = true) (b : PySem.W.typeIn K (.ref C) = some (.type "type")) : ((PySem.W.clsIn K C).isSome && PySem.W.typeIn K (.ref C) == some (.type "type")) = true := by
  rw [b, show (PySem.W.clsIn K C).isSome = true from a]
  rfl
theorem ClsT.ty {K : PySem.W.Frag} {C : Addr} (c : ClsT K C) {H : Hp} {a dx : Addr} {fs : List (Str × V)} (h : H a = some (.ins C dx fs)) : TyX K H (.ref a) (.ref C) := .base (.ins h c.cl c.ca c.cn c.ct c.cm)
theorem kit_own {K : PySem.W.Frag} {C : Addr} : PySem.W.kitOne K (.ref C) (.ref C) = some true := by
  unfold PySem.W.kitOne
  rw [beq_self_eq_true]
  exact if_pos rfl
theorem ClsT.kitTy {K : PySem.W.Frag} {C : Addr} (c : ClsT K C) {T : String} (h : (fastBuiltinMro T).any noRefs = true) : PySem.W.kitOne K (.type T) (.ref C) = some false := by
  unfold PySem.W.kitOne
  rw [if_neg (by show ¬ ((Value.type T == Value.ref C) = true); exact fun q => nomatch (beq_iff_eq.mp q))]
  show (if ((PySem.W.clsIn K C).isSome && PySem.W.typeIn K (.ref C) == some (.type "type")) = true then PySem.W.subIn K (.type T) (.ref C) else none) = some false
  rw [if_pos c.isc]
  exact sub_ty h

/-! ### heaps: all but one address stays -/
/-- what stood at another address than b stands -/
def But (b : Addr) (H H' : Hp) : Prop := ∀ q o, H q = some o → q ≠ b → H' q = some o
theorem But.refl {b : Addr} {H : Hp} : But b H H := fun _ _ h _ => h
theorem But.trans {b : Addr} {H H1 H2 : Hp} (x : But b H H1) (y : But b H1 H2) : But b H H2 := fun q o h n => y q o (x q o h n) n
theorem But.of {b : Addr} {H H' : Hp} (s : Same H H') : But b H H' := fun q o h _ => s q o h
theorem But.upd {b : Addr} {H : Hp} {o : HO} : But b H (upd H b o) := fun q u h n => by rw [upd_ne n]; exact h
theorem But.same {b : Addr} {H H' : Hp} (x : But b H H') (h : H b = none) : Same H H' := fun q o e => x q o e (ne_of_none e h)
theorem But.free {b q : Addr} {H H' : Hp} (x : But b H H') (n : q ≠ b) (h : H' q = none) : H q = none := by
  cases e : H q with
  | none => rfl
  | some o => rw [x q o e n] at h; cases h
theorem But.seq {K : PySem.W.Frag} {b a : Addr} {xs : List V} {H H' : Hp} (x : But b H H') (n : a ≠ b) (h : SqL K H a xs) : SqL K H' a xs := by
  rcases h with (h | ⟨o, h⟩) | h
  · exact .inl (.inl (x _ _ h n))
  · exact .inl (.inr ⟨o, x _ _ h n⟩)
  · exact .inr h
theorem Same.new {H : Hp} {p : Addr} {o : HO} (h : H p = none) : Same H (upd H p o) := fun q u e => by
  rw [upd_ne (ne_of_none e h)]; exact e
/-- a new instance is laid -/
theorem Same.make {H : Hp} {x dx C : Addr} {fs : List (Str × V)} (nx : H x = none) (nd : H dx = none) : Same H (L2.upd (L2.upd H dx (.own x)) x (.ins C dx fs)) := fun b o e => by
  rw [upd_ne (ne_of_none e nx), upd_ne (ne_of_none e nd)]; exact e
theorem two_upd {H : Hp} {a : Addr} {o u : HO} : L2.upd (L2.upd H a o) a u = L2.upd H a u := upd_upd

/-! ### attributes -/
theorem lk0 {f : Str} {v : V} {fs : List (Str × V)} : List.lookup f ((f, v) :: fs) = some v := by
  rw [List.lookup_cons]; simp
theorem lk1 {f g : Str} {v : V} {fs : List (Str × V)} (h : (f == g) = false) : List.lookup f ((g, v) :: fs) = List.lookup f fs := by
  rw [List.lookup_cons, h]
theorem pf0 {f : Str} {v : V} : putF f v [] = [(f, v)] := rfl
theorem pf1 {f g : Str} {v u : V} {fs : List (Str × V)} (h : ¬ g = f) : putF f v ((g, u) :: fs) = (g, u) :: putF f v fs := by
  show (if g = f then (g, v) :: fs else (g, u) :: putF f v fs) = _
  rw [if_neg h]

/-! ### readings by short names -/
abbrev rAddI : R2 := rI0 fun i j => .int (i + j)
abbrev rSubI : R2 := rI0 fun i j => .int (i - j)
abbrev rMulI : R2 := rI CMul fun i j => .int (i * j)
abbrev rFdivI : R2 := rI CDiv fun i j => .int (i / j)
abbrev rModI : R2 := rI (fun _ j => 0 < j) fun i j => .int (i % j)
abbrev rPowI : R2 := rI CPow fun i j => .int (i ^ j.toNat)
abbrev rLtI : R2 := rI0 fun i j => .bl (decide (i < j))
abbrev rLeI : R2 := rI0 fun i j => .bl (decide (i ≤ j))
abbrev rGtI : R2 := rI0 fun i j => .bl (decide (j < i))
abbrev rGeI : R2 := rI0 fun i j => .bl (decide (j ≤ i))
abbrev rNegI : V → Hp → VK → Prop := rU fun i => .int (-i)
abbrev rAddS : R2 := fun x y H Q => ∃ i j, x = .str i ∧ y = .str j ∧ i.length + j.length ≤ sizeLine ∧ Q (.str (i ++ j)) H
abbrev rIsNn : R2 := fun x y H Q => y = .non ∧ Q (.bl (decide (x = .non))) H
abbrev rNotNn : R2 := fun x y H Q => y = .non ∧ Q (.bl (!decide (x = .non))) H
abbrev rLenSq (K : PySem.W.Frag) : List V → Hp → VK → Prop := fun xs H Q => ∃ p ys, xs = [.ref p] ∧ (SqL K H p ys ∨ SqT K H p ys) ∧ Q (.int ys.length) H
abbrev rStrI : List V → Hp → VK → Prop := fun xs H Q => ∃ i, xs = [.int i] ∧ i.natAbs.log2 < 1920 ∧ Q (.str (toString i)) H

/-! ### new objects, by what is true of the heap behind them -/
section
variable {X : Cx} {e : Expr} {es : List Expr} {t t' : TE} {ta : TA} {pos : Pos}
theorem PE.weak (h : PE X e t) (k : ∀ σ H Q, t' σ H Q → t σ H Q) : PE X e t' := ⟨fun pins s σ H Q I q => h.run pins s σ H Q I (k σ H Q q)⟩
def tTupS (t : TA) : TE := fun σ H Q => t σ H fun xs H1 => xs.length ≤ sizeLine ∧ ∀ p H', H1 p = none → Same H1 H' → H' p = some (.tup xs) → Q (.ref p) H'
def tLstS (t : TA) : TE := fun σ H Q => t σ H fun xs H1 => xs.length ≤ sizeLine ∧ ∀ p H', H1 p = none → Same H1 H' → H' p = some (.lst xs) → Q (.ref p) H'
theorem pe_tupS {x1} (h : PA X es ta) : PE X (.Tuple es x1 pos) (tTupS ta) := by
  refine ⟨fun pins s σ H Q I hq => ?_⟩
  refine wpAny_Tuple_spliced (thn (h.run pos pins s σ H _ I hq) fun us s1 ⟨xs, H1, I1, r, z, q⟩ => ⟨by rw [← r.length]; exact z, ?_⟩)
  have hf : H1 s1.heap.objs.size = none := I1.hok.fresh (Nat.le_refl _)
  refine ⟨.ref s1.heap.objs.size, L2.upd H1 s1.heap.objs.size (.tup xs), I1.laid (t' := s1.toks) (fun b u e => Heap.get?_push_of_some _ e) (Nat.le_refl _) ?_, rfl, q _ _ hf (Same.new hf) upd_same⟩
  exact ⟨z, us, r, ⟨_, Heap.get?_push_size _ rfl, rfl, _, rfl⟩⟩
theorem pe_lstS (h : PA X es ta) : PE X (.List es pos) (tLstS ta) := by
  refine ⟨fun pins s σ H Q I hq => ?_⟩
  refine wpAny_List_spliced (thn (h.run pos pins s σ H _ I hq) fun us s1 ⟨xs, H1, I1, r, z, q⟩ => ⟨by rw [← r.length]; exact z, ?_⟩)
  have hf : H1 s1.heap.objs.size = none := I1.hok.fresh (Nat.le_refl _)
  refine ⟨.ref s1.heap.objs.size, L2.upd H1 s1.heap.objs.size (.lst xs), I1.laid (t' := s1.toks) (fun b u e => Heap.get?_push_of_some _ e) (Nat.le_refl _) ?_, rfl, q _ _ hf (Same.new hf) upd_same⟩
  exact ⟨z, us, 0, r, Heap.get?_push_size _ rfl⟩
def rCatS : R2 := fun x y H Q => ∃ l b xs zs, x = .ref l ∧ y = .ref b ∧ H l = some (.lst xs) ∧ H b = some (.lst zs) ∧ xs.length + zs.length ≤ sizeLine ∧ ∀ p H', H p = none → Same H H' → H' p = some (.lst (xs ++ zs)) → Q (.ref p) H'
theorem op_catS : OpR X (binaryOp .Add) rCatS := by
  intro pins s σ H x y v u Q I rx ry h
  obtain ⟨l, b, xs, zs, h1, h2, h3, h4, h5, h6⟩ := h
  exact op_cat pins s σ H x y v u Q I rx ry ⟨l, b, xs, zs, h1, h2, h3, h4, h5, fun p hp => h6 p _ hp (Same.new hp) upd_same⟩
def rSlLS (K : PySem.W.Frag) : V → Option Int → Option Int → Hp → VK → Prop := fun x lo hi H Q => ∃ a xs, x = .ref a ∧ SqL K H a xs ∧ ∀ p H', H p = none → Same H H' → H' p = some (.lst (cutV xs lo hi)) → Q (.ref p) H'
theorem sl_listS : SlR X (rSlLS X.K) := by
  intro pins s σ H x v vl vu lo hi sl Q I rx hs pl pu h
  obtain ⟨a, xs, h1, h2, h3⟩ := h
  exact sl_list pins s σ H x v vl vu lo hi sl Q I rx hs pl pu ⟨a, xs, h1, h2, fun p hp => h3 p _ hp (Same.new hp) upd_same⟩
def rListOfS (K : PySem.W.Frag) : List V → Hp → VK → Prop := fun xs H Q => ∃ p ys, xs = [.ref p] ∧ (SqL K H p ys ∨ SqT K H p ys) ∧ ∀ l H', H l = none → Same H H' → H' l = some (.lst ys) → Q (.ref l) H'
theorem call_list_ofS : CallR X (.type "list") (rListOfS X.K) := by
  intro pins s σ H xs us Q I r h
  obtain ⟨p, ys, h1, h2, h3⟩ := h
  exact call_list_of pins s σ H xs us Q I r ⟨p, ys, h1, h2, fun l hl => h3 l _ hl (Same.new hl) upd_same⟩
end
/-- a new object at x, whatever its attributes: what stood before stands -/
theorem made_same {H H' : Hp} {x dx C : Addr} {fs : List (Str × V)} (nx : H x = none) (nd : H dx = none) (b : But x (L2.upd (L2.upd H dx (.own x)) x (.ins C dx fs)) H') : Same H H' := fun q o e =>
  b q o (by rw [upd_ne (ne_of_none e nx), upd_ne (ne_of_none e nd)]; exact e) (ne_of_none e nx)
end Lf

set_option Elab.async false
set_option linter.all false
set_option maxRecDepth 100000
set_option maxHeartbeats 4000000
/-! len, in, subscripts and slices by own methods; count of tuples. -/
namespace Lf
open PySem PySem.Spec PyProof.Rows L2
section
variable {X : Cx} {CX : CXT} {pins : List (Addr × Obj)} {σ : L2.St} {H : Hp} {s : Shared} {C g : Addr} {n : Nat} {sp : Sp} {E : XK}
/-- len(x) by an own __len__ -/
def rLenOwn (C : Addr) (sp : Sp) (E : XK) : List V → Hp → VK → Prop := fun xs H Q => ∃ (a dx : Addr) (fs : List (Str × V)), xs = [V.ref a] ∧ H a = some (.ins C dx fs) ∧ sp [.ref a] H (fun z H' => ∃ i : Int, z = .int i ∧ 0 ≤ i ∧ i < 2 ^ 63 ∧ Q z H') E
theorem call_lenOwn (hs : PySem.W.findIn X.K (.ref C) "__len__" = some (some (.ref g))) (hf : PySem.W.isFn X.K (.ref g) = true) (F : FnR X.prog X.w X.K X.mg X.base CX n g sp) (hr : Room (n + 1) X.A) (hx : Passes CX X E) :
    CallR X (.builtin "len") (rLenOwn C sp E) := by
  intro pins s σ H xs us Q I r h
  obtain ⟨a, dx, fs, rfl, ha, q⟩ := h
  obtain ⟨u, rfl, ru⟩ := vals1 r
  cases (show u = Value.ref a from ru)
  obtain ⟨mA, O, _⟩ := ins_get I.hok ha
  obtain ⟨od, J, _⟩ := O.look
  obtain ⟨m, hF⟩ := I.fr
  refine PySem.W.len_K hF I.ok.mod.kin J hs hf (wpAny_mono (wpAny_call (run_atR (us := [.ref a]) (ws := [.ref a]) F hr.in1 I.env0.in1 hx I (.cons rfl .nil) q)) (fun w s' z => ?_) fun _ _ x => x)
  obtain ⟨z', H', I', rz, i, ei, i0, i1, qz⟩ := z
  subst ei
  obtain ⟨t, e⟩ := (show ∃ t, w = Value.int i t from rz)
  cases e
  exact ⟨⟨i0, i1⟩, .int i, H', I'.tok _, ⟨_, rfl⟩, qz⟩
/-- v in x by an own __contains__ that answers a bool -/
def rInOwn (C : Addr) (sp : Sp) (E : XK) (neg : Bool) : R2 := fun x y H Q => ∃ (a dx : Addr) (fs : List (Str × V)), y = .ref a ∧ H a = some (.ins C dx fs) ∧ sp [y, x] H (fun z H' => ∃ b, z = .bl b ∧ Q (.bl (if neg then !b else b)) H') E
theorem op_inOwn (hs : PySem.W.findIn X.K (.ref C) "__contains__" = some (some (.ref g))) (hf : PySem.W.isFn X.K (.ref g) = true) (F : FnR X.prog X.w X.K X.mg X.base CX n g sp) (hr : Room n X.A) (hx : Passes CX X E) :
    OpR X (compareOp .In) (rInOwn C sp E false) := by
  intro pins s σ H x y v u Q I rx ry h
  obtain ⟨a, dx, fs, rfl, ha, q⟩ := h
  cases (show u = Value.ref a from ry)
  obtain ⟨mA, O, _⟩ := ins_get I.hok ha
  obtain ⟨od, J, _⟩ := O.look
  obtain ⟨m, hF⟩ := I.fr
  refine PySem.W.in_K hF I.ok.mod.kin J hs hf (wpAny_mono (wpAny_call (run_fnR (us := [.ref a, v]) (vs := [.ref a, x]) F hr hx I (.cons rfl (.cons rx .nil)) q)) (fun w s' z => ?_) fun _ _ x => x)
  obtain ⟨z', H', I', rz, b, eb, qz⟩ := z
  subst eb
  cases (show w = Value.bool b from rz)
  exact wpAny_truthy_bool ⟨.bl b, H', I', rfl, qz⟩
theorem op_notInOwn (hs : PySem.W.findIn X.K (.ref C) "__contains__" = some (some (.ref g))) (hf : PySem.W.isFn X.K (.ref g) = true) (F : FnR X.prog X.w X.K X.mg X.base CX n g sp) (hr : Room n X.A) (hx : Passes CX X E) :
    OpR X (compareOp .NotIn) (rInOwn C sp E true) := by
  intro pins s σ H x y v u Q I rx ry h
  obtain ⟨a, dx, fs, rfl, ha, q⟩ := h
  cases (show u = Value.ref a from ry)
  obtain ⟨mA, O, _⟩ := ins_get I.hok ha
  obtain ⟨od, J, _⟩ := O.look
  obtain ⟨m, hF⟩ := I.fr
  refine PySem.W.notIn_K hF I.ok.mod.kin J hs hf (wpAny_mono (wpAny_call (run_fnR (us := [.ref a, v]) (vs := [.ref a, x]) F hr hx I (.cons rfl (.cons rx .nil)) q)) (fun w s' z => ?_) fun _ _ x => x)
  obtain ⟨z', H', I', rz, b, eb, qz⟩ := z
  subst eb
  cases (show w = Value.bool b from rz)
  exact wpAny_truthy_bool ⟨.bl (!b), H', I', rfl, qz⟩
/-! ### subscripts -/
/-- x[i] by an own __getitem__ -/
def rIxOwn (C : Addr) (sp : Sp) (E : XK) : R2 := fun x y H Q => ∃ (a dx : Addr) (fs : List (Str × V)), x = .ref a ∧ H a = some (.ins C dx fs) ∧ sp [x, y] H Q E
theorem pe_ixOwn {a b : Expr} {ta tb : TE} {pos : Pos} (hs : PySem.W.findIn X.K (.ref C) "__getitem__" = some (some (.ref g))) (hfi : PySem.W.fnIn X.K g = true) (hf : PySem.W.isFn X.K (.ref g) = true)
    (F : FnR X.prog X.w X.K X.mg X.base CX n g sp) (hr : Room (n + 1) X.A) (hx : Passes CX X E) (ha : PE X a ta) (hb : PE X b tb)
    (hsl : ∀ (x : Addr) (i : Value), subscripted b true (.ref x) i = runValue (.builtin "lifetime.subscript" ⟨[.ref x, i], []⟩)) : PE X (.Subscript a b pos) (tOp (rIxOwn C sp E) ta tb) := by
  refine ⟨fun pins s σ H Q I h => ?_⟩
  refine Subscript_ (binT ha hb I h fun v u s2 x y H2 I2 rx ry q => ?_)
  obtain ⟨p, dx, fs, rfl, hp, q⟩ := q
  cases (show v = Value.ref p from rx)
  obtain ⟨mA, O, _⟩ := ins_get I2.hok hp
  obtain ⟨od, J, _⟩ := O.look
  obtain ⟨m, hF⟩ := I2.fr
  exact PySem.W.sub_K hF I2.ok.mod.kin J hs hfi hf (wpAny_mono (wpAny_call (run_atR (us := [.ref p, u]) (ws := [.ref p, y]) F hr.in1 I2.env0.in1 hx I2 (.cons rfl (.cons ry .nil)) q)) (fun _ _ z => z) fun _ _ x => x) (hsl p u)
/-- a slice object -/
def SliceO (sl : Addr) (lo hi : Option Int) : HO := .ext fun h => ∃ vl vu, h.IsSliceOf sl vl vu .none ∧ IsPart vl lo ∧ IsPart vu hi
def tSlOwn (C : Addr) (sp : Sp) (E : XK) (te : TE) (tl th : TO) : TE := fun σ H Q => te σ H fun x H1 => tl σ H1 fun l H2 => th σ H2 fun u H3 => ∃ (a dx : Addr) (fs : List (Str × V)), x = .ref a ∧ H3 a = some (.ins C dx fs) ∧
  ∀ p H', H3 p = none → Same H3 H' → H' p = some (SliceO p l u) → sp [x, .ref p] H' Q E
theorem sub_sliceK {prog : Program} {w : World} {A : Around} {E : Value → Shared → Prop} {s : Shared} {K : PySem.W.Frag} {x C L f : Addr} {h₀ : Heap} {m : Str → Option Value} {ox : Obj} {od : Option Obj} {value : Expr} {lo hi : Option Expr} {p2 : Pos} {i : Value} {Q : Value → Shared → Prop} (F : Fr h₀ L s.heap m) (X₀ : K.In h₀) (I : PySem.W.InstAt s.heap x ox C od)
    (hq : PySem.W.noSeq K C = true) (hs : PySem.W.findIn K (.ref C) "__getitem__" = some (some (.ref f))) (hf : PySem.W.fnIn K f = true) (hfn : PySem.W.isFn K (.ref f) = true)
    (h : wpAny (model prog w) A (call (.ref f) [.ref x, i]) Q E s) : wpAny (model prog w) A (subscriptTail value (.Slice lo hi none p2) (.ref x) i) Q E s := by
  have X := X₀.keeps F.keep
  unfold PySem.W.fnIn at hf
  split at hf
  · rename_i e
    unfold subscriptTail getitemInPython
    refine wpAny_bind (wpAny_bind (wpAny_bind (I.type.here ((PySem.W.looks_findIn X hs).here ?_))))
    dsimp only
    refine wpAny_bind (wpAny_load (X _ _ e) (wpAny_pure ?_))
    dsimp only
    show wpAny (model prog w) A (operate [i, .ref x] (getItem (.ref x) i) >>= _) Q E s
    refine wpAny_bind (wpAny_operateT (PySem.W.getItem_K F X₀ I hq hs hfn (wpAny_mono h (fun v s' z => ?_) fun _ _ z => z)))
    exact wpAny_bind (wpAny_letTemporaryGo (wpAny_pure z))
  · cases hf
theorem pe_sliceOwn {e : Expr} {te : TE} {lo hi : Option Expr} {tl th : TO} {pos p2 : Pos} (hq : PySem.W.noSeq X.K C = true) (hs : PySem.W.findIn X.K (.ref C) "__getitem__" = some (some (.ref g))) (hfi : PySem.W.fnIn X.K g = true) (hf : PySem.W.isFn X.K (.ref g) = true)
    (F : FnR X.prog X.w X.K X.mg X.base CX n g sp) (hr : Room n X.A) (hx : Passes CX X E) (he : PE X e te) (hl : PO X lo tl) (hu : PO X hi th) :
    PE X (.Subscript e (.Slice lo hi none p2) pos) (tSlOwn C sp E te tl th) := by
  refine ⟨fun pins s σ H Q I h => ?_⟩
  refine Subscript_ (thn (he.run pins s σ H _ I h) fun v s1 ⟨x, H1, I1, r1, q1⟩ => ?_)
  refine wpAny_Slice (thn (hl.run pins s1 σ H1 _ I1 q1) fun vl s2 ⟨l, H2, I2, pl, q2⟩ => thn (hu.run pins s2 σ H2 _ I2 q2) fun vu s3 ⟨u, H3, I3, pu, q3⟩ => ?_)
  rw [evalPart_none]
  refine wpAny_pure ?_
  have hn : H3 s3.heap.objs.size = none := I3.hok.fresh (Nat.le_refl _)
  have kp : ∀ b ob, s3.heap.get? b = some ob → (s3.heap.push { cls := .type "slice", data := .fields #[vl, vu, .none] }).get? b = some ob := fun b ob q => Heap.get?_push_of_some _ q
  have new : ObjOk X.prog X.w (L2.upd H3 s3.heap.objs.size (SliceO s3.heap.objs.size l u)) (s3.heap.push { cls := .type "slice", data := .fields #[vl, vu, .none] }) s3.heap.objs.size (SliceO s3.heap.objs.size l u) := by
    refine ⟨⟨vl, vu, Heap.IsSliceOf.new .., pl, pu⟩, ⟨_, Heap.get?_push_size _ rfl⟩, fun h1 h2 z k => ?_⟩
    obtain ⟨a1, a2, ⟨o, z1, z2⟩, z3⟩ := z
    exact ⟨a1, a2, ⟨o, k o z1, z2⟩, z3⟩
  have I4 := I3.laid (t' := s3.toks) kp (Nat.le_refl _) new
  obtain ⟨p, dx, fs, rfl, hp, q⟩ := q3
  cases (show v = Value.ref p from r1)
  have hp4 := Same.new (o := SliceO s3.heap.objs.size l u) hn p _ hp
  obtain ⟨mA, O, _⟩ := ins_get I4.hok hp4
  obtain ⟨od, J, _⟩ := O.look
  obtain ⟨m, hF⟩ := I4.fr
  show wpAny (model X.prog X.w) X.A (subscriptTail e (.Slice lo hi none p2) (.ref p) (.ref s3.heap.objs.size)) (EP X pins σ Q) X.xe { s3 with heap := s3.heap.push { cls := .type "slice", data := .fields #[vl, vu, .none] } }
  refine sub_sliceK hF I4.ok.mod.kin J hq hs hfi hf ?_
  exact wpAny_mono (wpAny_call (run_fnR (us := [.ref p, .ref s3.heap.objs.size]) (vs := [.ref p, .ref s3.heap.objs.size]) F hr hx I4 (.cons rfl (.cons rfl .nil)) (q _ _ hn (Same.new hn) upd_same))) (fun _ _ z => z) fun _ _ x => x
/-- t[i], t a tuple, i an int or a slice object -/
def rIxTS (K : PySem.W.Frag) : R2 := fun x y H Q => rIxT K x y H Q ∨ ∃ (sl : Addr) (lo hi : Option Int), y = .ref sl ∧ H sl = some (SliceO sl lo hi) ∧ rSlA K x lo hi H Q
theorem ix_tupS : IxR X (rIxTS X.K) := by
  intro value slice pins s σ H x y v u Q I rx ry h hs
  rcases h with h | ⟨sl, lo, hi, rfl, hsl, q⟩
  · exact ix_tup value slice pins s σ H x y v u Q I rx ry h hs
  · cases (show u = Value.ref sl from ry)
    obtain ⟨⟨vl, vu, z1, z2, z3⟩, _⟩ := (show ObjOk X.prog X.w H s.heap sl (SliceO sl lo hi) from I.hok sl _ hsl)
    obtain ⟨T, id, hT, ht, hg⟩ := sl_tupA pins s σ H x v vl vu lo hi sl Q I rx z1 z2 z3 q
    exact tail_any (ops := [v, .ref sl]) ht hT hg hs
/-! ### tuples of which the object is known: their methods -/
/-- a tuple of xs at a, of the built-in class itself -/
def TupD (H : Hp) (a : Addr) (xs : List V) : Prop := ∃ o : Obj, H a = some (.frz o (.tup xs)) ∧ o.dict = none ∧ o.cls = .type "tuple"
theorem TupD.keep {H H' : Hp} {a : Addr} {xs : List V} (h : TupD H a xs) (s : Same H H') : TupD H' a xs := by
  obtain ⟨o, h1, h2⟩ := h
  exact ⟨o, s _ _ h1, h2⟩
theorem TupD.but {H H' : Hp} {a b : Addr} {xs : List V} (h : TupD H a xs) (s : But b H H') (n : a ≠ b) : TupD H' a xs := by
  obtain ⟨o, h1, h2⟩ := h
  exact ⟨o, s _ _ h1 n, h2⟩
theorem TupD.ne {H : Hp} {a b : Addr} {xs : List V} (h : TupD H a xs) (n : H b = none) : a ≠ b := by
  obtain ⟨o, h1, h2⟩ := h
  exact ne_of_none h1 n
theorem TupD.seq {K : PySem.W.Frag} {H : Hp} {a : Addr} {xs : List V} (h : TupD H a xs) : SqT K H a xs := by
  obtain ⟨o, h1, _⟩ := h
  exact .inl (.inr ⟨o, h1⟩)
theorem TupD.ty {K : PySem.W.Frag} {H : Hp} {a : Addr} {xs : List V} (h : TupD H a xs) : TyX K H (.ref a) (.type "tuple") := by
  obtain ⟨o, h1, _⟩ := h
  exact .fTuple h1
/-- tuple(list): a new one, known -/
def rTupleD (K : PySem.W.Frag) : List V → Hp → VK → Prop := fun xs H Q => ∃ p ys, xs = [.ref p] ∧ SqL K H p ys ∧ ∀ l H', H l = none → Same H H' → TupD H' l ys → Q (.ref l) H'
theorem call_tupleD : CallR X (.type "tuple") (rTupleD X.K) := by
  intro pins s σ H xs us Q I r h
  obtain ⟨p, ys, rfl, hq, q⟩ := h
  obtain ⟨u, rfl, rx⟩ := vals1 r
  cases rx
  obtain ⟨its, r', pl, hz⟩ := I.list hq
  have hlen := r'.length
  refine call_tuple_list pl.isList (fun h' kp => ?_) (by simp only [List.size_toArray] <;> omega)
  have I1 : L2.Inv X pins σ H { s with heap := h' } := I.kept (t' := s.toks) kp
  have hn := I1.hok.fresh (Nat.le_refl h'.objs.size)
  have I2 : L2.Inv X pins σ (L2.upd H h'.objs.size (.frz { cls := .type "tuple", data := .seq its.toArray } (.tup ys))) { s with heap := h'.push { cls := .type "tuple", data := .seq its.toArray } } :=
    I1.laid (t' := s.toks) (fun b o e => Heap.get?_push_of_some _ e) (Nat.le_refl _) (show ObjOk X.prog X.w _ _ _ (.frz _ (.tup ys)) from ⟨Heap.get?_push_size _ rfl, hz, its, r', IsTup.new _ _⟩)
  exact ⟨.ref h'.objs.size, _, I2, rfl, q _ _ hn (Same.new hn) ⟨_, upd_same, rfl, rfl⟩⟩
/-- a method of such a tuple -/
def tBMT (r : V → List V → Hp → VK → Prop) (to : TE) (t : TA) : TE := fun σ H Q => to σ H fun x H1 => (∃ p xs, x = .ref p ∧ TupD H1 p xs) ∧ t σ H1 fun xs H2 => r x xs H2 Q
theorem pe_bmT {o e : Expr} {es : List Expr} {to : TE} {t : TA} {name : Str} {apos cpos : Pos} {id : String} {r : V → List V → Hp → VK → Prop} (pa : PlainAttrs "tuple") (slot : Slot "tuple" name id) (hty : typeOf (.builtin id) = pure (.type "method_descriptor")) (hm : MtR X id r) (ho : PE X o to) (ha : PA X (e :: es) t)
    (hbase : attributeBase o name X.env (eval o X.env) = eval o X.env := by rfl)
    (hfew : ((backTo cpos (starEach (e :: es) X.env)).all (fun x => !x.1) && (backToKw cpos (keywordEach [] X.env)).all (fun x => x.1.isSome)
      && decide ((e :: es).length + ([] : List Keyword).length + (if ([] : List Keyword).isEmpty then 0 else 1) < 30)) = true := by rfl)
    (hline : (apos.endLine == cpos.line) = true := by rfl) (hs : starEach (e :: es) X.env = (false, eval e X.env) :: starEach es X.env := by rfl) (hplain : (backTo cpos (starEach es X.env)).any (·.1) = false := by rfl) :
    PE X (.Call (.Attribute o name apos) (e :: es) [] cpos) (tBMT r to t) := by
  refine ⟨fun pins s σ H Q I h => ?_⟩
  refine wpAny_Call_method_late hbase hfew hline rfl (thn (ho.run pins s σ H _ I h) fun v s1 ⟨x, H1, I1, r1, ty, q1⟩ => ?_)
  obtain ⟨p, xs, rfl, ob, hp, hd, hc⟩ := ty
  cases (show v = Value.ref p from r1)
  obtain ⟨hg, _⟩ := (show ObjOk X.prog X.w H1 s1.heap p (.frz ob (.tup xs)) from I1.hok p _ hp)
  refine ⟨"tuple", id, pa, slot, hty, ⟨ob, hg, hc⟩, fun b eb => by cases eb; exact ⟨ob, hg, hd⟩, ?_⟩
  have hA := ha.run cpos pins s1 σ H1 _ I1 q1
  rw [hs] at hA ⊢
  refine Calls.callWith_builtin (by show (false || (backTo cpos (starEach es X.env)).any (·.1)) = false; rw [hplain] <;> rfl) (Calls.evalArgs_plain ?_)
  exact thn hA fun us s2 ⟨vs, H2, I2, r2, q2⟩ => hm pins s2 σ H2 (.ref p) vs (.ref p) us Q I2 rfl r2 q2
def rCntT (K : PySem.W.Frag) : V → List V → Hp → VK → Prop := fun x xs H Q => ∃ (p : Addr) (ns : List Int) (k : Int), x = .ref p ∧ xs = [.int k] ∧ SqT K H p (ns.map V.int) ∧ Q (.int (ns.count k : Nat)) H
theorem mt_tcount : MtR X "tuple.count" (rCntT X.K) := by
  intro pins s σ H x xs v us Q I rx rxs h
  obtain ⟨p, ns, k, rfl, rfl, hs, q⟩ := h
  cases rx
  obtain ⟨u, rfl, ru⟩ := vals1 rxs
  obtain ⟨t, rfl⟩ := ru
  obtain ⟨its, rv, ⟨⟨cls, dd, data, sl⟩, ho, hc, n, hd⟩, hlen⟩ := I.tuple hs
  simp only at hc hd
  subst hc hd
  have hi := ints_of_vals rv
  refine call_meets PySem.F.slot_tuple_count ⟨_, ho, rfl⟩ PySem.F.entry_tuple_count (PySem.F.args_tuple_count_2 _ _)
    (SeqAt.tuple_countAt p its.toArray n dd sl (.int k t) (eqk k)) ⟨ho, fun y hy => (eqk_gives hi y (by simpa using hy)).at _ _, ?_⟩
  have ec : its.toArray.toList.countP (eqk k) = ns.count k := eqk_count hi
  refine ⟨.int (ns.count k : Nat), H, I.tok _, ⟨s.toks, ?_⟩, q⟩
  show Value.int ((its.toArray.toList.countP (eqk k) : Nat) : Int) s.toks = Value.int ((ns.count k : Nat) : Int) s.toks
  rw [ec]
end
/-! ### data: lists and tuples of ints compared -/
theorem dp_ints {K : PySem.W.Frag} {H : Hp} : ∀ ns : List Int, DpAll K H (ns.map V.int) (ns.map PyData.int)
  | [] => .nil
  | n :: ns => .cons (.int n) (dp_ints ns)
theorem eqv_ints : ∀ ns ms : List Int, PyData.eqvAll (ns.map PyData.int) (ms.map PyData.int) = decide (ns = ms)
  | [], [] => rfl
  | [], m :: ms => by rw [decide_eq_false (by simp)]; rfl
  | n :: ns, [] => by rw [decide_eq_false (by simp)]; rfl
  | n :: ns, m :: ms => by
    show (n == m && PyData.eqvAll (ns.map PyData.int) (ms.map PyData.int)) = decide (n :: ns = m :: ms)
    rw [eqv_ints ns ms]
    by_cases h1 : n = m
    · by_cases h2 : ns = ms
      · rw [h1, h2]; simp
      · rw [h1]; simp [h2]
    · simp [h1]
theorem lay_ints : ∀ ns : List Int, PyData.canLayAll0 (ns.map PyData.int) = true
  | [] => by simp only [List.map_nil, PyData.canLayAll0]
  | n :: ns => by simp only [List.map_cons, PyData.canLayAll0, PyData.canLay0, lay_ints ns, Bool.and_self]
theorem deep_ints : ∀ ns : List Int, PyData.depthAll (ns.map PyData.int) = 0
  | [] => by simp only [List.map_nil, PyData.depthAll]
  | n :: ns => by simp only [List.map_cons, PyData.depthAll, PyData.depth, deep_ints ns, Nat.max_self]
theorem shaped_intsL (ns : List Int) : SeqAt.shaped (.list (ns.map PyData.int)) = true := by
  unfold SeqAt.shaped
  simp only [PyData.canLay0, lay_ints, PyData.depth, deep_ints]
  decide
theorem shaped_intsT (ns : List Int) : SeqAt.shaped (.tuple (ns.map PyData.int)) = true := by
  unfold SeqAt.shaped
  simp only [PyData.canLay0, lay_ints, PyData.depth, deep_ints]
  decide
section
variable {X : Cx}
def rEqIL (K : PySem.W.Frag) : R2 := fun x y H Q => ∃ (p q : Addr) (ns ms : List Int), x = .ref p ∧ y = .ref q ∧ SqL K H p (ns.map V.int) ∧ SqL K H q (ms.map V.int) ∧ Q (.bl (decide (ns = ms))) H
def rNeIL (K : PySem.W.Frag) : R2 := fun x y H Q => ∃ (p q : Addr) (ns ms : List Int), x = .ref p ∧ y = .ref q ∧ SqL K H p (ns.map V.int) ∧ SqL K H q (ms.map V.int) ∧ Q (.bl (!decide (ns = ms))) H
def rEqIT (K : PySem.W.Frag) : R2 := fun x y H Q => ∃ (p q : Addr) (ns ms : List Int), x = .ref p ∧ y = .ref q ∧ SqT K H p (ns.map V.int) ∧ SqT K H q (ms.map V.int) ∧ Q (.bl (decide (ns = ms))) H
def rNeIT (K : PySem.W.Frag) : R2 := fun x y H Q => ∃ (p q : Addr) (ns ms : List Int), x = .ref p ∧ y = .ref q ∧ SqT K H p (ns.map V.int) ∧ SqT K H q (ms.map V.int) ∧ Q (.bl (!decide (ns = ms))) H
theorem op_eqIL (hu : X.A.units + 64 < cLine) : OpR X (compareOp .Eq) (rEqIL X.K) := by
  intro pins s σ H x y v u Q I rx ry h
  obtain ⟨p, q, ns, ms, rfl, rfl, h1, h2, h3⟩ := h
  refine op_eqD hu pins s σ H _ _ v u Q I rx ry ⟨_, _, .lst h1 (dp_ints ns), .lst h2 (dp_ints ms), shaped_intsL ns, shaped_intsL ms, ?_⟩
  show Q (.bl (PyData.eqvAll (ns.map PyData.int) (ms.map PyData.int))) H
  rw [eqv_ints]
  exact h3
theorem op_neIL (hu : X.A.units + 64 < cLine) : OpR X (compareOp .NotEq) (rNeIL X.K) := by
  intro pins s σ H x y v u Q I rx ry h
  obtain ⟨p, q, ns, ms, rfl, rfl, h1, h2, h3⟩ := h
  refine op_neD hu pins s σ H _ _ v u Q I rx ry ⟨_, _, .lst h1 (dp_ints ns), .lst h2 (dp_ints ms), shaped_intsL ns, shaped_intsL ms, ?_⟩
  show Q (.bl (!PyData.eqvAll (ns.map PyData.int) (ms.map PyData.int))) H
  rw [eqv_ints]
  exact h3
theorem op_eqIT (hu : X.A.units + 64 < cLine) : OpR X (compareOp .Eq) (rEqIT X.K) := by
  intro pins s σ H x y v u Q I rx ry h
  obtain ⟨p, q, ns, ms, rfl, rfl, h1, h2, h3⟩ := h
  refine op_eqD hu pins s σ H _ _ v u Q I rx ry ⟨_, _, .tup h1 (dp_ints ns), .tup h2 (dp_ints ms), shaped_intsT ns, shaped_intsT ms, ?_⟩
  show Q (.bl (PyData.eqvAll (ns.map PyData.int) (ms.map PyData.int))) H
  rw [eqv_ints]
  exact h3
theorem op_neIT (hu : X.A.units + 64 < cLine) : OpR X (compareOp .NotEq) (rNeIT X.K) := by
  intro pins s σ H x y v u Q I rx ry h
  obtain ⟨p, q, ns, ms, rfl, rfl, h1, h2, h3⟩ := h
  refine op_neD hu pins s σ H _ _ v u Q I rx ry ⟨_, _, .tup h1 (dp_ints ns), .tup h2 (dp_ints ms), shaped_intsT ns, shaped_intsT ms, ?_⟩
  show Q (.bl (!PyData.eqvAll (ns.map PyData.int) (ms.map PyData.int))) H
  rw [eqv_ints]
  exact h3
end

section
variable {X : Cx}
def rRepS : R2 := fun x y H Q => ∃ l k xs, x = .ref l ∧ y = .int k ∧ H l = some (.lst xs) ∧ -(2 ^ 63) ≤ k ∧ k < 2 ^ 63 ∧ xs.length * k.toNat ≤ sizeLine ∧
  ∀ p H', H p = none → Same H H' → H' p = some (.lst (List.replicate k.toNat xs).flatten) → Q (.ref p) H'
theorem op_repS : OpR X (binaryOp .Mult) rRepS := by
  intro pins s σ H x y v u Q I rx ry h
  obtain ⟨l, k, xs, h1, h2, h3, h4, h5, h6, h7⟩ := h
  exact op_rep pins s σ H x y v u Q I rx ry ⟨l, k, xs, h1, h2, h3, h4, h5, h6, fun p hp => h7 p _ hp (Same.new hp) upd_same⟩
end
theorem flat1 {α : Type} (x : α) : ∀ n : Nat, (List.replicate n [x]).flatten = List.replicate n x
  | 0 => rfl
  | n + 1 => by rw [List.replicate_succ, List.flatten_cons, flat1 x n, List.replicate_succ]; rfl
def tLstRgS (te : L2.St → Hp → (Int → Int → Hp → Prop) → Prop) : TE := fun σ H Q => te σ H fun a b H1 => RgOk a b ∧ ∀ q H', H1 q = none → Same H1 H' → H' q = some (.lst (rgV a b)) → Q (.ref q) H'
/-- is_integer's answer -/
def isIntV : V → Bool
  | .int _ => true
  | _ => false
/-- the attributes of a new object: what an __init__ leaves -/
theorem sz_of {n : Nat} (h : n ≤ 100000) : n ≤ sizeLine := Nat.le_trans h (by decide)
theorem sz_lt {n : Nat} (h : n < 100000) : n < sizeLine := Nat.lt_of_lt_of_le h (by decide)

theorem atI_some {α : Type} {rs : List α} {i : Int} (h1 : -(rs.length : Int) ≤ i) (h2 : i < rs.length) : ∃ v, v ∈ rs ∧ atI rs i = some v := by
  unfold atI ixN
  by_cases h0 : 0 ≤ i
  · rw [if_pos h0, if_pos h2]
    have hj : i.toNat < rs.length := by omega
    exact ⟨rs[i.toNat], List.getElem_mem hj, by show rs[i.toNat]? = _; exact List.getElem?_eq_getElem hj⟩
  · rw [if_neg h0, if_pos h1]
    have hj : ((rs.length : Int) + i).toNat < rs.length := by omega
    refine ⟨rs[((rs.length : Int) + i).toNat], List.getElem_mem hj, ?_⟩
    first
      | exact List.getElem?_eq_getElem hj
      | (show rs[(i + rs.length).toNat]? = _; rw [Int.add_comm]; exact List.getElem?_eq_getElem hj)
theorem cutV_tail (x : V) (xs : List V) : cutV (x :: xs) (some 1) none = xs := by
  unfold cutV
  have e : HT.sIx (x :: xs).length 0 (some 1) = 1 := by
    unfold HT.sIx
    simp
  have e2 : HT.sIx (x :: xs).length (x :: xs).length none = (x :: xs).length := rfl
  rw [e, e2, List.drop_one, List.tail_cons, List.length_cons, Nat.add_sub_cancel, List.take_length]
/-- a rule's own words: the promise of a def without defaults -/
abbrev rawS (sp : Sp) : Sp := fun vs H Q E => sp (vs ++ []) H Q E
end Lf

set_option Elab.async false
set_option linter.all false
set_option maxRecDepth 100000
set_option maxHeartbeats 4000000
/-! set of a tuple of ints, sorted of a set of ints of any number, sorted of a list of ints. -/
namespace Lf
open PySem PySem.Spec PyProof.Rows L2
section
variable {P : Program} {w : World} {A : Around} {E : Value → Shared → Prop} {s : Shared} {a : Addr}
theorem sorted_setA {S : Int → Bool} {n : Nat} {Q : Value → Shared → Prop} (R : SetR w s.heap a S n) (hh : A.handled = none)
    (hQ : ∀ s' p (out : Array Value) (c : Nat) (ns : List Int), (∀ b o, s.heap.get? b = some o → s'.heap.get? b = some o) → s'.gens = s.gens → s'.os = s.os → s.heap.objs.size ≤ p →
      s'.heap.get? p = some (seqObj "list" out c) → IntsAre out.toList ns → ns.Pairwise (· < ·) → (∀ k, k ∈ ns ↔ S k = true) → ns.length = n → Q (.ref p) s') :
    wpAny (model P w) A (call (.builtin "sorted") [.ref a]) Q E s := by
  obtain ⟨o, es, ep, t, ho, hex, hd, g, nd, hm, hb, hf, hn, hr, hl⟩ := R
  refine Calls.call_function_entry kind_sorted plain_sorted entry_sorted (args_sorted1 _) ?_
  unfold Builtin.«sorted»
  refine wpAny_bind (m := checkCount "sorted" 1 1 _) (wpAny_pure ?_)
  refine wpAny_bind (collect_set (A := A.in1) hh ⟨o, ho, hex.1, hd⟩ hf hb hr hl fun s1 vs k1 hz g1 o1 pm => ?_)
  have hvl : vs.length = n := by rw [pm.length_eq, List.length_map, Array.length_toList]; exact hn
  have hI : IntsAre vs (vs.map Builtin.Re.reRawOf) := ints_of vs fun v hv => by
    obtain ⟨e, he, q⟩ := List.mem_map.mp (pm.mem_iff.mp hv)
    obtain ⟨k, tk, h1, _⟩ := g e he
    exact ⟨k, tk, by rw [← q]; exact h1⟩
  have pk : (vs.map Builtin.Re.reRawOf).Perm (es.toList.map keyOf) := by
    have q := pm.map Builtin.Re.reRawOf
    rw [List.map_map] at q
    exact q
  have hbn : n < 4096 := by rw [← hn]; exact hb
  refine wpAny_bind (wpAny_newList ?_ (by rw [hvl, sizeLine_eq]; omega))
  have hoL : (s1.heap.push (seqObj "list" vs.toArray 0)).get? s1.heap.objs.size = some (seqObj "list" vs.toArray 0) := Heap.get?_push_size _ rfl
  refine wpAny_bind (wpAny_holding (wpAny_call_entry slot_list_sort ⟨_, hoL, rfl⟩ entry_list_sort
    (SrtO.list_sort_ord SrtO.swo_int hoL (by rw [hvl, sizeLine_eq]; omega) (fun h2 => SrtO.ints_sortable hI h2) fun out b1 b2 => ⟨_, rfl, ?_⟩) (args_list_sort _)))
  obtain ⟨a1, a2, a3⟩ := SrtO.ints_out hI b1 b2
  obtain ⟨c, hc⟩ := sortedHeap_at (vs := vs) (out := out.toArray) hoL
  have pn : (out.map SrtO.iv).Perm (es.toList.map keyOf) := a2.trans pk
  refine wpAny_pure ⟨_, rfl, hQ _ s1.heap.objs.size out.toArray c (out.map SrtO.iv) (fun b u e => ?_) g1 o1 hz hc (by simpa using a1) (lt_of_le_nodup _ a3 (pn.nodup_iff.mpr nd)) (fun k => by rw [pn.mem_iff, ← hm k]) ?_⟩
  · have q := k1 b u e
    have hlt := Heap.lt_size q
    show (sortedHeap (s1.heap.push (seqObj "list" vs.toArray 0)) s1.heap.objs.size vs out.toArray).get? b = some u
    rw [sortedHeap_old (Nat.ne_of_lt hlt) (by rw [size_push']; exact Nat.lt_succ_of_lt hlt)]
    exact Heap.get?_push_of_some _ q
  · rw [pn.length_eq, List.length_map, Array.length_toList]; exact hn
end
section
variable {X : Cx}
/-- sorted(set) -/
def rSortedSetA (w : World) : List V → Hp → VK → Prop := fun vs H Q => ∃ (a : Addr) (S : Int → Bool) (n : Nat), vs = [V.ref a] ∧ H a = some (SetO w a S n) ∧
  ∀ (ns : List Int) (p : Addr) (H' : Hp), ns.Pairwise (· < ·) → (∀ k : Int, k ∈ ns ↔ S k = true) → ns.length = n → H p = none → Same H H' → H' p = some (.lst (ns.map V.int)) → Q (.ref p) H'
theorem cr_sortedSetA (hc : X.calm = true) : CallR X (.builtin "sorted") (rSortedSetA X.w) := by
  intro pins s σ H vs us Q I r h
  obtain ⟨a, S, n, rfl, ha, q⟩ := h
  have R := setO_get I ha
  have hbn : n < 4096 := by
    obtain ⟨o, es, ep, t, ho, hex, hd, g, nd, hm, hb, hf, hn, hr, hl⟩ := R
    rw [← hn]; exact hb
  rw [Vals.ref1 r]
  refine sorted_setA R (I.ok.hd hc) fun s' p out c ns k g o hp hg hi hs hm hl => ?_
  have hlen : (ns.map V.int).length ≤ sizeLine := by rw [List.length_map, hl, sizeLine_eq]; omega
  have hn : H p = none := I.hok.fresh hp
  have J : L2.Inv X pins σ (upd H p (.lst (ns.map V.int))) { s with heap := s'.heap, gens := s'.gens, drawn := s'.drawn, toks := s'.toks } :=
    I.call (ch := []) (Un.laid k hp hn) (I.hok.laid k hp ⟨hlen, out.toList, c, vals_of_ints hi, hg⟩) (by rw [g]; exact I.bare) (fun _ z => nomatch z)
  have e : s' = { s with heap := s'.heap, gens := s'.gens, drawn := s'.drawn, toks := s'.toks } := by
    cases s'
    cases s
    cases o
    rfl
  rw [e]
  exact ⟨.ref p, _, J, rfl, q ns p _ hs hm hl hn (Same.new hn) upd_same⟩
/-- set(tuple of ints) -/
def rSetTI (K : PySem.W.Frag) (w : World) : List V → Hp → VK → Prop := fun xs H Q => ∃ (p : Addr) (ns : List Int), xs = [V.ref p] ∧ SqT K H p (ns.map V.int) ∧ ns.length ≤ 4000 ∧
  ∀ (q : Addr) (c : Nat) (H' : Hp), H q = none → Same H H' → H' q = some (SetO w q (fun j => decide (j ∈ ns)) c) → c ≤ ns.length → Q (.ref q) H'
theorem cr_setTI (hc : X.calm = true) : CallR X (.type "set") (rSetTI X.K X.w) := by
  intro pins s σ H xs us Q I r h
  obtain ⟨p, ns, rfl, hp, hl, q⟩ := h
  rw [Vals.ref1 r]
  obtain ⟨its, rv, ht, hz⟩ := I.tuple hp
  have hi : IntsAre its.toArray.toList ns := ints_of_vals rv
  refine call_set_tupI ns (I.ok.hd hc) (show s.heap.IsTuple p its.toArray from ht) hi (by unfold scanBound; omega) fun h' tk c R1 hcn k => ?_
  have hn : H s.heap.objs.size = none := I.hok.fresh (Nat.le_refl _)
  refine ⟨.ref s.heap.objs.size, _, I.laid (t' := tk) k (Nat.le_refl _) (setO_new R1), rfl, q _ c _ hn (Same.new hn) upd_same hcn⟩
end
/-! set(list of ints): few different ones -/
theorem sub_len : ∀ (ks ns : List Int), ks.Nodup → (∀ k ∈ ks, k ∈ ns) → ks.length ≤ ns.length
  | [], _, _, _ => Nat.zero_le _
  | k :: ks, ns, nd, h => by
    obtain ⟨h1, h2⟩ := List.nodup_cons.mp nd
    have m := h k (List.mem_cons_self ..)
    have l := sub_len ks (ns.erase k) h2 fun x hx => (List.mem_erase_of_ne (fun (e : x = k) => h1 (by rw [← e]; exact hx))).mpr (h x (List.mem_cons_of_mem _ hx))
    rw [List.length_erase_of_mem m] at l
    have := List.length_pos_of_mem m
    rw [List.length_cons]
    omega
def FewI (ns : List Int) : Prop := ∀ ks : List Int, ks.Nodup → (∀ k ∈ ks, k ∈ ns) → ks.length + 1 < scanBound
theorem FewI.of_len {ns : List Int} (h : ns.length ≤ 4000) : FewI ns := fun ks nd hk => by
  have := sub_len ks ns nd hk
  unfold scanBound
  omega
theorem FewI.of_lt {ns : List Int} (h : ∀ k ∈ ns, 0 ≤ k ∧ k < 4000) : FewI ns := fun ks nd hk => by
  have := sub_len ks ((List.range 4000).map fun (i : Nat) => (i : Int)) nd fun k hx => by
    obtain ⟨a, b⟩ := h k (hk k hx)
    exact List.mem_map.mpr ⟨k.toNat, List.mem_range.mpr (by omega), by omega⟩
  rw [List.length_map, List.length_range] at this
  unfold scanBound
  omega
theorem SetR.few {w : World} {h : Heap} {a : Addr} {S : Int → Bool} {n : Nat} {ns : List Int} (R : SetR w h a S n) (hS : ∀ k, S k = true → k ∈ ns) (f : FewI ns) : n + 1 < scanBound := by
  obtain ⟨o, es, ep, t, ho, hex, hd, g, nd, hm, hb, hf, hn, hr, hl⟩ := R
  have := f _ nd fun k hk => hS k ((hm k).mpr hk)
  rw [List.length_map, Array.length_toList, hn] at this
  exact this
section
variable {P : Program} {w : World} {A : Around} {E : Value → Shared → Prop} {s : Shared}
theorem set_fill {I : Addr} {fp wr : List Addr} {G : Array GenState → Array GenState → Prop} {n : Nat} {Pv : Nat → Value → Prop} {St : Nat → Shared → Prop} {R : Result → Shared → Prop}
    (W : WalksS P w A.in1 I fp wr G n Pv St) (S : Addr) (hSf : S ∉ fp) (ns : List Int) (hn : n = ns.length) (few : FewI ns) (hval : ∀ i v, Pv i v → ∃ k t, ns[i]? = some k ∧ v = .int k t) :
    ∀ (k i : Nat) (s : Shared), n - i = k → i ≤ n → St i s → (∃ c, c ≤ i ∧ SetR w s.heap S (fun j => decide (j ∈ ns.take i)) c) →
      (∀ s' c, Moved (S :: wr) G s s' → c ≤ n → SetR w s'.heap S (fun j => decide (j ∈ ns)) c → R (.ok (.ret .none)) s') →
      codeAny (model P w) A (.builtin "set.update.loop" ⟨[.ref S, .ref I], []⟩) R s := by
  have hSw : S ∉ wr := fun h => hSf (W.sub _ h)
  have up : ∀ b ∈ wr, b ∈ S :: wr := fun b hb => List.mem_cons_of_mem _ hb
  intro k
  induction k with
  | zero =>
    intro i s hk' hi hst ⟨c, hc, hS⟩ hR
    obtain rfl : i = n := by omega
    refine codeAny_builtin F.entry_set_update_loop ?_; rw [Around.under_plainId F.plain_set_update_loop _]
    refine wpAny_bind (m := pyNext (.ref I)) (W.done s _ _ hst fun s' hm => wpAny_pure (hR s' c (hm.mono up) hc ?_))
    have e : ns.take i = ns := List.take_of_length_le (by omega)
    rw [e] at hS
    exact hS.at fun o z => hm.heap S o hSw z
  | succ k ih =>
    intro i s hk' hi hst ⟨c, hc, hS⟩ hR
    have hlt : i < n := by omega
    refine codeAny_builtin F.entry_set_update_loop ?_; rw [Around.under_plainId F.plain_set_update_loop _]
    refine wpAny_bind (m := pyNext (.ref I)) (W.item i s _ _ hlt hst fun v s' hP hst' hm => ?_)
    obtain ⟨z, t, hz, rfl⟩ := hval i v hP
    have hS1 : SetR w s'.heap S (fun j => decide (j ∈ ns.take i)) c := hS.at fun o e => hm.heap S o hSw e
    refine wpAny_bind (m := holding [Value.int z t] (setAdd S (.int z t))) (wpAny_holding ?_); unfold setAdd; refine wpAny_holding ?_
    refine wpAny_bind ((intKind P w).pyHash (k := z) (intKind_is _ _ _ _) (setR_add_hashed (s := { s' with toks := s'.toks + 1 }) hS1 ?_ fun h' hsb hS2 => ?_))
    · exact SetR.few hS1 (fun k hk => List.mem_of_mem_take (of_decide_eq_true hk)) few
    have hS3 : SetR w h' S (fun j => decide (j ∈ ns.take (i + 1))) (if decide (z ∈ ns.take i) = true then c else c + 1) := hS2.congr fun j => by
      rw [List.take_add_one, hz] <;> simp [List.mem_append]
    refine wpAny_pure ⟨plainId_quiet F.plain_set_update_loop _, ih (i + 1) _ (by omega) hlt (W.frame _ s' _ _ hst' (Nat.le_succ _) fun b hb o e => ?_) ⟨_, by split <;> omega, hS3⟩ fun s2 c2 hm2 hc2 hS4 => ?_⟩
    · rw [hsb.2 b (fun q : b = S => hSf (q ▸ hb))]; exact e
    · refine hR s2 c2 (Moved.trans W.gtrans ((hm.mono up).then_heap (Nat.le_succ _) fun b o hb e => ?_) hm2) hc2 hS4
      rw [hsb.2 b (fun q : b = S => hb (q ▸ List.mem_cons_self))]; exact e
/-- a new set, empty -/
def set0 (w : World) : Obj := { cls := .type "set", dict := none, data := .set #[] 0 (.fresh 0 0 (!w.params.followText "set-order")) }
theorem call_setL {l : Addr} {items : Array Value} (ns : List Int) {Q : Value → Shared → Prop} (hh : A.handled = none) (hl : s.heap.IsList l items) (hit : IntsAre items.toList ns) (few : FewI ns)
    (h : ∀ (h' : Heap) (tk c : Nat), SetR w h' s.heap.objs.size (fun j => decide (j ∈ ns)) c → c ≤ ns.length → (∀ b o, s.heap.get? b = some o → h'.get? b = some o) → Q (.ref s.heap.objs.size) { s with heap := h', toks := tk }) :
    wpAny (model P w) A (call (.type "set") [.ref l]) Q E s := by
  have isz : items.size = ns.length := Array.length_toList ▸ IntsAre.length hit
  obtain ⟨c, tl, hmro⟩ := F.called_set.mro
  have hmade := F.called_set.made; have hsub := F.called_set.sub
  refine wpAny_call (codeAny_of_tree (show wpAny _ _ (callAny (.type "set") _) _ _ _ from ?_))
  refine wpAny_pure ⟨Code.quiet_builtin _ (by decide +kernel), codeAny_builtin F.entry_type_call ?_⟩; rw [Around.under_plain (weight_type_call_type "set" [.ref l] []) rfl]
  have h1 := F.called_set.notType; have h2 := F.called_set.canCreate; have hct := F.typeCall_set_1 (.ref l)
  (repeat (any_goals (first | assumption | wp_step)))
  refine codeAny_mono (code_set_led1 (.ref l) (E := E) (Q₁ := fun obj s₁ => obj = .ref s.heap.objs.size ∧ s₁ = { s with heap := s.heap.push (set0 w) }) ⟨rfl, rfl⟩) fun r s₁ hr => ?_
  cases r with
  | error e => exact hr
  | ok fl =>
    cases fl with
    | next => exact hr
    | brk => exact hr
    | cont => exact hr
    | ret obj =>
      obtain ⟨rfl, rfl⟩ := hr
      have hS : (s.heap.push (set0 w)).get? s.heap.objs.size = some (set0 w) := Heap.get?_push_size _ rfl
      have hT : Shared.TypeIs { s with heap := s.heap.push (set0 w) } (.ref s.heap.objs.size) "set" := ⟨_, hS, rfl⟩
      have hli := F.called_set.init.lookup; have hbi := F.called_set.init.bind (.ref s.heap.objs.size)
      (repeat (any_goals (first | assumption | wp_step)))
      refine codeAny_mono (codeAny_call_builtin (R := wants (fun r s₂ => r = .none ∧ ∃ h' tk c, s₂ = { s with heap := h', toks := tk } ∧ SetR w h' s.heap.objs.size (fun j => decide (j ∈ ns)) c ∧ c ≤ ns.length ∧
          (∀ b o, s.heap.get? b = some o → h'.get? b = some o)) E) F.called_set.init.plain F.entry_set_init (check_set_init_1 hT ?_)) fun r₂ s₂ hr₂ => ?_
      · obtain ⟨ol, hol, hcl, nl, hdl⟩ := hl
        obtain ⟨ocls, odict, odata, oslots⟩ := ol
        simp only at hcl hdl
        subst hcl; subst hdl
        have hol' : (s.heap.push (set0 w)).get? l = some { cls := .type "list", dict := odict, data := .seq items nl, slots := oslots } := Heap.get?_push_of_some _ hol
        have hsls := F.sub_list_set; have hslf := F.sub_list_frozenset
        have hne : (Value.type "list" == Value.type "dict") = false := by decide
        have hl1 : (s.heap.push (set0 w)).IsList l items := ⟨_, hol', rfl, nl, rfl⟩
        unfold Builtin.«set.__init__» noKeywords Builtin.Frozenset.updateFrom; generalize hPI : pyIter = PI
        wp_walk
        subst hPI
        refine wpAny_pyIter_list hl1 (wpAny_bind (wpAny_runValue ?_))
        have hlS : l < s.heap.objs.size := Heap.lt_size hol
        have h3 : A.in1.in1.in1.handled = none := by simp [hh]
        have hneI : l ≠ (s.heap.push (set0 w)).objs.size := fun e => Nat.ne_of_lt (Nat.lt_succ_of_lt hlS) (e.trans (Heap.size_push _ _))
        have hSf : s.heap.objs.size ∉ [(s.heap.push (set0 w)).objs.size, l] := by
          rw [Heap.size_push, List.mem_cons, List.mem_singleton]
          exact fun e => e.elim (fun e => Nat.ne_of_lt (Nat.lt_succ_self _) e) fun e => Nat.ne_of_gt hlS e
        have hval : ∀ (i : Nat) (v : Value), items[i]? = some v → ∃ k t, ns[i]? = some k ∧ v = .int k t := fun i v hv => by
          have hi : i < ns.length := isz ▸ (Array.getElem?_eq_some_iff.mp hv).1
          obtain ⟨t, e⟩ := PyProof.Rows.IntsAre.int_at hit i v (by rw [Array.getElem?_toList, hv])
          refine ⟨ns[i], t, List.getElem?_eq_getElem hi, ?_⟩
          rw [e, List.getD_eq_getElem?_getD, List.getElem?_eq_getElem hi, Option.getD_some]
        refine set_fill ((Walks.list h3 _ l hneI items).toS) s.heap.objs.size hSf ns isz few hval (items.size - 0) 0 _ (by omega) (Nat.zero_le _) ⟨⟨_, Heap.get?_push_size _ rfl, rfl, rfl⟩, (hl1.push _)⟩ ?z1 ?z2
        case z1 => exact ⟨0, Nat.le_refl 0, setR_new_at (Heap.get?_push_of_some _ hS)⟩
        case z2 =>
          intro s' c' hm hc' hS'
          obtain ⟨h', g2, d', tk', os'⟩ := s'
          have eg : g2 = s.gens := hm.gens; have ed : d' = s.drawn := hm.drawn; have eo : os' = s.os := hm.os
          subst eg; subst ed; subst eo
          rw [isz] at hc'
          refine wpAny_pure (show wpAny _ _ (ret Value.none) _ _ _ from wpAny_pure ⟨rfl, h', tk', c', rfl, hS', hc', fun b o e => ?_⟩)
          have hb0 : b < s.heap.objs.size := Heap.lt_size e
          refine hm.heap b o ?_ (Heap.get?_push_of_some _ (Heap.get?_push_of_some _ e))
          rw [Heap.size_push, List.mem_cons, List.mem_singleton]
          exact fun e => e.elim (fun e => Nat.ne_of_lt hb0 e) fun e => Nat.ne_of_lt (Nat.lt_succ_of_lt hb0) e
      · cases r₂ with
        | error e => exact hr₂
        | ok fl₂ =>
          cases fl₂ with
          | next => exact hr₂.elim
          | brk => exact hr₂.elim
          | cont => exact hr₂.elim
          | ret r =>
            obtain ⟨rfl, h', tk, c', rfl, hS', hc', hk'⟩ := hr₂
            (repeat (any_goals (first | assumption | wp_step)))
            exact h h' tk c' hS' hc' hk'
end
section
variable {X : Cx}
def rSetLI (K : PySem.W.Frag) (w : World) : List V → Hp → VK → Prop := fun xs H Q => ∃ (p : Addr) (ns : List Int), xs = [V.ref p] ∧ SqL K H p (ns.map V.int) ∧ FewI ns ∧
  ∀ (q : Addr) (c : Nat) (H' : Hp), H q = none → Same H H' → H' q = some (SetO w q (fun j => decide (j ∈ ns)) c) → c ≤ ns.length → Q (.ref q) H'
theorem cr_setLI (hc : X.calm = true) : CallR X (.type "set") (rSetLI X.K X.w) := by
  intro pins s σ H xs us Q I r h
  obtain ⟨p, ns, rfl, hp, hl, q⟩ := h
  rw [Vals.ref1 r]
  obtain ⟨its, rv, ht, hz⟩ := I.list hp
  have hi : IntsAre its.toArray.toList ns := ints_of_vals rv
  refine call_setL ns (I.ok.hd hc) ht.isList hi hl fun h' tk c R1 hcn k => ?_
  have hn : H s.heap.objs.size = none := I.hok.fresh (Nat.le_refl _)
  refine ⟨.ref s.heap.objs.size, _, I.laid (t' := tk) k (Nat.le_refl _) (setO_new R1), rfl, q _ c _ hn (Same.new hn) upd_same hcn⟩
end
section
variable {X : Cx}
/-- sorted(list of ints) -/
def rSortedIS (K : PySem.W.Frag) : List V → Hp → VK → Prop := fun vs H Q => ∃ (a : Addr) (ns : List Int), vs = [V.ref a] ∧ SqL K H a (ns.map V.int) ∧
  ∀ (ns' : List Int) (p : Addr) (H' : Hp), ns'.Perm ns → ns'.Pairwise (· ≤ ·) → H p = none → Same H H' → H' p = some (.lst (ns'.map V.int)) → Q (.ref p) H'
theorem cr_sortedIS : CallR X (.builtin "sorted") (rSortedIS X.K) := by
  intro pins s σ H vs us Q I r h
  obtain ⟨a, ns, h1, h2, h3⟩ := h
  exact cr_sortedI pins s σ H vs us Q I r ⟨a, ns, h1, h2, fun ns' p b1 b2 b3 => h3 ns' p _ b1 b2 b3 (Same.new b3) upd_same⟩
end
/-! ### lists that rise: one for each set -/
theorem rise_eq : ∀ {xs ys : List Int}, xs.Pairwise (· < ·) → ys.Pairwise (· < ·) → (∀ k, k ∈ xs ↔ k ∈ ys) → xs = ys
  | [], [], _, _, _ => rfl
  | [], y :: ys, _, _, h => absurd ((h y).mpr (List.mem_cons_self ..)) (by simp)
  | x :: xs, [], _, _, h => absurd ((h x).mp (List.mem_cons_self ..)) (by simp)
  | x :: xs, y :: ys, h1, h2, h => by
    obtain ⟨a1, a2⟩ := List.pairwise_cons.mp h1
    obtain ⟨b1, b2⟩ := List.pairwise_cons.mp h2
    have exy : x = y := by
      rcases List.mem_cons.mp ((h x).mp (List.mem_cons_self ..)) with e | e
      · exact e
      · rcases List.mem_cons.mp ((h y).mpr (List.mem_cons_self ..)) with e' | e'
        · exact e'.symm
        · have := b1 x e
          have := a1 y e'
          omega
    subst exy
    have ht : ∀ k, k ∈ xs ↔ k ∈ ys := fun k => by
      constructor
      · intro hk
        rcases List.mem_cons.mp ((h k).mp (List.mem_cons_of_mem _ hk)) with e | e
        · have := a1 k hk
          omega
        · exact e
      · intro hk
        rcases List.mem_cons.mp ((h k).mpr (List.mem_cons_of_mem _ hk)) with e | e
        · have := b1 k hk
          omega
        · exact e
    rw [rise_eq a2 b2 ht]
end Lf

set_option Elab.async false
set_option linter.all false
set_option maxRecDepth 100000
set_option maxHeartbeats 4000000
/-! Rules of our own: a def with *values and one keyword-only default; classes called with a star and a keyword; own operators. -/
namespace Lf
open PySem PySem.Spec PyProof.Rows L2 StX

/-! ### f(*e, k = v) -/
section
variable {M : Model} {A : Around} {E : Value → Shared → Prop} {s : Shared}
theorem ks_loneKw {f : Value} {x : Sem Value} {pos : Pos} {kws : List (Option Str × Sem Value)} {Q : Args → Shared → Prop} (hall : kws.all (·.1.isSome) = true)
    (h : wpAny M A x (fun v s₁ => wpAny M A (evalAll (kws.map (·.2))) (fun ks s₂ => PySem.W.StarOf M A E v (fun vs s₃ => Q ⟨vs, (kws.filterMap (·.1)).zip ks⟩ s₃) s₂) E s₁) E s) :
    wpAny M A (evalArgs f true [(true, (do let v ← x; standAt pos; pure v))] kws) Q E s := by
  unfold evalArgs
  refine wpAny_bind (wpAny_bind (wpAny_mono h (fun v s₁ h₁ => wpAny_bind (wpAny_standAt (wpAny_pure ?_))) fun _ _ x => x))
  refine wpAny_holding ?_
  simp only [hall, if_true]
  refine wpAny_bind (wpAny_mono h₁ (fun ks s₂ h₂ => ?_) fun _ _ x => x)
  unfold PySem.W.StarOf at h₂
  refine wpAny_bind (wpAny_bind (wpAny_mono h₂ (fun b s₃ h₃ => ?_) fun _ _ x => x))
  obtain ⟨rfl, h₃⟩ := h₃
  simp only [Bool.false_eq_true, if_false]
  exact wpAny_holding (wpAny_mono h₃ (fun vs s₄ h₄ => (wpAny_pure h₄ : wpAny M A (pure (⟨vs, (kws.filterMap (·.1)).zip ks⟩ : Args)) Q E s₄)) fun _ _ x => x)
theorem ks_callKw {f : Value} {first : List Value} {pos : Pos} {Q : Value → Shared → Prop} {P : Heap → Prop} {args : List (Bool × Sem Value)} {kws : List (Option Str × Sem Value)} (hst : args.any (·.1) = true)
    (hk : ∀ h, P h → ∃ k, (k = Keeper.frame ∨ k = Keeper.machine ∨ k = Keeper.boundFrame) ∧ PySem.W.Looks M h (keeperOf f) k)
    (h : wpAny M A (evalArgs f true args kws) (fun a s₁ => P s₁.heap ∧ wpAny M A (call f (first ++ a.pos) a.kw) Q E s₁) E s) : wpAny M A (callWith pos f first args kws) Q E s := by
  unfold callWith
  refine wpAny_bind (wpAny_holding (wpAny_mono h (fun a s₁ h₁ => wpAny_bind (wpAny_standAt ?_)) fun _ _ x => x))
  obtain ⟨k, hk', L⟩ := hk _ h₁.1
  simp only [hst, Bool.true_or]
  refine wpAny_bind (L.here ?_)
  have tail : ∀ {t : Sem Value}, wpAny M A t Q E s₁ → wpAny M A (t >>= fun r => holding [r] point >>= fun _ => pure r) Q E s₁ :=
    fun ht => wpAny_bind (wpAny_mono ht (fun r s₂ hr => wpAny_bind (wpAny_holding (wpAny_point (wpAny_pure hr)))) fun _ _ x => x)
  have marked (mk : Value) : wpAny M A (callMarked mk f (first ++ a.pos) a.kw) Q E s₁ := by unfold callMarked; exact Calls.wpAny_keep h₁.2
  rcases hk' with rfl | rfl | rfl <;> dsimp only <;> first | exact tail (marked _) | exact tail (wpAny_operating h₁.2)
end

/-! ### a def with a star parameter and a keyword-only one -/
def BV1 (x qual : Str) (params : Arguments) (body : List Stmt) (scope : Scope) (p1 kn pv : Str) : Prop :=
  (∀ (D : Addr) (doc pm : Value) (an : Option Addr) (cdv ct u kv : Value) (rest : List Value), ∃ (β γ : Type) (k1 : Option Value → Sem β) (k2 : β → Sem γ) (k3 : γ → Sem (List (Str × Value))) (a : β),
    bindArgs (PySem.W.fnOf x qual params body scope .none (.ref D) doc pm an cdv ct) ⟨u :: rest, []⟩ = ((nsGet D kn >>= k1) >>= k2) >>= k3 ∧ k1 (some kv) = pure a ∧ (k2 a >>= k3) = (newTuple rest >>= fun t => pure [(p1, u), (kn, kv), (pv, t)])) ∧
  ∀ (D : Addr) (doc pm : Value) (an : Option Addr) (cdv ct u b : Value) (rest : List Value),
    bindArgs (PySem.W.fnOf x qual params body scope .none (.ref D) doc pm an cdv ct) ⟨u :: rest, [(kn, b)]⟩ = (newTuple rest >>= fun t => pure [(p1, u), (kn, b), (pv, t)])
/-- a promise of a call with one keyword -/
def FnRK (P : Program) (w : World) (K : PySem.W.Frag) (mg : Str → Option Value) (base : Heap) (CX : CXT) (k : Nat) (f : Addr) (kn : Str) (sp : V → Sp) : Prop :=
  ∀ (A : Around) (outer : List Env) (s : Shared) (H : Hp) (us : List Value) (vs : List V) (z : V) (u : Value) (Q : VK) (E : XK), Room k A → Env0 P w K mg base A outer s H → Vals vs us → RelV z u → sp z vs H Q E →
    codeAny (model P w) A (.call (.ref f) ⟨us, [(kn, u)]⟩) (CR CX outer P w H s Q E) s
/-- the promise of such a def from that of its body: the first value, the keyword's, the tuple of the others -/
def stS (sp : Sp) (z : V) : Sp := fun vs H Q E => ∃ v rest, vs = v :: rest ∧ rest.length ≤ sizeLine ∧ ∀ p H', H p = none → Same H H' → H' p = some (.tup rest) → sp [v, z, .ref p] H' Q E
section
variable {CX : CXT} {P : Program} {w : World} {K : PySem.W.Frag} {mg : Str → Option Value} {base : Heap} {k : Nat} {f : Addr} {x qual p1 kn pv : Str} {params : Arguments} {body : List Stmt} {scope : Scope} {fd : FuncData} {N : List Str} {sp : Sp} {dk : V}
theorem newTup_run {A A' : Around} {outer : List Env} {s : Shared} {H : Hp} {E : XK} {G : List V → Hp → Prop} {Ex : Value → Shared → Prop} {Q : List (Str × Value) → Shared → Prop} {v z : V} {u kv : Value} {u2 : List Value} {rest : List V} (hCX : CXUp CX) (e0 : Env0 P w K mg base A outer s H)
    (h : ∀ (s2 : Shared) (H2 : Hp) (vs : List V) (us : List Value), Env0 P w K mg base A outer s2 H2 → Un (frs outer) [] H H2 s.heap s2.heap → s2.os = s.os → (∀ e s', CX outer H2 s2 E e s' → CX outer H s E e s') → Vals vs us → vs.length = [p1, kn, pv].length → G vs H2 → Q ([p1, kn, pv].zip us) s2)
    (ru : RelV v u) (rk : RelV z kv) (r2 : Vals rest u2) (hz : rest.length ≤ sizeLine) (hG : ∀ p, H p = none → G [v, z, .ref p] (upd H p (.tup rest))) :
    wpAny (model P w) A' (newTuple u2 >>= fun t => pure [(p1, u), (kn, kv), (pv, t)]) Q Ex s := by
  have hn : H s.heap.objs.size = Option.none := e0.hok.fresh (Nat.le_refl _)
  have hl2 : u2.length ≤ sizeLine := by rw [← r2.length]; exact hz
  refine wpAny_bind (wpAny_newTuple (wpAny_pure ?_) hl2)
  have new : ObjOk P w (upd H s.heap.objs.size (.tup rest)) (s.heap.push ({ cls := .type "tuple", data := .seq u2.toArray } : Obj)) s.heap.objs.size (.tup rest) := ⟨hz, u2, r2, ⟨_, Heap.get?_push_size _ rfl, rfl, _, rfl⟩⟩
  have un := un_laid (fs := frs outer) (s := s) (o := ({ cls := .type "tuple", data := .seq u2.toArray } : Obj)) (u := .tup rest) hn
  exact h _ _ [v, z, V.ref s.heap.objs.size] [u, kv, Value.ref s.heap.objs.size] (env0_laid e0 new) un rfl (fun e s' => hCX outer s H _ _ E e s' un (fun b o q => Heap.get?_push_of_some _ q) rfl) (.cons ru (.cons rk (.cons rfl .nil))) rfl (hG _ hn)
theorem fn_starK (F : FunD K x qual params body scope [] [(kn, dk)] f fd) (B : BV1 x qual params body scope p1 kn pv) (S : FnScope N [p1, kn, pv] scope) (hCX : CXUp CX)
    (hbody : ∀ (cdv : Value) (A : Around) (outer : List Env) (s : Shared) (H : Hp) (vs : List V) (Q : VK) (E : XK), Room k (A.deeper (envOfC qual scope s.heap.objs.size f cdv)) → sp vs H Q E →
      ∃ t, PSs (cxOf CX P w K mg base N qual scope f cdv A outer s H E) body t ∧ t { nx := fun _ H' => Q .non H', rt := Q } (start N vs) H) :
    FnR P w K mg base CX (k + 1) f (stS sp dk) ∧ FnRK P w K mg base CX (k + 1) f kn (stS sp) := by
  obtain ⟨oc, od, dV, kV, doc, pm, an, cdv, ct, osl, rfl, lk, hcd, hD, hK⟩ := F.ex
  obtain rfl : dV = .none := by
    rcases hD with ⟨_, e⟩ | ⟨e, _⟩
    · exact e
    · exact absurd rfl e
  obtain ⟨D, rfl, hq⟩ : ∃ D : Addr, kV = .ref D ∧ ∀ q ∈ [(kn, dk)], ∃ u, PySem.W.nsIn K D q.1 = some (some u) ∧ RelV q.2 u := by
    rcases hK with e | e
    · exact absurd e (by simp)
    · exact e
  obtain ⟨kv, hkv, rkv⟩ := hq (kn, dk) (List.mem_cons_self ..)
  constructor
  · intro A outer s H us vs Q E hr e0 r hsp
    obtain ⟨v, rest, rfl, hz, hq⟩ := hsp
    cases r with
    | cons ru r2 =>
      rename_i u u2
      refine run_bnd lk hcd S hr e0 (G := fun xs H2 => sp xs H2 Q E) (fun A' Ex Q' h => ?_) fun s2 H2 xs hs hr' => hbody cdv A outer s2 H2 xs Q E hr' hs
      obtain ⟨β, γ, k1, k2, k3, a, e1, e2, e3⟩ := B.1 D doc pm an cdv ct u kv u2
      have KX : K.In s.heap := e0.mod.kin.keeps fun b o e => (e0.bs b o e).1
      rw [e1, bind_assoc]
      have goal : wpAny (model P w) A' (k2 a >>= k3) Q' Ex s := by
        rw [e3]
        exact newTup_run (p1 := p1) (kn := kn) (pv := pv) hCX e0 h ru rkv r2 hz fun p hp => hq p _ hp (Same.new hp) upd_same
      refine wpAny_bind (wpAny_bind ((PySem.W.looks_nsIn KX hkv).here ?_))
      rw [e2]
      exact wpAny_pure goal
  · intro A outer s H us vs z zu Q E hr e0 r rz hsp
    obtain ⟨v, rest, rfl, hz, hq⟩ := hsp
    cases r with
    | cons ru r2 =>
      rename_i u u2
      refine run_bnd lk hcd S hr e0 (G := fun xs H2 => sp xs H2 Q E) (fun A' Ex Q' h => ?_) fun s2 H2 xs hs hr' => hbody cdv A outer s2 H2 xs Q E hr' hs
      rw [B.2 D doc pm an cdv ct u zu u2]
      exact newTup_run (p1 := p1) (kn := kn) (pv := pv) hCX e0 h ru rz r2 hz fun p hp => hq p _ hp (Same.new hp) upd_same
end

/-! ### a class called: CallR of it; with a star; with a star and keywords; from a slot -/
section
variable {X : Cx} {CX : CXT} {k i : Nat} {f C : Addr} {sp : Sp} {spk : V → Sp} {E : XK} {x kn : Str} {e fe : Expr} {es : List Expr} {te tf : TE} {t tk : TA} {p pos sp_ : Pos} {kws : List Keyword} {ks : List Str} {r : List V → Hp → VK → Prop} {rk : List V → List V → Hp → VK → Prop}
theorem mk_call (M : Mk X.K C f) (F : FnR X.prog X.w X.K X.mg X.base CX k f sp) (hr : Room (k + 1) X.A) (hx : Passes CX X E) :
    CallR X (.ref C) (fun vs H Q => ∀ x dx, H x = none → H dx = none → dx ≠ x → sp (V.ref x :: vs) (upd (upd H dx (.own x)) x (.ins C dx [])) (fun v H2 => v = .non ∧ Q (.ref x) H2) E) :=
  fun pins s σ H vs us Q I r h => run_makeR M F hr hx I r h
theorem mk_callK (M : Mk X.K C f) (F : FnRK X.prog X.w X.K X.mg X.base CX k f kn spk) (hr : Room (k + 1) X.A) (hx : Passes CX X E) :
    CallRK X (.ref C) [kn] (fun vs zs H Q => ∃ z, zs = [z] ∧ ∀ x dx, H x = none → H dx = none → dx ≠ x → spk z (V.ref x :: vs) (upd (upd H dx (.own x)) x (.ins C dx [])) (fun v H2 => v = .non ∧ Q (.ref x) H2) E) := by
  intro pins s σ H vs zs us ws Q I r rz h
  obtain ⟨z, rfl, h⟩ := h
  obtain ⟨u, rfl, ru⟩ : ∃ u, ws = [u] ∧ RelV z u := by
    cases rz with
    | cons a b => cases b; exact ⟨_, rfl, a⟩
  have hq := h (s.heap.objs.size + 1) s.heap.objs.size (I.hok.fresh (Nat.le_succ _)) (I.hok.fresh (Nat.le_refl _)) (Nat.ne_of_lt (Nat.lt_succ_self _))
  have I2 := Inv.made (C := C) I
  have r2 : Vals (V.ref (s.heap.objs.size + 1) :: vs) (Value.ref (s.heap.objs.size + 1) :: us) := .cons rfl r
  refine wpAny_call (make_map (f := f) I.kIn M.makes M.init (beq_iff_eq.mp M.fn) (codeAny_mono (F _ X.stack _ _ (Value.ref (s.heap.objs.size + 1) :: us) _ z u _ E (hr.make C us [(kn, u)]) (I2.env0.make C us [(kn, u)]) r2 ru hq) fun r s' hq' => ?_))
  cases r with
  | error e => exact hx pins σ _ _ e s' I2 hq'
  | ok fl =>
    cases fl with
    | ret u =>
      obtain ⟨v, H', I3, rv, ev, q3⟩ := I2.after hq'
      subst ev
      exact ⟨rv, ⟨V.ref (s.heap.objs.size + 1), H', I3, rfl, q3⟩⟩
    | next => exact False.elim hq'
    | brk => exact False.elim hq'
    | cont => exact False.elim hq'
/-- C(e, ..) -/
theorem pe_mkC (hc : CallR X (.ref C) r) (hk : PySem.W.keepIn X.K (.ref C) = true) (hg : Gl X x) (hm : X.mg x = some (.ref C)) (ha : PA X (e :: es) t) (hdb : (x == ("__debug__" : Str)) = false := by decide)
    (he : starEach (e :: es) X.env = (false, eval e X.env) :: starEach es X.env := by rfl) (hpl : (backTo pos (starEach es X.env)).any (·.1) = false := by rfl) : PE X (.Call (.Name x p) (e :: es) [] pos) (tCB r t) := by
  refine ⟨fun pins s σ H Q I h => ?_⟩
  refine wpAny_Call_Name_kw (ld_glob I hg hm ?_ hdb)
  exact PySem.W.callWith_K (h₀ := X.base) I.ok.mod.kin hk (thn (ha.run pos pins s σ H _ I h) fun us s1 ⟨vs, H1, I1, r, q⟩ => ⟨I1.kIn, hc pins s1 σ H1 vs us Q I1 r q⟩) he hpl
theorem pe_mkC0 (hc : CallR X (.ref C) r) (hk : PySem.W.keepIn X.K (.ref C) = true) (hg : Gl X x) (hm : X.mg x = some (.ref C)) (hdb : (x == ("__debug__" : Str)) = false := by decide) : PE X (.Call (.Name x p) [] [] pos) (tCB r tNil) := by
  refine ⟨fun pins s σ H Q I h => ?_⟩
  refine wpAny_Call_Name_kw (ld_glob I hg hm ?_ hdb)
  exact PySem.W.callWith_K0 I.kIn hk (hc pins s σ H [] [] Q I .nil h)
/-- C(*e) -/
def tSt (K : PySem.W.Frag) (r : List V → Hp → VK → Prop) (te : TE) : TE := fun σ H Q => te σ H fun y H1 => ∃ a xs, y = V.ref a ∧ (SqT K H1 a xs ∨ SqL K H1 a xs) ∧ r xs H1 Q
theorem pe_mkS (hc : CallR X (.ref C) r) (hk : PySem.W.keepIn X.K (.ref C) = true) (hg : Gl X x) (hm : X.mg x = some (.ref C)) (he : PE X e te) (hd : (x == ("__debug__" : Str)) = false := by decide)
    (hst : starEach [.Starred e sp_] X.env = [(true, eval e X.env)] := by rfl) : PE X (.Call (.Name x p) [.Starred e sp_] [] pos) (tSt X.K r te) := by
  refine ⟨fun pins s σ H Q I h => ?_⟩
  refine wpAny_Call_Name_kw (ld_glob I hg hm ?_ hd)
  refine PySem.W.callWith_S (h₀ := X.base) I.ok.mod.kin hk (thn (he.run pins s σ H _ I h) fun v s1 ⟨y, H1, I1, ry, a, xs, ey, hxs, q⟩ => ?_) hst
  subst ey
  obtain rfl : v = Value.ref a := ry
  exact star_any I1 hxs fun us s2 I2 rv => ⟨I2.kIn, hc pins s2 σ H1 xs us Q I2 rv q⟩
/-- x(*e), x a slot that holds C -/
def tStL (K : PySem.W.Frag) (i : Nat) (C : Addr) (r : List V → Hp → VK → Prop) (te : TE) : TE := fun σ H Q => σ[i]? = some (some (.ref C)) ∧ te σ H fun y H1 => ∃ a xs, y = V.ref a ∧ (SqT K H1 a xs ∨ SqL K H1 a xs) ∧ r xs H1 Q
theorem pe_mkSL (hc : CallR X (.ref C) r) (hk : PySem.W.keepIn X.K (.ref C) = true) (hN : X.N[i]? = some x) (hv : Vis X.env.scope x) (he : PE X e te) (hdb : (x == ("__debug__" : Str)) = false := by decide) (hcd : (x == ("__classdict__" : Str)) = false := by decide)
    (hst : starEach [.Starred e sp_] X.env = [(true, eval e X.env)] := by rfl) : PE X (.Call (.Name x p) [.Starred e sp_] [] pos) (tStL X.K i C r te) := by
  refine ⟨fun pins s σ H Q I h => ?_⟩
  obtain ⟨hs, ht⟩ := h
  refine wpAny_Call_Name_kw (thn ((pe_var (pos := p) hN hv hdb hcd).run pins s σ H (fun v H1 => v = .ref C ∧ H1 = H) I ⟨.ref C, hs, rfl, rfl⟩) fun u s1 ⟨v, H1, I1, r1, q1⟩ => ?_)
  obtain ⟨rfl, rfl⟩ := q1
  cases r1
  refine PySem.W.callWith_S (h₀ := X.base) I.ok.mod.kin hk (thn (he.run pins s1 σ _ _ I1 ht) fun v s1 ⟨y, H1, I1, ry, a, xs, ey, hxs, q⟩ => ?_) hst
  subst ey
  obtain rfl : v = Value.ref a := ry
  exact star_any I1 hxs fun us s2 I2 rv => ⟨I2.kIn, hc pins s2 σ H1 xs us Q I2 rv q⟩
/-- C(*e, k = v) -/
def tStK (K : PySem.W.Frag) (r : List V → List V → Hp → VK → Prop) (te : TE) (tk : TA) : TE := fun σ H Q => te σ H fun y H1 => tk σ H1 fun zs H2 => ∃ a xs, y = V.ref a ∧ (SqT K H2 a xs ∨ SqL K H2 a xs) ∧ r xs zs H2 Q
theorem pe_mkSK (hc : CallRK X (.ref C) ks rk) (hk : PySem.W.keepIn X.K (.ref C) = true) (hg : Gl X x) (hm : X.mg x = some (.ref C)) (he : PE X e te) (hkw : PK X kws tk) (hd : (x == ("__debug__" : Str)) = false := by decide)
    (hall : (backToKw pos (keywordEach kws X.env)).all (·.1.isSome) = true := by rfl) (hks : (backToKw pos (keywordEach kws X.env)).filterMap (·.1) = ks := by rfl)
    (hst : starEach [.Starred e sp_] X.env = [(true, eval e X.env)] := by rfl) : PE X (.Call (.Name x p) [.Starred e sp_] kws pos) (tStK X.K rk te tk) := by
  refine ⟨fun pins s σ H Q I h => ?_⟩
  refine wpAny_Call_Name_kw (ld_glob I hg hm ?_ hd)
  rw [hst]
  refine ks_callKw rfl (PySem.W.keeps_K hk) (ks_loneKw hall (thn (he.run pins s σ H _ I h) fun v s1 ⟨y, H1, I1, ry, q1⟩ => ?_))
  refine thn (hkw.run pos pins s1 σ H1 _ I1 q1) fun ws s2 ⟨zs, H2, I2, rz, a, xs, ey, hxs, q⟩ => ?_
  subst ey
  obtain rfl : v = Value.ref a := ry
  refine star_any I2 hxs fun us s3 I3 rv => ⟨I3.kIn, ?_⟩
  rw [hks]
  exact hc pins s3 σ H2 xs zs us ws Q I3 rv rz q
end

theorem kit_refTy {K : PySem.W.Frag} {C : Addr} {T : String} (hm : PySem.W.kitMeta T = true) (h : PySem.W.mroIn K C (.type T) = some false) : PySem.W.kitOne K (.ref C) (.type T) = some false := by
  unfold PySem.W.kitOne
  rw [if_neg (by show ¬ ((Value.ref C == Value.type T) = true); exact fun q => nomatch (beq_iff_eq.mp q))]
  show (if PySem.W.kitMeta T = true then PySem.W.mroIn K C (.type T) else none) = some false
  rw [if_pos hm, h]
/-! ### own operators -/
section
variable {X : Cx} {CX : CXT} {C g : Addr} {n : Nat} {sp : Sp} {E : XK}
/-- x op y by an own method, both instances of C -/
def rOwnBin (C : Addr) (sp : Sp) (E : XK) : R2 := fun x y H Q => ∃ (a b dx dy : Addr) (fs fs' : List (Str × V)), x = .ref a ∧ y = .ref b ∧ H a = some (.ins C dx fs) ∧ H b = some (.ins C dy fs') ∧ sp [x, y] H Q E
theorem op_ownBin {op : Operator} (hc : PySem.W.selfFirst X.K C = true) (hs : PySem.W.findIn X.K (.ref C) (PySem.dunder op.info.2) = some (some (.ref g))) (hf : PySem.W.isFn X.K (.ref g) = true) (F : FnR X.prog X.w X.K X.mg X.base CX n g sp) (hr : Room n X.A) (hx : Passes CX X E) :
    OpR X (binaryOp op) (rOwnBin C sp E) := by
  intro pins s σ H x y v u Q I rx ry h
  obtain ⟨a, b, dx, dy, fs, fs', rfl, rfl, ha, hb, q⟩ := h
  cases (show v = Value.ref a from rx)
  cases (show u = Value.ref b from ry)
  obtain ⟨mA, O, _⟩ := ins_get I.hok ha
  obtain ⟨od, J, _⟩ := O.look
  obtain ⟨mB, O2, _⟩ := ins_get I.hok hb
  obtain ⟨od2, J2, _⟩ := O2.look
  obtain ⟨m, hF⟩ := I.fr
  refine PySem.W.binop_K hF I.ok.mod.kin J J2.type hc hs hf ?_
  refine wpAny_mono (wpAny_call (run_fnR (us := [.ref a, .ref b]) (vs := [.ref a, .ref b]) F hr hx I (.cons rfl (.cons rfl .nil)) q)) (fun w s' z => ?_) fun _ _ x => x
  obtain ⟨z', H', I', rz, qz⟩ := z
  exact cmpback rz ⟨z', H', I', rz, qz⟩
/-- ~x by an own method -/
def rOwnInv (C : Addr) (sp : Sp) (E : XK) : V → Hp → VK → Prop := fun x H Q => ∃ (a dx : Addr) (fs : List (Str × V)), x = .ref a ∧ H a = some (.ins C dx fs) ∧ sp [x] H Q E
theorem un_ownInv (hs : PySem.W.findIn X.K (.ref C) "__invert__" = some (some (.ref g))) (hf : PySem.W.isFn X.K (.ref g) = true) (F : FnR X.prog X.w X.K X.mg X.base CX n g sp) (hr : Room n X.A) (hx : Passes CX X E) :
    UnR X (unaryOp .Invert) (rOwnInv C sp E) := by
  intro pins s σ H x v Q I rx h
  obtain ⟨a, dx, fs, rfl, ha, q⟩ := h
  cases (show v = Value.ref a from rx)
  obtain ⟨mA, O, _⟩ := ins_get I.hok ha
  obtain ⟨od, J, _⟩ := O.look
  obtain ⟨m, hF⟩ := I.fr
  refine PySem.W.ksp_inv hF I.ok.mod.kin J hs hf ?_
  exact wpAny_call (run_fnR (us := [.ref a]) (vs := [.ref a]) F hr hx I (.cons rfl .nil) q)
end
end Lf

set_option Elab.async false
set_option linter.all false
set_option maxRecDepth 100000
set_option maxHeartbeats 4000000
/-! Comprehensions over a tuple or a list that only add objects: each item told by a function. -/
namespace Lf
open PySem PySem.Spec PyProof.Rows L2
/-- what one turn does: F tells what is added, if anything -/
def Turn1 (g : TG) (tt : TT) (te : TE) (vs : List Nat) (σ : L2.St) (H1 : Hp) (x : V) (r : Option V) : Prop :=
  ∀ (H' : Hp) (N : Option V → Hp → Prop), Same H1 H' → (∀ H4, Same H' H4 → N r H4) →
    g x (wipe σ vs) H' fun σ2 H2 => wipe σ2 vs = wipe σ vs ∧ tt σ2 H2 fun b H3 => if b = true then te σ2 H3 fun y H4 => N (some y) H4 else N none H3
theorem lc_tupF {K : PySem.W.Frag} {a : Addr} {xs : List V} {g : TG} {tt : TT} {te : TE} {vs : List Nat} {σ : L2.St} {H1 : Hp} {D : Addr} {Qd : Hp → Prop} (F : V → Option V) (nD : H1 D = none) (hz : xs.length < 100000)
    (hl : ∀ H', Same H1 H' → SqT K H' a xs) (hs : ∀ x ∈ xs, Turn1 g tt te vs σ H1 x (F x)) (hd : ∀ H', Same H1 H' → H' D = some (.lst (xs.filterMap F)) → Qd H') :
    ∃ W : Nat → Nat → Hp → Prop, (∃ m, W 0 m (upd H1 D (.lst []))) ∧ ∀ i m H, W i m H →
      ((Itt K a).stop i H ∧ Qd H) ∨ ((Itt K a).go i H ∧ ∃ Nx : Hp → Prop, (∀ H', Nx H' → ∃ m', m' < m ∧ W (i + 1) m' H') ∧ ∀ x H', (Itt K a).yld i H x H' → g x (wipe σ vs) H' fun σ2 H2 => wipe σ2 vs = wipe σ vs ∧ tt σ2 H2 fun b H3 =>
        if b = true then te σ2 H3 fun y H4 => ∃ acc, H4 D = some (.lst acc) ∧ acc.length < sizeLine ∧ Nx (upd H4 D (.lst (acc ++ [y]))) else Nx H3) := by
  refine lc_tup (K := K) (a := a) (xs := xs) (fun i H' => Same H1 H' ∧ H' D = some (.lst ((xs.take i).filterMap F))) ⟨Same.new nD, upd_same⟩ (fun i H' _ z => hl H' z.1) ?_ ?_
  · rintro i x H' hx ⟨s1, hD⟩
    have tk : (xs.take (i + 1)).filterMap F = (xs.take i).filterMap F ++ (F x).toList := by
      rw [List.take_add_one, hx, Option.toList_some, List.filterMap_append]
      cases e : F x <;> simp [e]
    have z := hs x (List.mem_of_getElem? hx) H' (fun r H4 => match r with
      | some y => ∃ acc, H4 D = some (.lst acc) ∧ acc.length < sizeLine ∧ (Same H1 (upd H4 D (.lst (acc ++ [y]))) ∧ upd H4 D (.lst (acc ++ [y])) D = some (.lst ((xs.take (i + 1)).filterMap F)))
      | none => Same H1 H4 ∧ H4 D = some (.lst ((xs.take (i + 1)).filterMap F))) s1 fun H4 s4 => ?_
    · exact z
    · cases e : F x with
      | none =>
        rw [e] at tk
        refine ⟨s1.trans s4, ?_⟩
        rw [tk, Option.toList_none, List.append_nil]
        exact s4 _ _ hD
      | some y =>
        rw [e] at tk
        refine ⟨_, s4 _ _ hD, ?_, fun q o h => ?_, ?_⟩
        · refine Nat.lt_of_lt_of_le ?_ (show 100000 ≤ sizeLine by decide)
          refine Nat.lt_of_le_of_lt (List.length_filterMap_le ..) (Nat.lt_of_le_of_lt ?_ hz)
          rw [List.length_take]
          exact Nat.min_le_right ..
        · rw [upd_ne (ne_of_none h nD)]
          exact s4 _ _ (s1 _ _ h)
        · rw [upd_same, tk]
          rfl
  · rintro H' ⟨s1, hD⟩
    rw [List.take_length] at hD
    exact hd H' s1 hD
theorem lc_listF {K : PySem.W.Frag} {a : Addr} {xs : List V} {g : TG} {tt : TT} {te : TE} {vs : List Nat} {σ : L2.St} {H1 : Hp} {D : Addr} {Qd : Hp → Prop} (F : V → Option V) (nD : H1 D = none) (hz : xs.length < 100000)
    (hl : ∀ H', Same H1 H' → SqL K H' a xs) (hs : ∀ x ∈ xs, Turn1 g tt te vs σ H1 x (F x)) (hd : ∀ H', Same H1 H' → H' D = some (.lst (xs.filterMap F)) → Qd H') :
    ∃ W : Nat → Nat → Hp → Prop, (∃ m, W 0 m (upd H1 D (.lst []))) ∧ ∀ i m H, W i m H →
      ((Itl K a).stop i H ∧ Qd H) ∨ ((Itl K a).go i H ∧ ∃ Nx : Hp → Prop, (∀ H', Nx H' → ∃ m', m' < m ∧ W (i + 1) m' H') ∧ ∀ x H', (Itl K a).yld i H x H' → g x (wipe σ vs) H' fun σ2 H2 => wipe σ2 vs = wipe σ vs ∧ tt σ2 H2 fun b H3 =>
        if b = true then te σ2 H3 fun y H4 => ∃ acc, H4 D = some (.lst acc) ∧ acc.length < sizeLine ∧ Nx (upd H4 D (.lst (acc ++ [y]))) else Nx H3) := by
  refine lc_list (K := K) (a := a) (xs := xs) (fun i H' => Same H1 H' ∧ H' D = some (.lst ((xs.take i).filterMap F))) ⟨Same.new nD, upd_same⟩ (fun i H' _ z => hl H' z.1) ?_ ?_
  · rintro i x H' hx ⟨s1, hD⟩
    have tk : (xs.take (i + 1)).filterMap F = (xs.take i).filterMap F ++ (F x).toList := by
      rw [List.take_add_one, hx, Option.toList_some, List.filterMap_append]
      cases e : F x <;> simp [e]
    have z := hs x (List.mem_of_getElem? hx) H' (fun r H4 => match r with
      | some y => ∃ acc, H4 D = some (.lst acc) ∧ acc.length < sizeLine ∧ (Same H1 (upd H4 D (.lst (acc ++ [y]))) ∧ upd H4 D (.lst (acc ++ [y])) D = some (.lst ((xs.take (i + 1)).filterMap F)))
      | none => Same H1 H4 ∧ H4 D = some (.lst ((xs.take (i + 1)).filterMap F))) s1 fun H4 s4 => ?_
    · exact z
    · cases e : F x with
      | none =>
        rw [e] at tk
        refine ⟨s1.trans s4, ?_⟩
        rw [tk, Option.toList_none, List.append_nil]
        exact s4 _ _ hD
      | some y =>
        rw [e] at tk
        refine ⟨_, s4 _ _ hD, ?_, fun q o h => ?_, ?_⟩
        · refine Nat.lt_of_lt_of_le ?_ (show 100000 ≤ sizeLine by decide)
          refine Nat.lt_of_le_of_lt (List.length_filterMap_le ..) (Nat.lt_of_le_of_lt ?_ hz)
          rw [List.length_take]
          exact Nat.min_le_right ..
        · rw [upd_ne (ne_of_none h nD)]
          exact s4 _ _ (s1 _ _ h)
        · rw [upd_same, tk]
          rfl
  · rintro H' ⟨s1, hD⟩
    rw [List.take_length] at hD
    exact hd H' s1 hD
/-- t + u of tuples -/
def rCatTS (K : PySem.W.Frag) : R2 := fun x y H Q => ∃ a b xs ys, x = .ref a ∧ y = .ref b ∧ SqT K H a xs ∧ SqT K H b ys ∧ xs.length + ys.length ≤ sizeLine ∧ ∀ p H', Same H H' → SqT K H' p (xs ++ ys) → Q (.ref p) H'
theorem op_catTS {X : Cx} : OpR X (binaryOp .Add) (rCatTS X.K) := by
  intro pins s σ H x y v u Q I rx ry h
  obtain ⟨a, b, xs, ys, h1, h2, h3, h4, h5, h6⟩ := h
  refine op_catA pins s σ H x y v u Q I rx ry ⟨a, b, xs, ys, h1, h2, h3, h4, h5, fun e => ?_, fun _ e => ?_, fun _ _ p hp => ?_⟩
  · exact h6 b H (Same.refl _) (by rw [e, List.nil_append]; exact h4)
  · exact h6 a H (Same.refl _) (by rw [e, List.append_nil]; exact h3)
  · exact h6 p _ (Same.new hp) (SqT.of upd_same)
/-- items told one for one -/
theorem fm_all {xs : List V} {F : V → V} : xs.filterMap (fun x => some (F x)) = xs.map F := by
  induction xs with
  | nil => rfl
  | cons x xs ih => rw [List.filterMap_cons, List.map_cons, ih]
def intF (p : Int → Bool) : V → Option V
  | .int c => if p c then some (.int c) else none
  | _ => none
theorem fm_ints (p : Int → Bool) : ∀ ns : List Int, (ns.map V.int).filterMap (intF p) = (ns.filter p).map V.int
  | [] => rfl
  | c :: ns => by
    rw [List.map_cons, List.filterMap_cons, List.filter_cons]
    have e : intF p (.int c) = if p c then some (.int c) else none := rfl
    rw [e]
    cases h : p c
    · simp [fm_ints p ns]
    · simp [fm_ints p ns]
end Lf

set_option Elab.async false
set_option linter.all false
set_option maxRecDepth 100000
set_option maxHeartbeats 4000000
set_option pp.maxSteps 1500
set_option pp.deepTerms false
namespace Toy
open PySem L2 Lf
def top (i : Nat) : Stmt := PySem.Challenge.pw_linkedfilters_k01_choices_hold.main.body.getD i (.Pass ⟨0, 0, 0, 0⟩)
abbrev s_is_integer : Stmt := top 1
abbrev s_Choice__init : Stmt := inClass (top 2) 0
abbrev s_Choice_first : Stmt := inClass (top 2) 1
abbrev s_Choice__contains : Stmt := inClass (top 2) 2
abbrev s_Choice__or : Stmt := inClass (top 2) 4
abbrev s_Choice__invert : Stmt := inClass (top 2) 5
abbrev s_Choice__eq : Stmt := inClass (top 2) 6
abbrev s_l_bag : Stmt := top 4
abbrev s_l_take : Stmt := top 5
abbrev s_l_values : Stmt := top 7
abbrev s_l_built : Stmt := top 8
abbrev s_l_agrees : Stmt := top 9
abbrev s_l_right : Stmt := top 10
abbrev s_law : Stmt := top 11
structure Ad where
  f_is_integer : Addr
  d_is_integer : FuncData
  f_Choice__init : Addr
  d_Choice__init : FuncData
  f_Choice_first : Addr
  d_Choice_first : FuncData
  p_Choice_first : Addr
  f_Choice__contains : Addr
  d_Choice__contains : FuncData
  f_Choice__or : Addr
  d_Choice__or : FuncData
  f_Choice__invert : Addr
  d_Choice__invert : FuncData
  f_Choice__eq : Addr
  d_Choice__eq : FuncData
  f_l_bag : Addr
  d_l_bag : FuncData
  f_l_take : Addr
  d_l_take : FuncData
  f_l_values : Addr
  d_l_values : FuncData
  f_l_built : Addr
  d_l_built : FuncData
  f_l_agrees : Addr
  d_l_agrees : FuncData
  f_l_right : Addr
  d_l_right : FuncData
  f_law : Addr
  d_law : FuncData
  C_Choice : Addr
structure Txt (K : PySem.W.Frag) (mg : Str → Option Value) (a : Ad) : Prop where
  F_is_integer : Fun K "is_integer" "is_integer" s_is_integer a.f_is_integer a.d_is_integer
  k_is_integer : PySem.W.keepIn K (.ref a.f_is_integer) = true
  a_is_integer : Binds K a.d_is_integer ["value"] []
  m_is_integer : mg "is_integer" = some (.ref a.f_is_integer)
  F_Choice__init : FunD K "__init__" "Choice.__init__" (defArgs s_Choice__init) (defBody s_Choice__init) (defScope s_Choice__init) [] [("is_rest", .bl false)] a.f_Choice__init a.d_Choice__init
  k_Choice__init : PySem.W.keepIn K (.ref a.f_Choice__init) = true
  t_Choice__init : Meth K a.C_Choice "__init__" a.f_Choice__init
  f_Choice__init : PySem.W.findIn K (.ref a.C_Choice) "__init__" = some (some (.ref a.f_Choice__init))
  i_Choice__init : PySem.W.isFn K (.ref a.f_Choice__init) = true
  fi_Choice__init : PySem.W.fnIn K a.f_Choice__init = true
  F_Choice_first : Fun K "first" "Choice.first" s_Choice_first a.f_Choice_first a.d_Choice_first
  k_Choice_first : PySem.W.keepIn K (.ref a.f_Choice_first) = true
  a_Choice_first : Binds K a.d_Choice_first ["cls", "many"] []
  cm_Choice_first : ClX.CMet K a.C_Choice (.type "type") "first" a.p_Choice_first a.f_Choice_first
  F_Choice__contains : Fun K "__contains__" "Choice.__contains__" s_Choice__contains a.f_Choice__contains a.d_Choice__contains
  k_Choice__contains : PySem.W.keepIn K (.ref a.f_Choice__contains) = true
  a_Choice__contains : Binds K a.d_Choice__contains ["self", "value"] []
  t_Choice__contains : Meth K a.C_Choice "__contains__" a.f_Choice__contains
  f_Choice__contains : PySem.W.findIn K (.ref a.C_Choice) "__contains__" = some (some (.ref a.f_Choice__contains))
  i_Choice__contains : PySem.W.isFn K (.ref a.f_Choice__contains) = true
  fi_Choice__contains : PySem.W.fnIn K a.f_Choice__contains = true
  F_Choice__or : Fun K "__or__" "Choice.__or__" s_Choice__or a.f_Choice__or a.d_Choice__or
  k_Choice__or : PySem.W.keepIn K (.ref a.f_Choice__or) = true
  a_Choice__or : Binds K a.d_Choice__or ["self", "other"] []
  t_Choice__or : Meth K a.C_Choice "__or__" a.f_Choice__or
  f_Choice__or : PySem.W.findIn K (.ref a.C_Choice) "__or__" = some (some (.ref a.f_Choice__or))
  i_Choice__or : PySem.W.isFn K (.ref a.f_Choice__or) = true
  fi_Choice__or : PySem.W.fnIn K a.f_Choice__or = true
  F_Choice__invert : Fun K "__invert__" "Choice.__invert__" s_Choice__invert a.f_Choice__invert a.d_Choice__invert
  k_Choice__invert : PySem.W.keepIn K (.ref a.f_Choice__invert) = true
  a_Choice__invert : Binds K a.d_Choice__invert ["self"] []
  t_Choice__invert : Meth K a.C_Choice "__invert__" a.f_Choice__invert
  f_Choice__invert : PySem.W.findIn K (.ref a.C_Choice) "__invert__" = some (some (.ref a.f_Choice__invert))
  i_Choice__invert : PySem.W.isFn K (.ref a.f_Choice__invert) = true
  fi_Choice__invert : PySem.W.fnIn K a.f_Choice__invert = true
  F_Choice__eq : Fun K "__eq__" "Choice.__eq__" s_Choice__eq a.f_Choice__eq a.d_Choice__eq
  k_Choice__eq : PySem.W.keepIn K (.ref a.f_Choice__eq) = true
  a_Choice__eq : Binds K a.d_Choice__eq ["self", "other"] []
  t_Choice__eq : Meth K a.C_Choice "__eq__" a.f_Choice__eq
  f_Choice__eq : PySem.W.findIn K (.ref a.C_Choice) "__eq__" = some (some (.ref a.f_Choice__eq))
  i_Choice__eq : PySem.W.isFn K (.ref a.f_Choice__eq) = true
  fi_Choice__eq : PySem.W.fnIn K a.f_Choice__eq = true
  F_l_bag : Fun K "_law_bag" "_law_bag" s_l_bag a.f_l_bag a.d_l_bag
  k_l_bag : PySem.W.keepIn K (.ref a.f_l_bag) = true
  a_l_bag : Binds K a.d_l_bag ["_law_script", "_law_at"] []
  m_l_bag : mg "_law_bag" = some (.ref a.f_l_bag)
  F_l_take : Fun K "_law_take" "_law_take" s_l_take a.f_l_take a.d_l_take
  k_l_take : PySem.W.keepIn K (.ref a.f_l_take) = true
  a_l_take : Binds K a.d_l_take ["_law_bag_here", "_law_many"] []
  m_l_take : mg "_law_take" = some (.ref a.f_l_take)
  F_l_values : Fun K "_law_values" "_law_values" s_l_values a.f_l_values a.d_l_values
  k_l_values : PySem.W.keepIn K (.ref a.f_l_values) = true
  a_l_values : Binds K a.d_l_values ["_law_bag_here"] []
  m_l_values : mg "_law_values" = some (.ref a.f_l_values)
  F_l_built : Fun K "_law_built" "_law_built" s_l_built a.f_l_built a.d_l_built
  k_l_built : PySem.W.keepIn K (.ref a.f_l_built) = true
  a_l_built : Binds K a.d_l_built ["_law_listed"] []
  m_l_built : mg "_law_built" = some (.ref a.f_l_built)
  F_l_agrees : Fun K "_law_agrees" "_law_agrees" s_l_agrees a.f_l_agrees a.d_l_agrees
  k_l_agrees : PySem.W.keepIn K (.ref a.f_l_agrees) = true
  a_l_agrees : Binds K a.d_l_agrees ["_law_choice", "_law_listed", "_law_is_rest"] []
  m_l_agrees : mg "_law_agrees" = some (.ref a.f_l_agrees)
  F_l_right : Fun K "_law_right" "_law_right" s_l_right a.f_l_right a.d_l_right
  k_l_right : PySem.W.keepIn K (.ref a.f_l_right) = true
  a_l_right : Binds K a.d_l_right ["_law_bag_here"] []
  m_l_right : mg "_law_right" = some (.ref a.f_l_right)
  F_law : Fun K "law" "law" s_law a.f_law a.d_law
  k_law : PySem.W.keepIn K (.ref a.f_law) = true
  a_law : Binds K a.d_law ["_law_script"] []
  m_law : mg "law" = some (.ref a.f_law)
  ct_Choice : ClsT K a.C_Choice
  m_Choice : mg "Choice" = some (.ref a.C_Choice)
  mk_Choice : Mk K a.C_Choice a.f_Choice__init
  r_Choice : ClX.CRead K a.C_Choice (.type "type")
  nq_Choice : PySem.W.noSeq K a.C_Choice = true
  sf_Choice : PySem.W.selfFirst K a.C_Choice = true
  ki_Choice_int : PySem.W.kitOne K (.ref a.C_Choice) (.type "int") = some false
  n_Choice_listed : NoAttr K a.C_Choice "listed"
  n_Choice_is_rest : NoAttr K a.C_Choice "is_rest"
  b_len : mg "len" = none
  b_abs : mg "abs" = none
  b_int : mg "int" = none
  b_range : mg "range" = none
  b_isinstance : mg "isinstance" = none
  b_max : mg "max" = none
  b_min : mg "min" = none
  b_list : mg "list" = none
  b_tuple : mg "tuple" = none
  b_any : mg "any" = none
  b_bool : mg "bool" = none
  b_set : mg "set" = none
  b_sorted : mg "sorted" = none
theorem Txt.c_Choice {K : PySem.W.Frag} {mg : Str → Option Value} {a : Ad} (T : Txt K mg a) : Cls K a.C_Choice := T.ct_Choice.cl
theorem Txt.o_Choice {K : PySem.W.Frag} {mg : Str → Option Value} {a : Ad} (T : Txt K mg a) : PySem.W.mroIn K a.C_Choice (.type "object") = some true := T.ct_Choice.cm
theorem Txt.ne_Choice {K : PySem.W.Frag} {mg : Str → Option Value} {a : Ad} (T : Txt K mg a) : PySem.W.findIn K (.ref a.C_Choice) "__ne__" = some (some (.builtin "object.__ne__")) := T.ct_Choice.ne
section
variable {P : Program} {w : World} {K : PySem.W.Frag} {mg : Str → Option Value} {base : Heap} {a : Ad}


theorem inV_ints (i : Int) : ∀ rs : List Int, inV (.int i) (rs.map V.int) = decide (i ∈ rs)
  | [] => rfl
  | r :: rs => by
    show (eqV (.int r) (.int i) || inV (.int i) (rs.map V.int)) = decide (i ∈ r :: rs)
    rw [inV_ints i rs]
    show ((r == i) || decide (i ∈ rs)) = decide (i ∈ r :: rs)
    by_cases h : r = i
    · subst h; simp
    · have h' : ¬ i = r := fun z => h z.symm
      simp [h, h']
theorem flat_ints : ∀ rs : List Int, (rs.map V.int).all flatV = true
  | [] => rfl
  | r :: rs => by rw [List.map_cons, List.all_cons, flat_ints rs]; rfl
theorem intF_yes {p : Int → Bool} {c : Int} (h : p c = true) : intF p (.int c) = some (.int c) := by show (if p c then _ else _) = _; rw [h]; rfl
theorem intF_no {p : Int → Bool} {c : Int} (h : p c = false) : intF p (.int c) = none := by show (if p c then _ else _) = _; rw [h]; rfl
theorem blD (x y : Bool) : decide (V.bl x = V.bl y) = (x == y) := by cases x <;> cases y <;> rfl
/-- whether an integer is in -/
def has (ls : List Int) (b : Bool) (k : Int) : Bool := decide (k ∈ ls) != b
def Rise (ls : List Int) : Prop := ls.Pairwise (· < ·)
theorem has_eq {ls ms : List Int} {b : Bool} (h1 : Rise ls) (h2 : Rise ms) (h : ∀ k, has ls b k = has ms b k) : ls = ms := by
  refine rise_eq h1 h2 fun k => ?_
  have := h k
  unfold has at this
  cases b <;> by_cases p : k ∈ ls <;> by_cases q : k ∈ ms <;> simp_all

/-- is_integer: what its answer is -/
def spIsInt (K : PySem.W.Frag) : Sp := fun vs H Q _ => ∃ (v : V), vs = [v] ∧ ((∃ i, v = .int i ∧ Q (.bl true) H) ∨ (∃ b, v = .bl b ∧ Q (.bl false) H) ∨
  ∃ t : Value, TyX K H v t ∧ PySem.W.kitOne K t (.type "int") = some false ∧ Q (.bl false) H)
theorem sc_is_integer : FnScope ["value"] ["value"] (defScope s_is_integer) := ⟨rfl, rfl, rfl, by decide +kernel, rfl, by decide +kernel, by decide +kernel⟩
theorem ok_is_integer (T : Txt K mg a) : FnOk P w K mg base CX0 1 a.f_is_integer a.d_is_integer ["value"] (spIsInt K) := by
  refine T.F_is_integer.ok sc_is_integer (fun vs H Q E h => ?_) (fun cdv A outer s H vs Q E hr h => ?_)
  · obtain ⟨v, rfl, _⟩ := h
    rfl
  · obtain ⟨v, rfl, k⟩ := h
    refine ⟨_, (pss_one (ps_ret (pe_and (pe_callB call_isi (by rfl) T.b_isinstance (by decide +kernel) (pa_cons (pv 0) (pa_cons (pe_bltn (v := .ty "int") (by rfl) T.b_int (by decide +kernel) rfl) pa_nil))) (pe_one (pe_not (pe_callB call_isi (by rfl) T.b_isinstance (by decide +kernel) (pa_cons (pv 0) (pa_cons (pe_bltn (v := .ty "bool") (by rfl) T.b_bool (by decide +kernel) rfl) pa_nil)))))))), ?_⟩
    rcases k with ⟨i, rfl, k⟩ | ⟨b, rfl, k⟩ | ⟨t, ty, hk, k⟩
    · refine ⟨_, rfl, _, _, _, _, true, rfl, .ty _, .base (.int i), kit_ty (by decide +kernel), _, rfl, iteT ?_⟩
      exact ⟨_, rfl, _, _, _, _, false, rfl, .ty _, .base (.int i), kit_ty (by decide +kernel), _, rfl, k⟩
    · refine ⟨_, rfl, _, _, _, _, true, rfl, .ty _, .base (.bl b), kit_ty (by decide +kernel), _, rfl, iteT ?_⟩
      exact ⟨_, rfl, _, _, _, _, true, rfl, .ty _, .base (.bl b), kit_ty (by decide +kernel), _, rfl, k⟩
    · exact ⟨_, rfl, _, _, _, _, false, rfl, .ty _, ty, hk, _, rfl, iteF k⟩
def fl_Choice (x0 : Addr) (x1 : Bool) : List (Str × V) := [("listed", .ref x0), ("is_rest", .bl x1)]
theorem lk_Choice_listed (x0 : Addr) (x1 : Bool) : (fl_Choice x0 x1).lookup ("listed" : Str) = some (.ref x0) := by unfold fl_Choice; exact lk0
theorem lk_Choice_is_rest (x0 : Addr) (x1 : Bool) : (fl_Choice x0 x1).lookup ("is_rest" : Str) = some (.bl x1) := by unfold fl_Choice; rw [lk1 (by decide +kernel), lk0]
theorem pf_Choice_is_rest (x0 : Addr) (x1 : Bool) : putF "is_rest" (.bl x1) [("listed", .ref x0)] = ([("listed", .ref x0), ("is_rest", .bl x1)] : List (Str × V)) := by rw [pf1 (by decide +kernel)]; rfl
/-- a choice: these integers, or all others -/
def ChAt (a : Ad) (H : Hp) (x : Addr) (ls : List Int) (b : Bool) : Prop := Rise ls ∧ ∃ dx p, H x = some (.ins a.C_Choice dx (fl_Choice p b)) ∧ TupD H p (ls.map V.int)
theorem ChAt.keep {H H' : Hp} {x : Addr} {ls : List Int} {b : Bool} (h : ChAt a H x ls b) (s : Same H H') : ChAt a H' x ls b := by
  obtain ⟨h0, dx, p, h1, h2⟩ := h
  exact ⟨h0, dx, p, s _ _ h1, h2.keep s⟩
theorem ChAt.but {H H' : Hp} {x c : Addr} {ls : List Int} {b : Bool} (h : ChAt a H x ls b) (s : But c H H') (hb : ∃ xs, H c = some (.lst xs)) : ChAt a H' x ls b := by
  obtain ⟨h0, dx, p, h1, ⟨o, h2, h3⟩⟩ := h
  obtain ⟨xs, hb⟩ := hb
  exact ⟨h0, dx, p, s _ _ h1 (ne_of h1 hb (by intro z; cases z)), o, s _ _ h2 (ne_of h2 hb (by intro z; cases z)), h3⟩
theorem ChAt.ins {H : Hp} {x : Addr} {ls : List Int} {b : Bool} (h : ChAt a H x ls b) : ∃ dx fs, H x = some (.ins a.C_Choice dx fs) := by
  obtain ⟨h0, dx, p, h1, h2⟩ := h
  exact ⟨dx, _, h1⟩
def spCInit (a : Ad) : Sp := fun vs H Q _ => ∃ (x dx p : Addr) (ns : List Int) (b : Bool), vs = [.ref x, .bl b, .ref p] ∧ H x = some (.ins a.C_Choice dx []) ∧ H p = some (.tup (ns.map V.int)) ∧ ns.length ≤ 4000 ∧
  ∀ ls H', Rise ls → (∀ k, k ∈ ls ↔ k ∈ ns) → ls.length ≤ ns.length → But x H H' → ChAt a H' x ls b → Q .non H'
theorem sc_Choice__init : FnScope ["self", "is_rest", "values"] ["self", "is_rest", "values"] (defScope s_Choice__init) := ⟨rfl, rfl, rfl, by decide +kernel, rfl, by decide +kernel, by decide +kernel⟩
theorem bv_Choice : BV1 "__init__" "Choice.__init__" (defArgs s_Choice__init) (defBody s_Choice__init) (defScope s_Choice__init) "self" "is_rest" "values" :=
  ⟨fun _ _ _ _ _ _ _ _ rest => match rest with | [] => ⟨_, _, _, _, _, _, rfl, rfl, rfl⟩ | _ :: _ => ⟨_, _, _, _, _, _, rfl, rfl, rfl⟩,
   fun _ _ _ _ _ _ _ _ rest => match rest with | [] => rfl | _ :: _ => rfl⟩
theorem init_Choice (T : Txt K mg a) : FnR P w K mg base CX0 1 a.f_Choice__init (stS (spCInit a) (.bl false)) ∧ FnRK P w K mg base CX0 1 a.f_Choice__init "is_rest" (stS (spCInit a)) := by
  refine fn_starK T.F_Choice__init bv_Choice sc_Choice__init StX.cxUp_none (fun cdv A outer s H vs Q E hr h => ?_)
  obtain ⟨x, dx, p, ns, b, rfl, hx, hp, hl, k⟩ := h
  refine ⟨_, (pss_cons (ps_fld (pv 0) (pe_callTy call_tupleD (by rfl) T.b_tuple (by decide +kernel) (pa_cons (pe_callB (cr_sortedSetA rfl) (by rfl) T.b_sorted (by decide +kernel) (pa_cons (pe_callTy (cr_setTI rfl) (by rfl) T.b_set (by decide +kernel) (pa_cons (pv 2) pa_nil)) pa_nil)) pa_nil)) rfl)
      (pss_one (ps_fld (pv 0) (pv 1) rfl))), ?_⟩
  refine ⟨_, rfl, p, ns, rfl, SqT.of hp, hl, fun q c H1 nq s1 hq hc => ?_⟩
  refine ⟨q, _, c, rfl, hq, fun ls q2 H2 rise mem len nq2 s2 hq2 => ?_⟩
  refine ⟨q2, _, rfl, SqL.of hq2, fun t H3 nt s3 ht => ?_⟩
  have sA : Same H H3 := (s1.trans s2).trans s3
  have hx3 := sA _ _ hx
  refine ⟨_, rfl, x, a.C_Choice, dx, [], rfl, hx3, T.c_Choice, T.n_Choice_listed, (by show 0 < 1000; decide), _, rfl, _, rfl, x, a.C_Choice, dx, _, rfl, upd_same, T.c_Choice, T.n_Choice_is_rest, (by show 1 < 1000; decide), ?_⟩
  show Q .non (upd (upd H3 x _) x (.ins a.C_Choice dx (putF "is_rest" (.bl b) [("listed", .ref t)])))
  rw [two_upd, pf_Choice_is_rest]
  obtain ⟨o, ho, hd⟩ := ht
  have ntx : t ≠ x := ne_of ho hx3 (by intro z; cases z)
  refine k ls _ rise (fun k => (mem k).trans ⟨of_decide_eq_true, decide_eq_true⟩) (by omega) (fun q o e nb => ?_) ⟨rise, dx, t, upd_same, o, by rw [upd_ne ntx]; exact ho, hd⟩
  rw [upd_ne nb]
  exact sA q o e
/-- Choice(..): a new choice -/
def rCh (a : Ad) (b : Bool) : List V → Hp → VK → Prop := fun vs H Q => ∃ ns : List Int, vs = ns.map V.int ∧ ns.length ≤ 4000 ∧
  ∀ ls x H', (∀ k, k ∈ ls ↔ k ∈ ns) → ls.length ≤ ns.length → H x = none → Same H H' → ChAt a H' x ls b → Q (.ref x) H'
def rChK (a : Ad) : List V → List V → Hp → VK → Prop := fun vs zs H Q => ∃ b, zs = [.bl b] ∧ rCh a b vs H Q
theorem made_ch {H : Hp} {x dx : Addr} {ns : List Int} {b : Bool} {Q : VK} {E : XK} (nx : H x = none) (nd : H dx = none) (hl : ns.length ≤ 4000)
    (k : ∀ ls x H', (∀ k, k ∈ ls ↔ k ∈ ns) → ls.length ≤ ns.length → H x = none → Same H H' → ChAt a H' x ls b → Q (.ref x) H') :
    stS (spCInit a) (.bl b) (V.ref x :: ns.map V.int) (upd (upd H dx (.own x)) x (.ins a.C_Choice dx [])) (fun v H2 => v = .non ∧ Q (.ref x) H2) E := by
  refine ⟨_, _, rfl, by rw [List.length_map]; exact sz_of (by omega), fun p H' np s' hp => ?_⟩
  exact ⟨x, dx, p, ns, b, rfl, s' _ _ upd_same, hp, hl, fun ls H2 rise mem len bt ch => ⟨rfl, k ls x H2 mem len nx (made_same nx nd ((But.of s').trans bt)) ch⟩⟩
theorem mkR_Choice {X : Cx} (T : Txt X.K X.mg a) (hr : Room 2 X.A) : CallR X (.ref a.C_Choice) (rCh a false) := by
  intro pins s σ H vs us Q I r h
  obtain ⟨ns, rfl, hl, k⟩ := h
  exact mk_call (E := E0) T.mk_Choice (init_Choice (P := X.prog) (w := X.w) (base := X.base) T).1 hr pass0 pins s σ H _ us Q I r fun x dx nx nd _ => made_ch nx nd hl k
theorem mkK_Choice {X : Cx} (T : Txt X.K X.mg a) (hr : Room 2 X.A) : CallRK X (.ref a.C_Choice) ["is_rest"] (rChK a) := by
  intro pins s σ H vs zs us ws Q I r rz h
  obtain ⟨b, rfl, ns, rfl, hl, k⟩ := h
  exact mk_callK (E := E0) T.mk_Choice (init_Choice (P := X.prog) (w := X.w) (base := X.base) T).2 hr pass0 pins s σ H _ _ us ws Q I r rz ⟨_, rfl, fun x dx nx nd _ => made_ch nx nd hl k⟩

end
end Toy

set_option Elab.async false
set_option linter.all false
set_option maxRecDepth 100000
set_option maxHeartbeats 4000000
set_option pp.maxSteps 1500
set_option pp.deepTerms false
namespace Toy
open PySem L2 Lf
section
variable {P : Program} {w : World} {K : PySem.W.Frag} {mg : Str → Option Value} {base : Heap} {a : Ad}

theorem mem_rg {m : Int} {k : Int} (hm : 0 ≤ m) : V.int k ∈ rgV 0 m ↔ 0 ≤ k ∧ k < m := by
  unfold rgV
  rw [List.mem_map]
  constructor
  · rintro ⟨j, hj, e⟩
    cases e
    have := List.mem_range.mp hj
    omega
  · rintro ⟨h1, h2⟩
    exact ⟨k.toNat, List.mem_range.mpr (by omega), by congr 1; omega⟩
def rgI (m : Int) : List Int := (List.range m.toNat).map fun (i : Nat) => (i : Int)
theorem rgV_I {m : Int} : rgV 0 m = (rgI m).map V.int := by
  unfold rgV rgI
  rw [List.map_map, Int.sub_zero]
  refine List.map_congr_left fun i _ => ?_
  show V.int (0 + (i : Int)) = V.int (i : Int)
  rw [Int.zero_add]
theorem rgI_len {m : Int} : (rgI m).length = m.toNat := by
  unfold rgI
  rw [List.length_map, List.length_range]
theorem rgI_mem {m k : Int} : k ∈ rgI m ↔ 0 ≤ k ∧ k < m := by
  unfold rgI
  rw [List.mem_map]
  constructor
  · rintro ⟨j, hj, rfl⟩
    have := List.mem_range.mp hj
    omega
  · rintro ⟨h1, h2⟩
    exact ⟨k.toNat, List.mem_range.mpr (by omega), by omega⟩
theorem rgI_rise {m : Int} : Rise (rgI m) := by
  unfold rgI Rise
  rw [List.pairwise_map]
  exact List.Pairwise.imp (fun h => by omega) List.pairwise_lt_range
/-- Choice.first -/
def spCFirst (a : Ad) : Sp := fun vs H Q _ => ∃ (m : Int), vs = [.ref a.C_Choice, .int m] ∧ 0 ≤ m ∧ m ≤ 4000 ∧ ∀ x H', H x = none → Same H H' → ChAt a H' x (rgI m) false → Q (.ref x) H'
theorem sc_Choice_first : FnScope ["cls", "many", "values"] ["cls", "many"] (defScope s_Choice_first) := ⟨rfl, rfl, rfl, by decide +kernel, rfl, by decide +kernel, by decide +kernel⟩
theorem ok_Choice_first (T : Txt K mg a) : FnOk P w K mg base CX0 3 a.f_Choice_first a.d_Choice_first ["cls", "many"] (spCFirst a) := by
  refine T.F_Choice_first.ok sc_Choice_first (fun vs H Q E h => ?_) (fun cdv A outer s H vs Q E hr h => ?_)
  · obtain ⟨m, rfl, _⟩ := h
    rfl
  · obtain ⟨m, rfl, h0, h1, k⟩ := h
    refine ⟨_, (pss_cons (ps_set (i := 2) sc_Choice_first.nd rfl (.inl rfl) (pe_listRg rfl (by rfl) T.b_list (prg_1 (by rfl) T.b_range (pv 1))))
      (pss_one (ps_ret (pe_mkSL (i := 0) (mkR_Choice T (hr.mono (by decide))) T.mk_Choice.kp rfl (.inl rfl) (pv 2))))), ?_⟩
    refine ⟨_, rfl, _, rfl, RgOk.of_le (by decide) (by omega) (by decide) (by omega), fun q nq => ?_⟩
    refine ⟨rfl, _, rfl, q, _, rfl, .inr (SqL.of upd_same), rgI m, rgV_I, by rw [rgI_len]; omega, fun ls x H' mem len nx s1 ch => ?_⟩
    have e : ls = rgI m := rise_eq ch.1 rgI_rise mem
    rw [e] at ch
    exact k x H' (Same.free (Same.new nq) nx) ((Same.new nq).trans s1) ch

def spCHas (K : PySem.W.Frag) (a : Ad) : Sp := fun vs H Q _ => ∃ (x : Addr) (ls : List Int) (b : Bool) (v : V), vs = [.ref x, v] ∧ ChAt a H x ls b ∧
  ((∃ i : Int, v = .int i ∧ Q (.bl (decide (0 ≤ i) && has ls b i)) H) ∨ (∃ c, v = .bl c ∧ Q (.bl false) H) ∨ ∃ t : Value, TyX K H v t ∧ PySem.W.kitOne K t (.type "int") = some false ∧ Q (.bl false) H)
theorem sc_Choice__contains : FnScope ["self", "value"] ["self", "value"] (defScope s_Choice__contains) := ⟨rfl, rfl, rfl, by decide +kernel, rfl, by decide +kernel, by decide +kernel⟩
theorem ok_Choice__contains (T : Txt K mg a) : FnOk P w K mg base CX0 2 a.f_Choice__contains a.d_Choice__contains ["self", "value"] (spCHas K a) := by
  refine T.F_Choice__contains.ok sc_Choice__contains (fun vs H Q E h => ?_) (fun cdv A outer s H vs Q E hr h => ?_)
  · obtain ⟨x, ls, b, v, rfl, _⟩ := h
    rfl
  · obtain ⟨x, ls, b, v, rfl, hx, k⟩ := h
    refine ⟨_, (pss_cons (ps_if (PW.pt (pw_or (pt_not (pt_val (pe_call (ok_is_integer T) (hr.mono (by decide)) rfl T.m_is_integer T.k_is_integer T.a_is_integer .nil pass0 (pa_cons (pv 1) pa_nil)))) (pw_or1 (pt_cmpR op_lt (pv 1) pe_int (nomark _))))) (pss_one (ps_ret pe_bl)) pss_nil)
      (pss_one (ps_ret (pe_cmpR op_ne (pe_cmpR op_in_seq (pv 1) (pe_fld (pv 0) rfl) rfl) (pe_fld (pv 0) rfl) (nomark _))))), ?_⟩
    obtain ⟨rise, dx, p, h1, h2⟩ := hx
    rcases k with ⟨i, rfl, k⟩ | ⟨c, rfl, k⟩ | ⟨t, ty, hk, k⟩
    · refine ⟨_, rfl, _, rfl, .inl ⟨i, rfl, _, rfl, ?_⟩⟩
      refine iteF ⟨_, rfl, _, _, rfl, rfl, _, rfl, ?_⟩
      refine ite2 (fun h => ?_) (fun h => ?_)
      · have h' : i < 0 := of_decide_eq_true h
        rw [decide_eq_false (by omega), Bool.false_and] at k
        exact k
      · have h' : ¬ i < 0 := fun z => h (decide_eq_true z)
        rw [decide_eq_true (by omega : 0 ≤ i), Bool.true_and] at k
        refine ⟨_, rfl, _, rfl, x, a.C_Choice, dx, _, _, rfl, h1, T.c_Choice, T.n_Choice_listed, lk_Choice_listed _ _, p, _, rfl, .inr h2.seq, rfl, flat_ints ls, ?_⟩
        refine ⟨_, rfl, x, a.C_Choice, dx, _, _, rfl, h1, T.c_Choice, T.n_Choice_is_rest, lk_Choice_is_rest _ _, rfl, ?_⟩
        rw [inV_ints]
        show Q (.bl (!decide (V.bl (decide (i ∈ ls)) = V.bl b))) H
        rw [blD]
        exact k
    · exact ⟨_, rfl, _, rfl, .inr (.inl ⟨c, rfl, _, rfl, iteT k⟩)⟩
    · exact ⟨_, rfl, _, rfl, .inr (.inr ⟨t, ty, hk, _, rfl, iteT k⟩)⟩

def spCInv (a : Ad) : Sp := fun vs H Q _ => ∃ (x : Addr) (ls : List Int) (b : Bool), vs = [.ref x] ∧ ChAt a H x ls b ∧ ls.length ≤ 4000 ∧ ∀ z H', H z = none → Same H H' → ChAt a H' z ls (!b) → Q (.ref z) H'
theorem sc_Choice__invert : FnScope ["self", "values", "is_rest"] ["self"] (defScope s_Choice__invert) := ⟨rfl, rfl, rfl, by decide +kernel, rfl, by decide +kernel, by decide +kernel⟩
theorem ok_Choice__invert (T : Txt K mg a) : FnOk P w K mg base CX0 3 a.f_Choice__invert a.d_Choice__invert ["self"] (spCInv a) := by
  refine T.F_Choice__invert.ok sc_Choice__invert (fun vs H Q E h => ?_) (fun cdv A outer s H vs Q E hr h => ?_)
  · obtain ⟨x, ls, b, rfl, _⟩ := h
    rfl
  · obtain ⟨x, ls, b, rfl, hx, hl, k⟩ := h
    refine ⟨_, (pss_cons (ps_par (i := 1) (j := 2) (by rfl) sc_Choice__invert.nd rfl rfl (by decide) rfl rfl (pa_cons (pe_fld (pv 0) rfl) (pa_cons (pe_not (pe_fld (pv 0) rfl)) pa_nil)) (by rfl))
      (pss_one (ps_ret (pe_mkSK (mkK_Choice T (hr.mono (by decide))) T.mk_Choice.kp rfl T.m_Choice (pv 1) (pk_cons (pv 2) pk_nil))))), ?_⟩
    obtain ⟨rise, dx, p, h1, h2⟩ := hx
    refine ⟨_, rfl, x, a.C_Choice, dx, _, _, rfl, h1, T.c_Choice, T.n_Choice_listed, lk_Choice_listed _ _, _, rfl, x, a.C_Choice, dx, _, _, rfl, h1, T.c_Choice, T.n_Choice_is_rest, lk_Choice_is_rest _ _, ?_⟩
    refine ⟨_, rfl, _, _, rfl, _, rfl, _, rfl, p, _, rfl, .inl h2.seq, _, rfl, ls, rfl, hl, fun ms z H' mem len nz s1 ch => ?_⟩
    have e : ms = ls := rise_eq ch.1 rise mem
    rw [e] at ch
    exact k z H' nz s1 ch

def spCEq (K : PySem.W.Frag) (a : Ad) : Sp := fun vs H Q _ => ∃ (x : Addr) (ls : List Int) (b : Bool) (y : V), vs = [.ref x, y] ∧ ChAt a H x ls b ∧
  ((∃ q ms c, y = .ref q ∧ ChAt a H q ms c ∧ Q (.bl (decide (ls = ms) && (b == c))) H) ∨ ∃ t : String, TyX K H y (.type t) ∧ (fastBuiltinMro t).any noRefs = true ∧ Q (.bl false) H)
theorem sc_Choice__eq : FnScope ["self", "other"] ["self", "other"] (defScope s_Choice__eq) := ⟨rfl, rfl, rfl, by decide +kernel, rfl, by decide +kernel, by decide +kernel⟩
theorem ok_Choice__eq (T : Txt K mg a) : FnOk P w K mg base CX0 1 a.f_Choice__eq a.d_Choice__eq ["self", "other"] (spCEq K a) := by
  refine T.F_Choice__eq.ok sc_Choice__eq (fun vs H Q E h => ?_) (fun cdv A outer s H vs Q E hr h => ?_)
  · obtain ⟨x, ls, b, y, rfl, _⟩ := h
    rfl
  · obtain ⟨x, ls, b, y, rfl, hx, k⟩ := h
    refine ⟨_, (pss_one (ps_ret (pe_and (pe_callB call_isi (by rfl) T.b_isinstance (by decide +kernel) (pa_cons (pv 1) (pa_cons (pe_glob (v := .ref a.C_Choice) rfl T.m_Choice rfl) pa_nil))) (pe_and (pe_cmpR (op_eqIT hr.units) (pe_fld (pv 0) rfl) (pe_fld (pv 1) rfl) (nomark _)) (pe_one (pe_cmpR op_eq (pe_fld (pv 0) rfl) (pe_fld (pv 1) rfl) (nomark _))))))), ?_⟩
    obtain ⟨rise, dx, p, h1, h2⟩ := hx
    rcases k with ⟨q, ms, c, rfl, ⟨rise2, dq, p', h3, h4⟩, k⟩ | ⟨t, ty, ht, k⟩
    · refine ⟨_, rfl, _, _, _, _, true, rfl, .own _, T.ct_Choice.ty h3, kit_own, _, rfl, iteT ?_⟩
      refine ⟨_, rfl, x, a.C_Choice, dx, _, _, rfl, h1, T.c_Choice, T.n_Choice_listed, lk_Choice_listed _ _, _, rfl, q, a.C_Choice, dq, _, _, rfl, h3, T.c_Choice, T.n_Choice_listed, lk_Choice_listed _ _, p, p', ls, ms, rfl, rfl, h2.seq, h4.seq, _, rfl, ?_⟩
      refine ite2 (fun h => ?_) (fun h => ?_)
      · refine ⟨_, rfl, x, a.C_Choice, dx, _, _, rfl, h1, T.c_Choice, T.n_Choice_is_rest, lk_Choice_is_rest _ _, _, rfl, q, a.C_Choice, dq, _, _, rfl, h3, T.c_Choice, T.n_Choice_is_rest, lk_Choice_is_rest _ _, rfl, ?_⟩
        rw [h, Bool.true_and] at k
        rw [blD]
        exact k
      · rw [Bool.eq_false_iff.mpr h, Bool.false_and] at k
        exact k
    · exact ⟨_, rfl, _, _, _, _, false, rfl, .own _, ty, T.ct_Choice.kitTy ht, _, rfl, iteF k⟩

end
end Toy

set_option Elab.async false
set_option linter.all false
set_option maxRecDepth 100000
set_option maxHeartbeats 4000000
set_option pp.maxSteps 1500
set_option pp.deepTerms false
namespace Toy
open PySem L2 Lf
section
variable {P : Program} {w : World} {K : PySem.W.Frag} {mg : Str → Option Value} {base : Heap} {a : Ad}

def spCor (a : Ad) : Sp := fun vs H Q _ => ∃ (x y : Addr) (lx ly : List Int) (bx bY : Bool), vs = [.ref x, .ref y] ∧ ChAt a H x lx bx ∧ ChAt a H y ly bY ∧ lx.length + ly.length ≤ 4000 ∧
  ∀ z ls H', (∀ k, has ls (bx || bY) k = (has lx bx k || has ly bY k)) → ls.length ≤ lx.length + ly.length → Same H H' → ChAt a H' z ls (bx || bY) → Q (.ref z) H'
theorem sc_Choice__or : FnScope ["self", "other", "values", "value"] ["self", "other"] (defScope s_Choice__or) := ⟨rfl, rfl, rfl, by decide +kernel, rfl, by decide +kernel, by decide +kernel⟩
theorem ok_Choice__or (T : Txt K mg a) : FnOk P w K mg base CX0 3 a.f_Choice__or a.d_Choice__or ["self", "other"] (spCor a) := by
  refine T.F_Choice__or.ok sc_Choice__or (fun vs H Q E h => ?_) (fun cdv A outer s H vs Q E hr h => ?_)
  · obtain ⟨x, y, lx, ly, bx, bY, rfl, _⟩ := h
    rfl
  · obtain ⟨x, y, lx, ly, bx, bY, rfl, cx, cy, hl, k⟩ := h
    refine ⟨_, (pss_cons (ps_if (PW.pt (pw_and (pt_not (pt_val (pe_fld (pv 0) rfl))) (pw_and1 (pt_not (pt_val (pe_fld (pv 1) rfl)))))) (pss_cons (ps_set (i := 2) sc_Choice__or.nd rfl (.inl rfl) (pe_op op_catTS (pe_fld (pv 0) rfl) (pe_fld (pv 1) rfl)))
      (pss_one (ps_ret (pe_mkS (mkR_Choice T (hr.mono (by decide))) T.mk_Choice.kp rfl T.m_Choice (pv 2))))) pss_nil)
      (pss_cons (ps_if (pt_val (pe_fld (pv 0) rfl)) (pss_cons (ps_setLc (i := 2) (own := [("value", 3)]) (g := gName 3) (tt := (tTest (tOp rEq (tOp (rIn K false) (tVar 3) (tFld K (tVar 1) "listed")) (tFld K (tVar 1) "is_rest")))) (te := (tVar 3)) rfl sc_Choice__or.nd rfl rfl (sw_true rfl rfl rfl (by decide +kernel)) (pi_tup (pe_fld (pv 0) rfl)) (blkOk_by (own := [("value", 3)]) (N := ["self", "other", "values", "value"]) (sc := defScope s_Choice__or) (by decide +kernel)) (fun _ _ _ _ _ => (pg_name (i := 3) sc_Choice__or.nd rfl (.inl rfl))) (fun _ _ _ _ _ => (pts_one (pt_cmpR op_eq (pe_cmpR op_in_seq (pv 3) (pe_fld (pv 1) rfl) rfl) (pe_fld (pv 1) rfl) (nomark _)))) (fun _ _ _ _ _ => (pv 3)))
      (pss_one (ps_ret (pe_mkSK (mkK_Choice T (hr.mono (by decide))) T.mk_Choice.kp rfl T.m_Choice (pv 2) (pk_cons pe_bl pk_nil))))) pss_nil)
      (pss_cons (ps_setLc (i := 2) (own := [("value", 3)]) (g := gName 3) (tt := (tTest (tOp (rIn K true) (tVar 3) (tFld K (tVar 0) "listed")))) (te := (tVar 3)) rfl sc_Choice__or.nd rfl rfl (sw_true rfl rfl rfl (by decide +kernel)) (pi_tup (pe_fld (pv 1) rfl)) (blkOk_by (own := [("value", 3)]) (N := ["self", "other", "values", "value"]) (sc := defScope s_Choice__or) (by decide +kernel)) (fun _ _ _ _ _ => (pg_name (i := 3) sc_Choice__or.nd rfl (.inl rfl))) (fun _ _ _ _ _ => (pts_one (pt_cmpR op_notIn_seq (pv 3) (pe_fld (pv 0) rfl) rfl))) (fun _ _ _ _ _ => (pv 3)))
      (pss_one (ps_ret (pe_mkSK (mkK_Choice T (hr.mono (by decide))) T.mk_Choice.kp rfl T.m_Choice (pv 2) (pk_cons pe_bl pk_nil))))))), ?_⟩
    obtain ⟨rx, dx, px, hx, hxt⟩ := cx
    obtain ⟨ry, dy, py, hy, hyt⟩ := cy
    cases bx
    · refine ⟨_, rfl, x, a.C_Choice, dx, _, _, rfl, hx, T.c_Choice, T.n_Choice_is_rest, lk_Choice_is_rest _ _, _, rfl, iteT ?_⟩
      refine ⟨_, rfl, y, a.C_Choice, dy, _, _, rfl, hy, T.c_Choice, T.n_Choice_is_rest, lk_Choice_is_rest _ _, _, rfl, ?_⟩
      cases bY
      · refine iteT ?_
        refine ⟨_, rfl, x, a.C_Choice, dx, _, _, rfl, hx, T.c_Choice, T.n_Choice_listed, lk_Choice_listed _ _, _, rfl, y, a.C_Choice, dy, _, _, rfl, hy, T.c_Choice, T.n_Choice_listed, lk_Choice_listed _ _, px, py, _, _, rfl, rfl, hxt.seq, hyt.seq, by rw [List.length_map, List.length_map]; exact sz_of (by omega), fun p H1 s1 hp => ?_⟩
        rw [← List.map_append] at hp
        refine ⟨_, rfl, p, _, rfl, .inl hp, _, rfl, by rw [List.length_append]; omega, fun ls z H2 mem len nz s2 ch => ?_⟩
        rw [List.length_append] at len
        refine k z ls H2 (fun k => ?_) (by omega) (s1.trans s2) ch
        have := mem k
        rw [List.mem_append] at this
        unfold has
        by_cases p : k ∈ lx <;> by_cases q : k ∈ ly <;> simp [p, q] at this <;> simp [p, q, this]
      · refine iteF ⟨_, rfl, x, a.C_Choice, dx, _, _, rfl, hx, T.c_Choice, T.n_Choice_is_rest, lk_Choice_is_rest _ _, _, rfl, iteF ?_⟩
        refine ⟨_, rfl, y, a.C_Choice, dy, _, _, rfl, hy, T.c_Choice, T.n_Choice_listed, lk_Choice_listed _ _, py, rfl, ⟨_, hyt.seq⟩, fun D nD => lc_tupF (K := K) (a := py) (xs := ly.map V.int) (intF fun k => !decide (k ∈ lx)) nD (by rw [List.length_map]; omega) (fun H' s' => (hyt.keep s').seq) ?_ fun H1 s1 hD => ?_⟩
        · intro v hv H' N s' hN
          obtain ⟨k, hk, rfl⟩ := List.mem_map.mp hv
          have hx := s' _ _ hx
          have hy := s' _ _ hy
          have hxt := hxt.keep s'
          have hyt := hyt.keep s'
          refine ⟨rfl, _, rfl, _, rfl, x, a.C_Choice, dx, _, _, rfl, hx, T.c_Choice, T.n_Choice_listed, lk_Choice_listed _ _, px, _, rfl, .inr hxt.seq, rfl, flat_ints lx, ?_⟩
          rw [inV_ints]
          refine ⟨_, rfl, ?_⟩
          have hN' := hN H' (Same.refl _)
          refine ite2 (fun h => ?_) (fun h => ?_)
          · rw [intF_yes (by simpa [blD] using h)] at hN'
            exact ⟨_, rfl, hN'⟩
          · rw [intF_no (by simpa [blD] using h)] at hN'
            exact hN'
        rw [fm_ints] at hD
        have len2 := List.length_filter_le (fun k => !decide (k ∈ lx)) ly
        refine ⟨_, rfl, D, _, rfl, .inr (SqL.of hD), _, rfl, _, rfl, by omega, fun ls z H2 mem len nz s2 ch => ?_⟩
        refine k z ls H2 (fun k => ?_) (by omega) (s1.trans s2) ch
        have := mem k
        rw [List.mem_filter] at this
        unfold has
        by_cases p : k ∈ lx <;> by_cases q : k ∈ ly <;> simp [p, q] at this <;> simp [p, q, this]
    · refine ⟨_, rfl, x, a.C_Choice, dx, _, _, rfl, hx, T.c_Choice, T.n_Choice_is_rest, lk_Choice_is_rest _ _, _, rfl, iteF ⟨_, rfl, x, a.C_Choice, dx, _, _, rfl, hx, T.c_Choice, T.n_Choice_is_rest, lk_Choice_is_rest _ _, _, rfl, iteT ?_⟩⟩
      refine ⟨_, rfl, x, a.C_Choice, dx, _, _, rfl, hx, T.c_Choice, T.n_Choice_listed, lk_Choice_listed _ _, px, rfl, ⟨_, hxt.seq⟩, fun D nD => lc_tupF (K := K) (a := px) (xs := lx.map V.int) (intF fun k => decide (k ∈ ly) == bY) nD (by rw [List.length_map]; omega) (fun H' s' => (hxt.keep s').seq) ?_ fun H1 s1 hD => ?_⟩
      · intro v hv H' N s' hN
        obtain ⟨k, hk, rfl⟩ := List.mem_map.mp hv
        have hx := s' _ _ hx
        have hy := s' _ _ hy
        have hxt := hxt.keep s'
        have hyt := hyt.keep s'
        refine ⟨rfl, _, rfl, _, rfl, y, a.C_Choice, dy, _, _, rfl, hy, T.c_Choice, T.n_Choice_listed, lk_Choice_listed _ _, py, _, rfl, .inr hyt.seq, rfl, flat_ints ly, ?_⟩
        rw [inV_ints]
        refine ⟨_, rfl, y, a.C_Choice, dy, _, _, rfl, hy, T.c_Choice, T.n_Choice_is_rest, lk_Choice_is_rest _ _, rfl, _, rfl, ?_⟩
        have hN' := hN H' (Same.refl _)
        refine ite2 (fun h => ?_) (fun h => ?_)
        · rw [intF_yes (by simpa [blD] using h)] at hN'
          exact ⟨_, rfl, hN'⟩
        · rw [intF_no (by simpa [blD] using h)] at hN'
          exact hN'
      rw [fm_ints] at hD
      have len2 := List.length_filter_le (fun k => decide (k ∈ ly) == bY) lx
      refine ⟨_, rfl, D, _, rfl, .inr (SqL.of hD), _, rfl, _, rfl, by omega, fun ls z H2 mem len nz s2 ch => ?_⟩
      refine k z ls H2 (fun k => ?_) (by omega) (s1.trans s2) ch
      have := mem k
      rw [List.mem_filter] at this
      unfold has
      by_cases p : k ∈ lx <;> by_cases q : k ∈ ly <;> simp [p, q] at this <;> simp [p, q, this]

end
end Toy

set_option Elab.async false
set_option linter.all false
set_option maxRecDepth 100000
set_option maxHeartbeats 4000000
set_option pp.maxSteps 1500
set_option pp.deepTerms false
namespace Toy
open PySem L2 Lf
section
variable {P : Program} {w : World} {K : PySem.W.Frag} {mg : Str → Option Value} {base : Heap} {a : Ad}

def cutI (rs : List Int) (lo hi : Option Int) : List Int := (rs.drop (HT.sIx rs.length 0 lo)).take (HT.sIx rs.length rs.length hi - HT.sIx rs.length 0 lo)
theorem cutV_ints (rs : List Int) (lo hi : Option Int) : cutV (rs.map V.int) lo hi = (cutI rs lo hi).map V.int := by
  unfold cutV cutI
  rw [List.length_map, List.map_take, List.map_drop]
theorem cutI_mem {rs : List Int} {lo hi : Option Int} {k : Int} (h : k ∈ cutI rs lo hi) : k ∈ rs := List.mem_of_mem_drop (List.mem_of_mem_take h)
theorem cutI_len (rs : List Int) (lo hi : Option Int) : (cutI rs lo hi).length ≤ rs.length := by
  unfold cutI
  rw [List.length_take, List.length_drop]
  omega
def intM (f : Int → Int) : V → Option V
  | .int c => some (.int (f c))
  | _ => none
theorem fm_intM (f : Int → Int) : ∀ ns : List Int, (ns.map V.int).filterMap (intM f) = (ns.map f).map V.int
  | [] => rfl
  | c :: ns => by
    rw [List.map_cons, List.filterMap_cons, List.map_cons, List.map_cons, fm_intM f ns]
    rfl
theorem any_rep (n : Nat) : ((List.replicate n false).any id) = false := by
  induction n with
  | zero => rfl
  | succ n ih => rw [List.replicate_succ, List.any_cons, ih]; rfl

def spBag (K : PySem.W.Frag) : Sp := fun vs H Q _ => ∃ (s : Addr) (ns : List Int) (i : Nat), vs = [.ref s, .int i] ∧ SqL K H s (ns.map V.int) ∧ i < 64 ∧
  ∀ (b : Addr) (d m : Int) (H' : Hp), H b = none → Same H H' → H' b = some (.lst [.int d, .int m, .int 0]) → 0 ≤ d → 0 ≤ m → m < 12000000000000000000 → Q (.ref b) H'
theorem sc_l_bag : FnScope ["_law_script", "_law_at", "_law_cell", "_law_digits"] ["_law_script", "_law_at"] (defScope s_l_bag) := ⟨rfl, rfl, rfl, by decide +kernel, rfl, by decide +kernel, by decide +kernel⟩
theorem ok_l_bag (T : Txt K mg a) : FnOk P w K mg base CX0 1 a.f_l_bag a.d_l_bag ["_law_script", "_law_at"] (spBag K) := by
  refine T.F_l_bag.ok sc_l_bag (fun vs H Q E h => ?_) (fun cdv A outer s H vs Q E hr h => ?_)
  · obtain ⟨b, ns, i, rfl, _⟩ := h
    rfl
  · obtain ⟨b, ns, i, rfl, hS, hi, k⟩ := h
    refine ⟨_, (pss_cons (ps_set (i := 2) sc_l_bag.nd rfl (.inl rfl) (pe_ifExp (pt_cmpR op_lt (pv 1) (pe_callB call_len_seq (by rfl) T.b_len PySem.boot_len (pa_cons (pv 0) pa_nil)) (nomark _)) (pe_ix ix_list (pv 0) (pv 1) (fun _ _ => rfl)) pe_int))
      (pss_cons (ps_set (i := 3) sc_l_bag.nd rfl (.inl rfl) (pe_ifExp (pt_cmpR op_ge (pe_callB call_abs (by rfl) T.b_abs (by decide +kernel) (pa_cons (pv 2) pa_nil)) (pe_op op_pow pe_int pe_int) (nomark _)) (pe_callB call_abs (by rfl) T.b_abs (by decide +kernel) (pa_cons (pv 2) pa_nil)) pe_int))
      (pss_one (ps_ret (pe_lstS (pa_cons (pv 3) (pa_cons (pe_op op_add (pe_op op_add (pe_op op_mul (pe_op op_mod (pe_callTy call_int1 (by rfl) T.b_int (by decide +kernel) (pa_cons (pv 2) pa_nil)) pe_int) pe_int) (pe_op op_mul pe_int (pv 1))) pe_int) (pa_cons pe_int pa_nil)))))))), ?_⟩
    refine ⟨_, rfl, _, rfl, b, _, rfl, .inl hS, _, _, rfl, rfl, _, rfl, ?_⟩
    refine ite2 (fun h => ?_) (fun h => ?_)
    · have h1 : ((i : Nat) : Int) < ((ns.map V.int).length : Nat) := of_decide_eq_true h
      have h2 : i < ns.length := by rw [List.length_map] at h1; omega
      refine ⟨_, rfl, _, rfl, b, _, _, .int (ns[i]), rfl, rfl, hS, atI_nat (by rw [List.getElem?_map, List.getElem?_eq_getElem h2]; rfl), ?_⟩
      generalize ns[i] = c
      refine ⟨_, rfl, _, rfl, _, _, rfl, rfl, ⟨by decide, by decide, by decide⟩, _, _, rfl, rfl, _, rfl, ?_⟩
      refine ite2 (fun h => ?_) (fun h => ?_)
      · refine ⟨_, rfl, _, rfl, _, rfl, _, rfl, .inl ⟨_, rfl, _, _, rfl, rfl, (by show (0 : Int) < 2305843009213693951; decide), _, _, rfl, rfl, .inr ⟨by decide, by decide⟩, _, rfl, _, _, rfl, rfl, .inl ⟨by decide, by decide⟩, _, _, rfl, rfl, _, _, rfl, rfl, (by show 3 ≤ sizeLine; decide), fun p H' hp sm hp' => ?_⟩⟩
        have e1 := Int.emod_nonneg c (show (2305843009213693951 : Int) ≠ 0 by decide)
        have e2 := Int.emod_lt_of_pos c (show (0 : Int) < 2305843009213693951 by decide)
        exact k p _ _ H' hp sm hp' (by split <;> omega) (by omega) (by omega)
      · refine ⟨_, rfl, _, rfl, .inl ⟨_, rfl, _, _, rfl, rfl, (by show (0 : Int) < 2305843009213693951; decide), _, _, rfl, rfl, .inr ⟨by decide, by decide⟩, _, rfl, _, _, rfl, rfl, .inl ⟨by decide, by decide⟩, _, _, rfl, rfl, _, _, rfl, rfl, (by show 3 ≤ sizeLine; decide), fun p H' hp sm hp' => ?_⟩⟩
        have e1 := Int.emod_nonneg c (show (2305843009213693951 : Int) ≠ 0 by decide)
        have e2 := Int.emod_lt_of_pos c (show (0 : Int) < 2305843009213693951 by decide)
        exact k p _ _ H' hp sm hp' (by omega) (by omega) (by omega)
    · refine ⟨_, rfl, _, rfl, _, _, rfl, rfl, ⟨by decide, by decide, by decide⟩, _, _, rfl, rfl, _, rfl, ?_⟩
      refine ite2 (fun h => ?_) (fun h => ?_)
      · exact absurd (of_decide_eq_true h) (by decide)
      · refine ⟨_, rfl, _, rfl, .inl ⟨_, rfl, _, _, rfl, rfl, (by show (0 : Int) < 2305843009213693951; decide), _, _, rfl, rfl, .inr ⟨by decide, by decide⟩, _, rfl, _, _, rfl, rfl, .inl ⟨by decide, by decide⟩, _, _, rfl, rfl, _, _, rfl, rfl, (by show 3 ≤ sizeLine; decide), fun p H' hp sm hp' => ?_⟩⟩
        exact k p _ _ H' hp sm hp' (by omega) (by omega) (by omega)

def BagAt (H : Hp) (b : Addr) (n : Nat) : Prop := ∃ d m c : Int, H b = some (.lst [.int d, .int m, .int c]) ∧ 0 ≤ d ∧ 0 ≤ m ∧ m < 12000000000000000000 ∧ 0 ≤ c ∧ c ≤ n
def spDraw : Sp := fun vs H Q _ => ∃ (b : Addr) (n : Nat) (many : Int), vs = [.ref b, .int many] ∧ BagAt H b n ∧ n < 2 ^ 30 ∧ 0 < many ∧ many < 2 ^ 30 ∧
  ∀ (r : Int) (H' : Hp), 0 ≤ r → r < many → BagAt H' b (n + 1) → But b H H' → Q (.int r) H'
theorem sc_l_take : FnScope ["_law_bag_here", "_law_many", "_law_digit", "_law_mixed"] ["_law_bag_here", "_law_many"] (defScope s_l_take) := ⟨rfl, rfl, rfl, by decide +kernel, rfl, by decide +kernel, by decide +kernel⟩
theorem ok_l_take (T : Txt K mg a) : FnOk P w K mg base CX0 1 a.f_l_take a.d_l_take ["_law_bag_here", "_law_many"] spDraw := by
  refine T.F_l_take.ok sc_l_take (fun vs H Q E h => ?_) (fun cdv A outer s H vs Q E hr h => ?_)
  · obtain ⟨b, n, i, rfl, _⟩ := h
    rfl
  · obtain ⟨b, n, many, rfl, ⟨d, m, c, hb, d0, m0, m1, c0, c1⟩, hn, p0, p1, k⟩ := h
    refine ⟨_, (pss_cons (ps_if (pt_cmpR op_gt (pe_ix ix_list (pv 0) pe_int (fun _ _ => rfl)) pe_int (nomark _)) (pss_cons (ps_set (i := 2) sc_l_take.nd rfl (.inl rfl) (pe_op op_mod (pe_callTy call_int1 (by rfl) T.b_int (by decide +kernel) (pa_cons (pe_ix ix_list (pv 0) pe_int (fun _ _ => rfl)) pa_nil)) (pv 1)))
      (pss_cons (ps_asg (pe_op op_fdiv (pe_ix ix_list (pv 0) pe_int (fun _ _ => rfl)) (pv 1)) (pg_sub (pv 0) pe_int set_list))
      (pss_one (ps_ret (pv 2))))) pss_nil)
      (pss_cons (ps_asg (pe_op op_add (pe_ix ix_list (pv 0) pe_int (fun _ _ => rfl)) pe_int) (pg_sub (pv 0) pe_int set_list))
      (pss_cons (ps_set (i := 3) sc_l_take.nd rfl (.inl rfl) (pe_op op_mod (pe_callTy call_int1 (by rfl) T.b_int (by decide +kernel) (pa_cons (pe_op op_pow (pe_op op_add (pe_ix ix_list (pv 0) pe_int (fun _ _ => rfl)) (pe_op op_mul pe_int (pe_ix ix_list (pv 0) pe_int (fun _ _ => rfl)))) pe_int) pa_nil)) pe_int))
      (pss_cons (ps_set (i := 3) sc_l_take.nd rfl (.inl rfl) (pe_op op_mod (pe_callTy call_int1 (by rfl) T.b_int (by decide +kernel) (pa_cons (pe_op op_pow (pe_op op_add (pv 3) (pe_op op_mul pe_int (pe_ix ix_list (pv 0) pe_int (fun _ _ => rfl)))) pe_int) pa_nil)) pe_int))
      (pss_one (ps_ret (pe_op op_mod (pe_callTy call_int1 (by rfl) T.b_int (by decide +kernel) (pa_cons (pe_op op_fdiv (pv 3) pe_int) pa_nil)) (pv 1)))))))), ?_⟩
    refine ⟨_, rfl, b, _, _, _, rfl, rfl, SqL.of hb, rfl, _, _, rfl, rfl, _, rfl, ?_⟩
    refine ite2 (fun h => ?_) (fun h => ?_)
    · have h1 : 0 < d := of_decide_eq_true h
      refine ⟨_, rfl, b, _, _, _, rfl, rfl, SqL.of hb, rfl, .inl ⟨_, rfl, _, rfl, _, _, rfl, rfl, p0, ?_⟩⟩
      refine ⟨_, rfl, b, _, _, _, rfl, rfl, SqL.of hb, rfl, _, rfl, _, _, rfl, rfl, ⟨p0, by omega⟩, ?_⟩
      refine ⟨_, rfl, b, _, _, _, rfl, rfl, hb, rfl, ?_⟩
      refine ⟨_, rfl, ?_⟩
      refine k _ _ (Int.emod_nonneg _ (by omega)) (Int.emod_lt_of_pos _ p0) ⟨d / many, m, c, upd_same, Int.ediv_nonneg d0 (by omega), m0, m1, c0, by omega⟩ But.upd
    · refine ⟨_, rfl, b, _, _, _, rfl, rfl, SqL.of hb, rfl, _, _, rfl, rfl, ?_⟩
      refine ⟨_, rfl, b, _, _, _, rfl, rfl, hb, rfl, ?_⟩
      have hb2 : (upd H b (.lst ([V.int d, V.int m, V.int c].set 2 (V.int (c + 1))))) b = some (.lst [.int d, .int m, .int (c + 1)]) := upd_same
      refine ⟨_, rfl, b, _, _, _, rfl, rfl, SqL.of hb2, rfl, _, rfl, b, _, _, _, rfl, rfl, SqL.of hb2, rfl, _, _, rfl, rfl, .inl ⟨by decide, by decide⟩, _, _, rfl, rfl, _, _, rfl, rfl, ⟨by decide, by decide, by omega⟩, .inl ⟨_, rfl, _, _, rfl, rfl, (by show (0 : Int) < 2305843009213693921; decide), ?_⟩⟩
      generalize e : (m + 1000081 * (c + 1)) ^ Int.toNat 3 % 2305843009213693921 = x
      have x0 : 0 ≤ x := by rw [← e]; exact Int.emod_nonneg _ (by decide)
      have x1 : x < 2305843009213693921 := by rw [← e]; exact Int.emod_lt_of_pos _ (by decide)
      refine ⟨_, rfl, _, rfl, b, _, _, _, rfl, rfl, SqL.of hb2, rfl, _, _, rfl, rfl, .inl ⟨by decide, by decide⟩, _, _, rfl, rfl, _, _, rfl, rfl, ⟨by decide, by decide, by omega⟩, .inl ⟨_, rfl, _, _, rfl, rfl, (by show (0 : Int) < 2305843009213693951; decide), ?_⟩⟩
      generalize e2 : (x + 32452867 * (c + 1)) ^ Int.toNat 2 % 2305843009213693951 = y
      refine ⟨_, rfl, _, _, rfl, rfl, ⟨by decide, by decide⟩, .inl ⟨_, rfl, _, rfl, _, _, rfl, rfl, p0, ?_⟩⟩
      exact k _ _ (Int.emod_nonneg _ (by omega)) (Int.emod_lt_of_pos _ p0) ⟨d, m, c + 1, hb2, d0, m0, m1, by omega, by omega⟩ But.upd

theorem BagAt.mono {H : Hp} {b : Addr} {m n : Nat} (h : BagAt H b m) (e : m ≤ n) : BagAt H b n := by
  obtain ⟨d, x, c, h1, h2, h3, h4, h5, h6⟩ := h
  exact ⟨d, x, c, h1, h2, h3, h4, h5, by omega⟩
theorem BagAt.keep {H H' : Hp} {b : Addr} {n : Nat} (h : BagAt H b n) (s : Same H H') : BagAt H' b n := by
  obtain ⟨d, x, c, h1, h2⟩ := h
  exact ⟨d, x, c, s _ _ h1, h2⟩
theorem BagAt.ne {H : Hp} {b p : Addr} {n : Nat} (h : BagAt H b n) (e : H p = none) : p ≠ b := by
  obtain ⟨d, x, c, h1, _⟩ := h
  exact (ne_of_none h1 e).symm
theorem BagAt.upd {H : Hp} {b p : Addr} {o : HO} {n : Nat} (h : BagAt H b n) (e : p ≠ b) : BagAt (upd H p o) b n := by
  obtain ⟨d, x, c, h1, h2⟩ := h
  exact ⟨d, x, c, by rw [upd_ne e.symm]; exact h1, h2⟩
theorem BagAt.lst {H : Hp} {b : Addr} {n : Nat} (h : BagAt H b n) : ∃ xs, H b = some (.lst xs) := by
  obtain ⟨d, x, c, h1, h2⟩ := h
  exact ⟨_, h1⟩

def spValues : Sp := fun vs H Q _ => ∃ (b : Addr) (n : Nat), vs = [.ref b] ∧ BagAt H b n ∧ n < 2 ^ 28 ∧
  ∀ (l : Addr) (ns : List Int) (H' : Hp), H l = none → H' l = some (.lst (ns.map V.int)) → (∀ k ∈ ns, 0 ≤ k) → ns.length ≤ 9 → BagAt H' b (n + 19) → But b H H' → Q (.ref l) H'
theorem sc_l_values : FnScope ["_law_bag_here", "_law_turn"] ["_law_bag_here"] (defScope s_l_values) := ⟨rfl, rfl, rfl, by decide +kernel, rfl, by decide +kernel, by decide +kernel⟩
theorem ok_l_values (T : Txt K mg a) : FnOk P w K mg base CX0 2 a.f_l_values a.d_l_values ["_law_bag_here"] spValues := by
  refine T.F_l_values.ok sc_l_values (fun vs H Q E h => ?_) (fun cdv A outer s H vs Q E hr h => ?_)
  · obtain ⟨b, n, rfl, _⟩ := h
    rfl
  · obtain ⟨b, n, rfl, hb, hn, k⟩ := h
    refine ⟨_, (pss_one (ps_ret (pe_lc (own := [("_law_turn", 1)]) (g := gName 1) (tt := tYes) (te := (tCall spDraw [] E0 (tCons (tVar 0) (tCons (tOp (rIxL K) (tLstS (tCons (tC (.int 4)) (tCons (tC (.int 11)) (tCons (tC (.int 1001)) tNil)))) (tCall spDraw [] E0 (tCons (tVar 0) (tCons (tC (.int 3)) tNil)))) tNil)))) rfl sc_l_values.nd (pi_range1 (by rfl) T.b_range (pa_cons (pe_call (ok_l_take T) (hr.mono (by decide)) rfl T.m_l_take T.k_l_take T.a_l_take .nil pass0 (pa_cons (pv 0) (pa_cons pe_int pa_nil))) pa_nil)) (blkOk_by (own := [("_law_turn", 1)]) (N := ["_law_bag_here", "_law_turn"]) (sc := defScope s_l_values) (by decide +kernel)) (fun _ _ _ _ _ => (pg_name (i := 1) sc_l_values.nd rfl (.inl rfl))) (fun _ _ _ _ _ => pts_nil) (fun _ _ _ _ _ => (pe_call (ok_l_take T) (hr.mono (by decide)) rfl T.m_l_take T.k_l_take T.a_l_take .nil pass0 (pa_cons (pv 0) (pa_cons (pe_ix ix_list (pe_lstS (pa_cons pe_int (pa_cons pe_int (pa_cons pe_int pa_nil)))) (pe_call (ok_l_take T) (hr.mono (by decide)) rfl T.m_l_take T.k_l_take T.a_l_take .nil pass0 (pa_cons (pv 0) (pa_cons pe_int pa_nil))) (fun _ _ => rfl)) pa_nil))))))), ?_⟩
    refine ⟨_, rfl, b, n, 10, rfl, hb, by omega, by decide, by decide, fun r H1 r0 r1 hb1 bt1 => ?_⟩
    refine ⟨_, rfl, by omega, by omega, fun D hD => ?_⟩
    have nD : D ≠ b := hb1.ne hD
    refine lc_range (lo := 0) (fun i H2 => ∃ ns : List Int, H2 D = some (.lst (ns.map V.int)) ∧ ns.length = i ∧ (∀ k ∈ ns, 0 ≤ k) ∧ BagAt H2 b (n + 1 + 2 * i) ∧ ∀ q o, H1 q = some o → q ≠ b → H2 q = some o)
      ⟨[], upd_same, rfl, fun y hy => (by cases hy), hb1.upd nD, fun q o e hq => by rw [upd_ne (ne_of_none e hD)]; exact e⟩ ?_ ?_
    · rintro i H2 hi ⟨ns, hD2, hlen, hall, hb2, hk⟩
      refine ⟨rfl, _, rfl, (by show 3 ≤ sizeLine; decide), fun l H3 hl sm3 hl3 => ?_⟩
      refine ⟨_, rfl, b, n + 1 + 2 * i, 3, rfl, hb2.keep sm3, by omega, by decide, by decide, fun j H4 j0 j1 hb4 bt4 => ?_⟩
      have nl : l ≠ b := hb2.ne hl
      obtain ⟨v, hv, hat⟩ := atI_some (rs := [V.int 4, V.int 11, V.int 1001]) (i := j) (by show -(3 : Int) ≤ j; omega) (by show j < (3 : Int); omega)
      obtain ⟨m, rfl, m0, m1⟩ : ∃ m : Int, v = .int m ∧ 0 < m ∧ m < 2 ^ 30 := by
        simp only [List.mem_cons, List.not_mem_nil, or_false] at hv
        rcases hv with rfl | rfl | rfl
        all_goals exact ⟨_, rfl, by decide, by decide⟩
      refine ⟨l, _, _, _, rfl, rfl, SqL.of (bt4 _ _ hl3 nl), hat, b, _, m, rfl, hb4, by omega, m0, m1, fun z H5 z0 z1 hb5 bt5 => ?_⟩
      refine ⟨_, bt5 _ _ (bt4 _ _ (sm3 _ _ hD2) nD) nD, ?_, ns ++ [z], ?_, by rw [List.length_append, hlen]; rfl, ?_, ?_, fun q o e hq => ?_⟩
      · rw [List.length_map]
        exact sz_lt (by omega)
      · rw [upd_same, List.map_append]
        rfl
      · intro y hy
        rcases List.mem_append.mp hy with hy | hy
        · exact hall y hy
        · rw [List.mem_singleton.mp hy]
          exact z0
      · exact (hb5.mono (by omega)).upd nD
      · rw [upd_ne (ne_of_none e hD)]
        exact bt5 q o (bt4 q o (sm3 q o (hk q o e hq)) hq) hq
    · rintro H2 ⟨ns, hD2, hlen, hall, hb2, hk⟩
      have nD0 : H D = none := by
        cases e : H D with
        | none => rfl
        | some o => exact absurd (bt1 _ _ e nD) (by rw [hD]; exact fun z => nomatch z)
      exact k D ns H2 nD0 hD2 hall (by omega) (hb2.mono (by omega)) (bt1.trans hk)

def spBuilt (K : PySem.W.Frag) (a : Ad) : Sp := fun vs H Q _ => ∃ (l : Addr) (ns : List Int), vs = [.ref l] ∧ SqL K H l (ns.map V.int) ∧ ns.length ≤ 100 ∧
  ∀ x ls H', (∀ k, k ∈ ls ↔ k ∈ ns) → ls.length ≤ ns.length → Same H H' → ChAt a H' x ls false → Q (.ref x) H'
theorem sc_l_built : FnScope ["_law_listed", "_law_found", "_law_value"] ["_law_listed"] (defScope s_l_built) := ⟨rfl, rfl, rfl, by decide +kernel, rfl, by decide +kernel, by decide +kernel⟩
theorem ok_l_built (T : Txt K mg a) : FnOk P w K mg base CX0 4 a.f_l_built a.d_l_built ["_law_listed"] (spBuilt K a) := by
  refine T.F_l_built.ok sc_l_built (fun vs H Q E h => ?_) (fun cdv A outer s H vs Q E hr h => ?_)
  · obtain ⟨l, ns, rfl, _⟩ := h
    rfl
  · obtain ⟨l, ns, rfl, hl, hn, k⟩ := h
    refine ⟨_, (pss_cons (ps_set (i := 1) sc_l_built.nd rfl (.inl rfl) (pe_mkC0 (mkR_Choice T (hr.mono (by decide))) T.mk_Choice.kp rfl T.m_Choice))
      (pss_cons (ps_for PassesOwn.never rfl (pi_list (pv 0)) (pg_name (i := 2) sc_l_built.nd rfl (.inl rfl))
      (pss_one (ps_set (i := 1) sc_l_built.nd rfl (.inl rfl) (pe_op (op_ownBin (C := a.C_Choice) T.sf_Choice T.f_Choice__or T.i_Choice__or ((ok_Choice__or T).raw T.a_Choice__or .nil) (hr.mono (by decide)) pass0) (pv 1) (pe_mkC (mkR_Choice T (hr.mono (by decide))) T.mk_Choice.kp rfl T.m_Choice (pa_cons (pv 2) pa_nil))))))
      (pss_one (ps_ret (pv 1))))), ?_⟩
    refine ⟨[], rfl, by decide, fun ls x H1 mem len nx s1 ch => ?_⟩
    have e0 : ls = [] := List.length_eq_zero_iff.mp (Nat.le_zero.mp len)
    subst e0
    refine ⟨_, rfl, l, rfl, ⟨_, s1.seq hl⟩, for_list (K := K) (a := l) (xs := ns.map V.int) (fun i σ H' => ∃ (v2 : Option V) (f : Addr) (ls : List Int), σ = [some (.ref l), some (.ref f), v2] ∧ Same H H' ∧ ChAt a H' f ls false ∧ (∀ k, k ∈ ls ↔ k ∈ ns.take i) ∧ ls.length ≤ i)
      ⟨_, x, [], rfl, s1, ch, fun k => by simp, Nat.le_refl _⟩ (fun i σ H' _ ⟨_, _, _, _, z, _⟩ => z.seq hl) ?_ ?_⟩
    · rintro i v σ H2 hv ⟨v2, f, ls, rfl, s2, ch2, mem2, len2⟩
      rw [List.getElem?_map] at hv
      obtain ⟨c, hc, rfl⟩ := Option.map_eq_some_iff.mp hv
      have hi : i < ns.length := (List.getElem?_eq_some_iff.mp hc).1
      refine ⟨_, rfl, _, rfl, [c], rfl, (by show 1 ≤ 4000; decide), fun ms y H3 mem3 len3 ny s3 ch3 => ?_⟩
      obtain ⟨d1, f1, i1⟩ := (ch2.keep s3).ins
      obtain ⟨d2, f2, i2⟩ := ch3.ins
      have l3 : ms.length ≤ 1 := len3
      refine ⟨f, y, d1, d2, f1, f2, rfl, rfl, i1, i2, f, y, ls, ms, false, false, rfl, ch2.keep s3, ch3, by omega, fun z zs H4 hh hlen s4 ch4 => ?_⟩
      refine ⟨_, z, zs, rfl, (s2.trans s3).trans s4, ch4, fun k => ?_, by omega⟩
      have h1 := hh k
      have h2 := mem2 k
      have h3 := mem3 k
      rw [List.take_add_one, hc]
      unfold has at h1
      simp only [Option.toList_some, List.mem_append, List.mem_singleton] at *
      rw [← h2, ← h3]
      by_cases p : k ∈ zs <;> by_cases q : k ∈ ls <;> by_cases r : k ∈ ms <;> simp [p, q, r] at h1 ⊢
    · rintro σ H2 ⟨v2, f, ls, rfl, s2, ch2, mem2, len2⟩
      rw [List.length_map] at len2 mem2
      rw [List.take_length] at mem2
      exact ⟨_, rfl, k f ls H2 mem2 len2 s2 ch2⟩

end
end Toy

set_option Elab.async false
set_option linter.all false
set_option maxRecDepth 100000
set_option maxHeartbeats 4000000
set_option pp.maxSteps 1500
set_option pp.deepTerms false
namespace Toy
open PySem L2 Lf
section
variable {P : Program} {w : World} {K : PySem.W.Frag} {mg : Str → Option Value} {base : Heap} {a : Ad}

def spAgr (K : PySem.W.Frag) (a : Ad) : Sp := fun vs H Q _ => ∃ (x l : Addr) (ls ns : List Int) (b r : Bool), vs = [.ref x, .ref l, .bl r] ∧ ChAt a H x ls b ∧ SqL K H l (ns.map V.int) ∧ ns.length ≤ 2000 ∧ (∀ k ∈ ns, 0 ≤ k) ∧
  (∀ k, 0 ≤ k → has ls b k = (decide (k ∈ ns) != r)) ∧ ∀ H', Same H H' → Q (.bl true) H'
theorem sc_l_agrees : FnScope ["_law_choice", "_law_listed", "_law_is_rest", "_law_some", "_law_tried", "_law_value", "_law_others"] ["_law_choice", "_law_listed", "_law_is_rest"] (defScope s_l_agrees) := ⟨rfl, rfl, rfl, by decide +kernel, rfl, by decide +kernel, by decide +kernel⟩
theorem ok_l_agrees (T : Txt K mg a) : FnOk P w K mg base CX0 3 a.f_l_agrees a.d_l_agrees ["_law_choice", "_law_listed", "_law_is_rest"] (spAgr K a) := by
  refine T.F_l_agrees.ok sc_l_agrees (fun vs H Q E h => ?_) (fun cdv A outer s H vs Q E hr h => ?_)
  · obtain ⟨x, l, ls, ns, b, r, rfl, _⟩ := h
    rfl
  · obtain ⟨x, l, ls, ns, b, r, rfl, ch, hl, hn, h0, hag, k⟩ := h
    refine ⟨_, (pss_cons (ps_set (i := 3) sc_l_agrees.nd rfl (.inl rfl) (pe_op op_catS (pe_slice sl_listS (pv 1) po_none (po_some pe_int)) (pe_slice sl_listS (pv 1) (po_some (pe_un un_neg pe_int)) po_none)))
      (pss_cons (ps_set (i := 4) sc_l_agrees.nd rfl (.inl rfl) (pe_op op_catS (pe_op op_catS (pv 3) (pe_lc (own := [("_law_value", 5)]) (g := gName 5) (tt := tYes) (te := (tOp rAddI (tVar 5) (tC (.int 1)))) rfl sc_l_agrees.nd (pi_list (pv 3)) (blkOk_by (own := [("_law_value", 5)]) (N := ["_law_choice", "_law_listed", "_law_is_rest", "_law_some", "_law_tried", "_law_value", "_law_others"]) (sc := defScope s_l_agrees) (by decide +kernel)) (fun _ _ _ _ _ => (pg_name (i := 5) sc_l_agrees.nd rfl (.inl rfl))) (fun _ _ _ _ _ => pts_nil) (fun _ _ _ _ _ => (pe_op op_add (pv 5) pe_int)))) (pe_lstS (pa_cons pe_int (pa_cons pe_int (pa_cons pe_int (pa_cons pe_int (pa_cons pe_int (pa_cons pe_int (pa_cons (pe_op op_pow pe_int pe_int) pa_nil))))))))))
      (pss_cons (ps_for PassesOwn.never rfl (pi_list (pv 4)) (pg_name (i := 5) sc_l_agrees.nd rfl (.inl rfl))
      (pss_one (ps_if (pt_cmpR op_ne (pe_cmpR (op_inOwn (C := a.C_Choice) T.f_Choice__contains T.i_Choice__contains ((ok_Choice__contains T).raw T.a_Choice__contains .nil) (hr.mono (by decide)) pass0) (pv 5) (pv 0) rfl) (pe_cmpR op_ne (pe_cmpR op_in_seq (pv 5) (pv 1) rfl) (pv 2) (nomark _)) (nomark _)) (pss_one (ps_ret pe_bl)) pss_nil)))
      (pss_cons (ps_set (i := 6) sc_l_agrees.nd rfl (.inl rfl) (pe_lstS (pa_cons (pe_un un_neg pe_int) (pa_cons (pe_op op_sub (pe_un un_neg pe_int) (pe_callB call_len_seq (by rfl) T.b_len PySem.boot_len (pa_cons (pv 1) pa_nil))) (pa_cons pe_non (pa_cons pe_str (pa_cons pe_str (pa_cons (pe_tupS (pa_cons pe_int pa_nil)) (pa_cons (pe_lstS pa_nil) (pa_cons pe_bl (pa_cons pe_bl (pa_cons (pv 0) (pa_cons (pe_op op_mul (pe_op op_pow pe_int pe_int) (pe_un un_neg pe_int)) pa_nil)))))))))))))
      (pss_one (ps_ret (pe_not (pe_callB (cr_any rfl) (by rfl) T.b_any (by decide +kernel) (pa_cons (pe_lc (own := [("_law_value", 5)]) (g := gName 5) (tt := tYes) (te := (tOp (rInOwn a.C_Choice (rawS (spCHas K a)) E0 false) (tVar 5) (tVar 0))) rfl sc_l_agrees.nd (pi_list (pv 6)) (blkOk_by (own := [("_law_value", 5)]) (N := ["_law_choice", "_law_listed", "_law_is_rest", "_law_some", "_law_tried", "_law_value", "_law_others"]) (sc := defScope s_l_agrees) (by decide +kernel)) (fun _ _ _ _ _ => (pg_name (i := 5) sc_l_agrees.nd rfl (.inl rfl))) (fun _ _ _ _ _ => pts_nil) (fun _ _ _ _ _ => (pe_cmpR (op_inOwn (C := a.C_Choice) T.f_Choice__contains T.i_Choice__contains ((ok_Choice__contains T).raw T.a_Choice__contains .nil) (hr.mono (by decide)) pass0) (pv 5) (pv 0) rfl))) pa_nil))))))))), ?_⟩
    refine ⟨_, rfl, _, rfl, l, _, rfl, hl, fun q1 H1 nq1 s1 hq1 => ?_⟩
    refine ⟨_, rfl, _, rfl, _, rfl, l, _, rfl, s1.seq hl, fun q2 H2 nq2 s2 hq2 => ?_⟩
    rw [cutV_ints] at hq1 hq2
    generalize ec1 : cutI ns none (some 12) = c1 at hq1
    generalize ec2 : cutI ns (some (-3)) none = c2 at hq2
    have l1 : c1.length ≤ 2000 := by rw [← ec1]; exact Nat.le_trans (cutI_len ..) hn
    have l2 : c2.length ≤ 2000 := by rw [← ec2]; exact Nat.le_trans (cutI_len ..) hn
    have m1 : ∀ k ∈ c1, 0 ≤ k := fun k hk => h0 k (by rw [← ec1] at hk; exact cutI_mem hk)
    have m2 : ∀ k ∈ c2, 0 ≤ k := fun k hk => h0 k (by rw [← ec2] at hk; exact cutI_mem hk)
    refine ⟨q1, q2, _, _, rfl, rfl, s2 _ _ hq1, hq2, by rw [List.length_map, List.length_map]; exact sz_of (by omega), fun q3 H3 nq3 s3 hq3 => ?_⟩
    rw [← List.map_append] at hq3
    generalize ec3 : c1 ++ c2 = c3 at hq3
    have l3 : c3.length ≤ 4000 := by rw [← ec3, List.length_append]; omega
    have m3 : ∀ k ∈ c3, 0 ≤ k := fun k hk => by
      rw [← ec3] at hk
      exact (List.mem_append.mp hk).elim (m1 k) (m2 k)
    clear ec1 ec2 ec3 hq1 hq2
    refine ⟨_, rfl, _, rfl, q3, rfl, ⟨_, SqL.of hq3⟩, fun D nD => lc_listF (K := K) (a := q3) (xs := c3.map V.int) (intM (· + 1)) nD (by rw [List.length_map]; omega) (fun H' s' => SqL.of (s' _ _ hq3)) ?_ fun H4 s4 hD => ?_⟩
    · intro v hv H' N s' hN
      obtain ⟨c, hc, rfl⟩ := List.mem_map.mp hv
      exact ⟨rfl, _, rfl, _, _, rfl, rfl, hN H' (Same.refl _)⟩
    rw [fm_intM] at hD
    refine ⟨q3, D, _, _, rfl, rfl, s4 _ _ hq3, hD, by rw [List.length_map, List.length_map, List.length_map]; exact sz_of (by omega), fun q5 H5 nq5 s5 hq5 => ?_⟩
    rw [← List.map_append] at hq5
    refine ⟨_, _, rfl, rfl, ⟨by decide, by decide, by decide⟩, (by show 7 ≤ sizeLine; decide), fun q6 H6 nq6 s6 hq6 => ?_⟩
    refine ⟨q5, q6, _, _, rfl, rfl, s6 _ _ hq5, hq6, ?_, fun q7 H7 nq7 s7 hq7 => ?_⟩
    · rw [List.length_map, List.length_append, List.length_map]
      show c3.length + c3.length + 7 ≤ sizeLine
      exact sz_of (by omega)
    have sA : Same H H7 := (((((s1.trans s2).trans s3).trans s4).trans s5).trans s6).trans s7
    generalize hws : (_ ++ _ : List V) = ws at hq7
    have allI : ∀ v ∈ ws, ∃ i : Int, v = V.int i ∧ 0 ≤ i := by
      intro v hv
      rw [← hws] at hv
      rcases List.mem_append.mp hv with h | h
      · obtain ⟨c, hc, rfl⟩ := List.mem_map.mp h
        refine ⟨c, rfl, ?_⟩
        rcases List.mem_append.mp hc with h | h
        · exact m3 c h
        · obtain ⟨d, hd, rfl⟩ := List.mem_map.mp h
          have := m3 d hd
          omega
      · simp only [List.mem_cons, List.not_mem_nil, or_false] at h
        rcases h with rfl | rfl | rfl | rfl | rfl | rfl | rfl
        all_goals exact ⟨_, rfl, by decide +kernel⟩
    clear hws
    have ch7 := ch.keep sA
    have hl7 := sA.seq hl
    obtain ⟨dx, fs, hx⟩ := ch7.ins
    refine ⟨_, rfl, q7, rfl, ⟨_, SqL.of hq7⟩, for_list (K := K) (a := q7) (xs := ws) (fun i σ H' => ∃ (v5 : Option V), σ = [some (.ref x), some (.ref l), some (.bl r), some (.ref q3), some (.ref q7), v5, none] ∧ H' = H7)
      ⟨_, rfl, rfl⟩ (fun i σ H' _ ⟨_, _, z⟩ => by rw [z]; exact SqL.of hq7) ?_ ?_⟩
    · rintro i v σ H' hv ⟨v5, rfl, rfl⟩
      obtain ⟨c, rfl, c0⟩ := allI v (List.mem_of_getElem? hv)
      refine ⟨_, rfl, _, rfl, x, dx, _, rfl, hx, x, ls, b, _, rfl, ch7, .inl ⟨c, rfl, _, rfl, ?_⟩⟩
      refine ⟨_, rfl, _, rfl, l, _, rfl, .inl hl7, rfl, flat_ints ns, _, rfl, rfl, rfl, _, rfl, iteNS ?_ ?_⟩
      · show V.bl (decide (0 ≤ c) && has ls b c) = V.bl (!decide (V.bl (inV (.int c) (ns.map V.int)) = V.bl r))
        rw [inV_ints, blD, decide_eq_true c0, Bool.true_and, hag c c0]
        rfl
      · exact ⟨_, rfl, rfl⟩
    rintro σ H7 ⟨v5, rfl, rfl⟩
    -- others
    refine ⟨_, rfl, _, rfl, _, rfl, l, _, rfl, .inl hl7, _, _, rfl, rfl, (by show 1 ≤ sizeLine; decide), fun q8 H8 nq8 s8 hq8 => ?_⟩
    refine ⟨(by show 0 ≤ sizeLine; decide), fun q9 H9 nq9 s9 hq9 => ?_⟩
    refine ⟨_, rfl, _, _, rfl, rfl, ⟨by decide, by decide, by decide⟩, _, rfl, _, _, rfl, rfl, .inr ⟨by decide, by decide⟩, (by show 11 ≤ sizeLine; decide), fun q10 H10 nq10 s10 hq10 => ?_⟩
    have sB : Same H7 H10 := (s8.trans s9).trans s10
    refine ⟨_, rfl, q10, rfl, ⟨_, SqL.of hq10⟩, fun D2 nD2 => lc_listF (K := K) (a := q10) (xs := _) (fun _ => some (.bl false)) nD2 (by show 11 < 100000; decide) (fun H' s' => SqL.of (s' _ _ hq10)) ?_ fun H11 s11 hD11 => ?_⟩
    · intro v hv H' N s' hN
      have sC := sB.trans s'
      have hxz := sC _ _ hx
      have chz := ch7.keep sC
      have tail : N (some (.bl false)) H' := hN H' (Same.refl _)
      have neg : ∀ i : Int, i < 0 → N (some (.bl (if false = true then !(decide (0 ≤ i) && has ls b i) else (decide (0 ≤ i) && has ls b i)))) H' := fun i hi => by
        rw [decide_eq_false (by omega), Bool.false_and]
        exact tail
      simp only [List.mem_cons, List.not_mem_nil, or_false] at hv
      refine ⟨rfl, _, rfl, _, rfl, x, dx, _, rfl, hxz, x, ls, b, _, rfl, chz, ?_⟩
      rcases hv with rfl | rfl | rfl | rfl | rfl | rfl | rfl | rfl | rfl | rfl | rfl
      · exact .inl ⟨_, rfl, _, rfl, neg (-1) (by decide)⟩
      · exact .inl ⟨_, rfl, _, rfl, neg _ (by omega)⟩
      · exact .inr (.inr ⟨_, .base .non, kit_ty (by decide +kernel), _, rfl, tail⟩)
      · exact .inr (.inr ⟨_, .base (.str _), kit_ty (by decide +kernel), _, rfl, tail⟩)
      · exact .inr (.inr ⟨_, .base (.str _), kit_ty (by decide +kernel), _, rfl, tail⟩)
      · exact .inr (.inr ⟨_, .base (.tup (s' _ _ (s10 _ _ (s9 _ _ hq8)))), kit_ty (by decide +kernel), _, rfl, tail⟩)
      · exact .inr (.inr ⟨_, .base (.lst (s' _ _ (s10 _ _ hq9))), kit_ty (by decide +kernel), _, rfl, tail⟩)
      · exact .inr (.inl ⟨true, rfl, _, rfl, tail⟩)
      · exact .inr (.inl ⟨false, rfl, _, rfl, tail⟩)
      · exact .inr (.inr ⟨_, T.ct_Choice.ty hxz, T.ki_Choice_int, _, rfl, tail⟩)
      · exact .inl ⟨_, rfl, _, rfl, neg (10 ^ Int.toNat 20 * -1) (by decide +kernel)⟩
    · refine ⟨D2, List.replicate 11 false, rfl, SqL.of hD11, _, rfl, ?_⟩
      rw [any_rep]
      exact k H11 ((sA.trans sB).trans s11)

end
end Toy

set_option Elab.async false
set_option linter.all false
set_option maxRecDepth 100000
set_option maxHeartbeats 4000000
set_option pp.maxSteps 1500
set_option pp.deepTerms false
namespace Toy
open PySem L2 Lf
section
variable {P : Program} {w : World} {K : PySem.W.Frag} {mg : Str → Option Value} {base : Heap} {a : Ad}

theorem ch_same {H : Hp} {x y : Addr} {ls ms : List Int} {b c : Bool} (h1 : ChAt a H x ls b) (h2 : ChAt a H y ms c) (h : ∀ k, k ∈ ms ↔ k ∈ ls) : ms = ls := rise_eq h2.1 h1.1 h
def spRight : Sp := fun vs H Q _ => ∃ (b : Addr) (n : Nat), vs = [.ref b] ∧ BagAt H b n ∧ n < 2 ^ 27 ∧ ∀ (H' : Hp), BagAt H' b (n + 21) → But b H H' → Q (.bl true) H'
theorem sc_l_right : FnScope ["_law_bag_here", "_law_listed", "_law_many", "_law_one", "_law_first", "_law_same", "_law_other", "_law_value", "_law_thing"] ["_law_bag_here"] (defScope s_l_right) := ⟨rfl, rfl, rfl, by decide +kernel, rfl, by decide +kernel, by decide +kernel⟩
theorem ok_l_right (T : Txt K mg a) : FnOk P w K mg base CX0 5 a.f_l_right a.d_l_right ["_law_bag_here"] spRight := by
  refine T.F_l_right.ok sc_l_right (fun vs H Q E h => ?_) (fun cdv A outer s H vs Q E hr h => ?_)
  · obtain ⟨b, n, rfl, _⟩ := h
    rfl
  · obtain ⟨b, n, rfl, hb, hn, k⟩ := h
    refine ⟨_, (pss_cons (ps_par (i := 1) (j := 2) (by rfl) sc_l_right.nd rfl rfl (by decide) rfl rfl (pa_cons (pe_call (ok_l_values T) (hr.mono (by decide)) rfl T.m_l_values T.k_l_values T.a_l_values .nil pass0 (pa_cons (pv 0) pa_nil)) (pa_cons (pe_call (ok_l_take T) (hr.mono (by decide)) rfl T.m_l_take T.k_l_take T.a_l_take .nil pass0 (pa_cons (pv 0) (pa_cons (pe_ix ix_list (pe_lstS (pa_cons pe_int (pa_cons pe_int (pa_cons pe_int pa_nil)))) (pe_call (ok_l_take T) (hr.mono (by decide)) rfl T.m_l_take T.k_l_take T.a_l_take .nil pass0 (pa_cons (pv 0) (pa_cons pe_int pa_nil))) (fun _ _ => rfl)) pa_nil))) pa_nil)) (by rfl))
      (pss_cons (ps_asg (pe_tupS (pa_cons (pe_call (ok_l_built T) (hr.mono (by decide)) rfl T.m_l_built T.k_l_built T.a_l_built .nil pass0 (pa_cons (pv 1) pa_nil)) (pa_cons (ClX.pe_cmeth (pe_glob (v := .ref a.C_Choice) rfl T.m_Choice rfl) T.r_Choice T.cm_Choice_first ((ok_Choice_first T).raw T.a_Choice_first .nil) (hr.mono (by decide)) pass0 (pa_cons (pv 2) pa_nil)) pa_nil))) (pg_tup rfl (pgs_cons (pg_name (i := 3) sc_l_right.nd rfl (.inr rfl)) (pgs_cons (pg_name (i := 4) sc_l_right.nd rfl (.inl rfl)) pgs_nil))))
      (pss_cons (ps_if (PW.pt (pw_or (pt_not (pt_val (pe_call (ok_l_agrees T) (hr.mono (by decide)) rfl T.m_l_agrees T.k_l_agrees T.a_l_agrees .nil pass0 (pa_cons (pv 3) (pa_cons (pv 1) (pa_cons pe_bl pa_nil)))))) (pw_or1 (pt_not (pt_val (pe_call (ok_l_agrees T) (hr.mono (by decide)) rfl T.m_l_agrees T.k_l_agrees T.a_l_agrees .nil pass0 (pa_cons (pe_un (un_ownInv (C := a.C_Choice) T.f_Choice__invert T.i_Choice__invert ((ok_Choice__invert T).raw T.a_Choice__invert .nil) (hr.mono (by decide)) pass0) (pv 3)) (pa_cons (pv 1) (pa_cons pe_bl pa_nil))))))))) (pss_one (ps_ret pe_bl)) pss_nil)
      (pss_cons (ps_if (PW.pt (pw_or (pt_not (pt_val (pe_call (ok_l_agrees T) (hr.mono (by decide)) rfl T.m_l_agrees T.k_l_agrees T.a_l_agrees .nil pass0 (pa_cons (pv 4) (pa_cons (pe_listRg rfl (by rfl) T.b_list (prg_1 (by rfl) T.b_range (pv 2))) (pa_cons pe_bl pa_nil)))))) (pw_or1 (pt_not (pt_val (pe_call (ok_l_agrees T) (hr.mono (by decide)) rfl T.m_l_agrees T.k_l_agrees T.a_l_agrees .nil pass0 (pa_cons (pe_un (un_ownInv (C := a.C_Choice) T.f_Choice__invert T.i_Choice__invert ((ok_Choice__invert T).raw T.a_Choice__invert .nil) (hr.mono (by decide)) pass0) (pe_un (un_ownInv (C := a.C_Choice) T.f_Choice__invert T.i_Choice__invert ((ok_Choice__invert T).raw T.a_Choice__invert .nil) (hr.mono (by decide)) pass0) (pv 3))) (pa_cons (pv 1) (pa_cons pe_bl pa_nil))))))))) (pss_one (ps_ret pe_bl)) pss_nil)
      (pss_cons (ps_set (i := 5) sc_l_right.nd rfl (.inl rfl) (pe_call (ok_l_built T) (hr.mono (by decide)) rfl T.m_l_built T.k_l_built T.a_l_built .nil pass0 (pa_cons (pe_op op_catS (pe_revL (pv 1)) (pe_slice sl_listS (pv 1) po_none (po_some pe_int))) pa_nil)))
      (pss_cons (ps_if (PW.pt (pw_or (pt_cmpR (op_ownNe (C := a.C_Choice) T.o_Choice T.ne_Choice T.f_Choice__eq T.i_Choice__eq ((ok_Choice__eq T).raw T.a_Choice__eq .nil) (hr.mono (by decide)) pass0) (pv 3) (pv 5) (nomark _)) (pw_or (pt_not (pt_cmpR (op_ownEq (C := a.C_Choice) T.f_Choice__eq T.i_Choice__eq ((ok_Choice__eq T).raw T.a_Choice__eq .nil) (hr.mono (by decide)) pass0) (pv 3) (pv 5) (nomark _))) (pw_or (pt_cmpR (op_ownNe (C := a.C_Choice) T.o_Choice T.ne_Choice T.f_Choice__eq T.i_Choice__eq ((ok_Choice__eq T).raw T.a_Choice__eq .nil) (hr.mono (by decide)) pass0) (pe_un (un_ownInv (C := a.C_Choice) T.f_Choice__invert T.i_Choice__invert ((ok_Choice__invert T).raw T.a_Choice__invert .nil) (hr.mono (by decide)) pass0) (pv 3)) (pe_un (un_ownInv (C := a.C_Choice) T.f_Choice__invert T.i_Choice__invert ((ok_Choice__invert T).raw T.a_Choice__invert .nil) (hr.mono (by decide)) pass0) (pv 5)) (nomark _)) (pw_or (pt_cmpR (op_ownEq (C := a.C_Choice) T.f_Choice__eq T.i_Choice__eq ((ok_Choice__eq T).raw T.a_Choice__eq .nil) (hr.mono (by decide)) pass0) (pv 3) (pe_un (un_ownInv (C := a.C_Choice) T.f_Choice__invert T.i_Choice__invert ((ok_Choice__invert T).raw T.a_Choice__invert .nil) (hr.mono (by decide)) pass0) (pv 3)) (nomark _)) (pw_or1 (pt_not (pt_cmpR (op_ownNe (C := a.C_Choice) T.o_Choice T.ne_Choice T.f_Choice__eq T.i_Choice__eq ((ok_Choice__eq T).raw T.a_Choice__eq .nil) (hr.mono (by decide)) pass0) (pv 3) (pe_un (un_ownInv (C := a.C_Choice) T.f_Choice__invert T.i_Choice__invert ((ok_Choice__invert T).raw T.a_Choice__invert .nil) (hr.mono (by decide)) pass0) (pv 5)) (nomark _))))))))) (pss_one (ps_ret pe_bl)) pss_nil)
      (pss_cons (ps_if (PW.pt (pw_or (pt_cmpR op_ne (pe_cmpR (op_ownEq (C := a.C_Choice) T.f_Choice__eq T.i_Choice__eq ((ok_Choice__eq T).raw T.a_Choice__eq .nil) (hr.mono (by decide)) pass0) (pv 3) (pv 4) (nomark _)) (pe_cmpR (op_eqIL hr.units) (pe_callB (cr_sortedSetA rfl) (by rfl) T.b_sorted (by decide +kernel) (pa_cons (pe_callTy (cr_setLI rfl) (by rfl) T.b_set (by decide +kernel) (pa_cons (pv 1) pa_nil)) pa_nil)) (pe_listRg rfl (by rfl) T.b_list (prg_1 (by rfl) T.b_range (pv 2))) (nomark _)) (nomark _)) (pw_or1 (pt_cmpR op_eq (pe_cmpR (op_ownNe (C := a.C_Choice) T.o_Choice T.ne_Choice T.f_Choice__eq T.i_Choice__eq ((ok_Choice__eq T).raw T.a_Choice__eq .nil) (hr.mono (by decide)) pass0) (pv 4) (pv 3) (nomark _)) (pe_cmpR (op_ownEq (C := a.C_Choice) T.f_Choice__eq T.i_Choice__eq ((ok_Choice__eq T).raw T.a_Choice__eq .nil) (hr.mono (by decide)) pass0) (pv 4) (pv 3) (nomark _)) (nomark _))))) (pss_one (ps_ret pe_bl)) pss_nil)
      (pss_cons (ps_set (i := 6) sc_l_right.nd rfl (.inl rfl) (pe_call (ok_l_built T) (hr.mono (by decide)) rfl T.m_l_built T.k_l_built T.a_l_built .nil pass0 (pa_cons (pe_op op_catS (pv 1) (pe_lc (own := [("_law_value", 7)]) (g := gName 7) (tt := tYes) (te := (tOp rAddI (tVar 7) (tC (.int 1)))) rfl sc_l_right.nd (pi_list (pe_slice sl_listS (pv 1) po_none (po_some pe_int))) (blkOk_by (own := [("_law_value", 7)]) (N := ["_law_bag_here", "_law_listed", "_law_many", "_law_one", "_law_first", "_law_same", "_law_other", "_law_value", "_law_thing"]) (sc := defScope s_l_right) (by decide +kernel)) (fun _ _ _ _ _ => (pg_name (i := 7) sc_l_right.nd rfl (.inl rfl))) (fun _ _ _ _ _ => pts_nil) (fun _ _ _ _ _ => (pe_op op_add (pv 7) pe_int)))) pa_nil)))
      (pss_cons (ps_if (pt_cmpR op_ne (pe_cmpR (op_ownEq (C := a.C_Choice) T.f_Choice__eq T.i_Choice__eq ((ok_Choice__eq T).raw T.a_Choice__eq .nil) (hr.mono (by decide)) pass0) (pv 3) (pv 6) (nomark _)) (pe_cmpR (op_eqIL hr.units) (pe_callB (cr_sortedSetA rfl) (by rfl) T.b_sorted (by decide +kernel) (pa_cons (pe_callTy (cr_setLI rfl) (by rfl) T.b_set (by decide +kernel) (pa_cons (pv 1) pa_nil)) pa_nil)) (pe_callB (cr_sortedSetA rfl) (by rfl) T.b_sorted (by decide +kernel) (pa_cons (pe_callTy (cr_setLI rfl) (by rfl) T.b_set (by decide +kernel) (pa_cons (pe_op op_catS (pv 1) (pe_lc (own := [("_law_value", 7)]) (g := gName 7) (tt := tYes) (te := (tOp rAddI (tVar 7) (tC (.int 1)))) rfl sc_l_right.nd (pi_list (pe_slice sl_listS (pv 1) po_none (po_some pe_int))) (blkOk_by (own := [("_law_value", 7)]) (N := ["_law_bag_here", "_law_listed", "_law_many", "_law_one", "_law_first", "_law_same", "_law_other", "_law_value", "_law_thing"]) (sc := defScope s_l_right) (by decide +kernel)) (fun _ _ _ _ _ => (pg_name (i := 7) sc_l_right.nd rfl (.inl rfl))) (fun _ _ _ _ _ => pts_nil) (fun _ _ _ _ _ => (pe_op op_add (pv 7) pe_int)))) pa_nil)) pa_nil)) (nomark _)) (nomark _)) (pss_one (ps_ret pe_bl)) pss_nil)
      (pss_cons (ps_if (pt_val (pe_callB (cr_any rfl) (by rfl) T.b_any (by decide +kernel) (pa_cons (pe_lc (own := [("_law_thing", 8)]) (g := gName 8) (tt := tYes) (te := (tOp (rOwnEq K a.C_Choice (rawS (spCEq K a)) E0) (tVar 3) (tVar 8))) rfl sc_l_right.nd (pi_tup (pe_tupS (pa_cons pe_non (pa_cons (pv 1) (pa_cons (pe_callTy call_tupleD (by rfl) T.b_tuple (by decide +kernel) (pa_cons (pv 1) pa_nil)) (pa_cons (pv 2) (pa_cons pe_str pa_nil))))))) (blkOk_by (own := [("_law_thing", 8)]) (N := ["_law_bag_here", "_law_listed", "_law_many", "_law_one", "_law_first", "_law_same", "_law_other", "_law_value", "_law_thing"]) (sc := defScope s_l_right) (by decide +kernel)) (fun _ _ _ _ _ => (pg_name (i := 8) sc_l_right.nd rfl (.inl rfl))) (fun _ _ _ _ _ => pts_nil) (fun _ _ _ _ _ => (pe_cmpR (op_ownEq (C := a.C_Choice) T.f_Choice__eq T.i_Choice__eq ((ok_Choice__eq T).raw T.a_Choice__eq .nil) (hr.mono (by decide)) pass0) (pv 3) (pv 8) (nomark _)))) pa_nil))) (pss_one (ps_ret pe_bl)) pss_nil)
      (pss_one (ps_ret (pe_call (ok_l_agrees T) (hr.mono (by decide)) rfl T.m_l_agrees T.k_l_agrees T.a_l_agrees .nil pass0 (pa_cons (pv 3) (pa_cons (pv 1) (pa_cons pe_bl pa_nil)))))))))))))))), ?_⟩
    refine ⟨_, rfl, b, n, rfl, hb, by omega, fun l ns H1 nl hl c0 cl hb1 bt1 => ?_⟩
    refine ⟨_, rfl, (by show 3 ≤ sizeLine; decide), fun q H2 nq s2 hq => ?_⟩
    refine ⟨_, rfl, b, n + 19, 3, rfl, hb1.keep s2, by omega, by decide, by decide, fun j H3 j0 j1 hb3 bt3 => ?_⟩
    have nqb : q ≠ b := hb1.ne nq
    have nlb : l ≠ b := hb.ne nl
    obtain ⟨v, hv, hat⟩ := atI_some (rs := [V.int 3, V.int 9, V.int 1001]) (i := j) (by show -(3 : Int) ≤ j; omega) (by show j < (3 : Int); omega)
    obtain ⟨m, rfl, m0, m1⟩ : ∃ m : Int, v = .int m ∧ 0 < m ∧ m ≤ 1001 := by
      simp only [List.mem_cons, List.not_mem_nil, or_false] at hv
      rcases hv with rfl | rfl | rfl
      all_goals exact ⟨_, rfl, by decide, by decide⟩
    refine ⟨q, _, _, _, rfl, rfl, SqL.of (bt3 _ _ hq nqb), hat, b, _, m, rfl, hb3, by omega, m0, by omega, fun many H4 z0 z1 hb4 bt4 => ?_⟩
    have hl4 := bt4 _ _ (bt3 _ _ (s2 _ _ hl) nlb) nlb
    have bt04 : But b H H4 := ((bt1.trans (But.of s2)).trans bt3).trans bt4
    clear hat hv m0 hq nqb hb3 bt3 bt4
    refine ⟨_, _, rfl, ?_⟩
    -- one, first
    refine ⟨_, rfl, l, ns, rfl, SqL.of hl4, by omega, fun x ls H5 mem5 len5 s5 ch5 => ?_⟩
    refine ⟨rfl, _, rfl, many, rfl, z0, by omega, fun y H6 ny s6 cy6 => ?_⟩
    refine ⟨(by show 2 ≤ sizeLine; decide), fun t H7 nt s7 ht => ?_⟩
    refine ⟨t, _, rfl, SqT.of ht, rfl, _, _, rfl, _, _, rfl, rfl, ?_⟩
    have s47 := (s5.trans s6).trans s7
    have cx7 := ch5.keep (s6.trans s7)
    have cy7 := cy6.keep s7
    have hl7 := s47 _ _ hl4
    have agr : ∀ k, 0 ≤ k → has ls false k = (decide (k ∈ ns) != false) := fun k _ => by
      unfold has
      rw [show decide (k ∈ ls) = decide (k ∈ ns) from decide_eq_decide.mpr (mem5 k)]
    have agn : ∀ k, 0 ≤ k → has ls true k = (decide (k ∈ ns) != true) := fun k _ => by
      unfold has
      rw [show decide (k ∈ ls) = decide (k ∈ ns) from decide_eq_decide.mpr (mem5 k)]
    obtain ⟨dx, fx, ix7⟩ := cx7.ins
    obtain ⟨dy, fy, iy7⟩ := cy7.ins
    clear ch5 cy6 s5 s6 s7 ht nt
    -- agrees(one), agrees(~one)
    refine ⟨_, rfl, _, rfl, x, l, ls, ns, false, false, rfl, cx7, SqL.of hl7, by omega, c0, agr, fun H8 s8 => ?_⟩
    refine ⟨_, rfl, iteF ?_⟩
    refine ⟨_, rfl, x, dx, _, rfl, s8 _ _ ix7, x, ls, false, rfl, cx7.keep s8, by omega, fun z9 H9 nz9 s9 cz9 => ?_⟩
    refine ⟨_, rfl, z9, l, ls, ns, true, true, rfl, cz9, SqL.of (s9 _ _ (s8 _ _ hl7)), by omega, c0, agn, fun H10 s10 => ?_⟩
    refine ⟨_, rfl, iteF ?_⟩
    have s710 := (s8.trans s9).trans s10
    -- agrees(first), agrees(~~one)
    refine ⟨_, rfl, _, rfl, _, rfl, RgOk.of_le (by decide) (by omega) (by decide) (by omega), fun q11 nq11 => ?_⟩
    have s11 := Same.new (o := .lst (rgV 0 many)) nq11
    have s711 := s710.trans s11
    refine ⟨y, q11, rgI many, rgI many, false, false, rfl, cy7.keep s711, SqL.of (by rw [upd_same, rgV_I]), by rw [rgI_len]; omega, fun k hk => (rgI_mem.mp hk).1, fun _ _ => rfl, fun H12 s12 => ?_⟩
    refine ⟨_, rfl, iteF ?_⟩
    have s712 := s711.trans s12
    refine ⟨_, rfl, x, dx, _, rfl, s712 _ _ ix7, x, ls, false, rfl, cx7.keep s712, by omega, fun z13 H13 nz13 s13 cz13 => ?_⟩
    obtain ⟨d13, f13, i13⟩ := cz13.ins
    refine ⟨z13, d13, _, rfl, i13, z13, ls, true, rfl, cz13, by omega, fun z14 H14 nz14 s14 cz14 => ?_⟩
    refine ⟨_, rfl, z14, l, ls, ns, false, false, rfl, cz14, SqL.of (s14 _ _ (s13 _ _ (s712 _ _ hl7))), by omega, c0, agr, fun H15 s15 => ?_⟩
    refine ⟨_, rfl, iteF ?_⟩
    have s715 := ((s712.trans s13).trans s14).trans s15
    have cx15 := cx7.keep s715
    have cy15 := cy7.keep s715
    have hl15 := s715 _ _ hl7
    have bt015 : But b H H15 := bt04.trans (But.of (s47.trans s715))
    have hb15 := hb4.keep (s47.trans s715)
    clear cz9 cz13 cz14 i13 s8 s9 s10 s11 s12 s13 s14 s15 s710 s711 s712 s715 s47 cx7 cy7 ix7 iy7 hl7 hb4 bt04
    -- same
    refine ⟨_, rfl, l, _, rfl, SqL.of hl15, fun q16 nq16 => ?_⟩
    have s16 := Same.new (o := .lst ((ns.map V.int).reverse)) nq16
    refine ⟨_, rfl, _, rfl, l, _, rfl, SqL.of (s16 _ _ hl15), fun q17 H17 nq17 s17 hq17 => ?_⟩
    rw [cutV_ints] at hq17
    have hq16 : H17 q16 = some (.lst (ns.reverse.map V.int)) := by rw [List.map_reverse]; exact s17 _ _ upd_same
    have lc17 := cutI_len ns none (some 2)
    refine ⟨q16, q17, _, _, rfl, rfl, hq16, hq17, by rw [List.length_map, List.length_map, List.length_reverse]; exact sz_of (by omega), fun q18 H18 nq18 s18 hq18 => ?_⟩
    rw [← List.map_append] at hq18
    refine ⟨q18, _, rfl, SqL.of hq18, by rw [List.length_append, List.length_reverse]; omega, fun w ms H19 mem19 len19 s19 cw19 => ?_⟩
    have s1519 := ((s16.trans s17).trans s18).trans s19
    have cx19 := cx15.keep s1519
    have cy19 := cy15.keep s1519
    have hl19 := s1519 _ _ hl15
    have e19 : ms = ls := ch_same cx19 cw19 fun k => by
      rw [mem19 k, mem5 k, List.mem_append, List.mem_reverse]
      exact ⟨fun h => h.elim id cutI_mem, .inl⟩
    subst e19
    obtain ⟨dx, fx, ix19⟩ := cx19.ins
    obtain ⟨dy, fy, iy19⟩ := cy19.ins
    obtain ⟨dw, fw, iw19⟩ := cw19.ins
    have eqT : (decide (ms = ms) && (false == false)) = true := by rw [decide_eq_true rfl]; rfl
    -- one != same or not one == same or ~one != ~same or one == ~one or not one != ~same
    refine ⟨_, rfl, _, rfl, x, dx, _, _, rfl, ix19, T.ct_Choice.ty iw19, nf_own, x, ms, false, _, rfl, cx19, .inl ⟨w, ms, false, rfl, cw19, _, rfl, _, rfl, ?_⟩⟩
    rw [eqT]
    refine iteF ?_
    refine ⟨_, rfl, _, rfl, x, dx, _, _, rfl, ix19, T.ct_Choice.ty iw19, nf_own, x, ms, false, _, rfl, cx19, .inl ⟨w, ms, false, rfl, cw19, _, rfl, ?_⟩⟩
    rw [eqT]
    refine iteF ?_
    refine ⟨_, rfl, x, dx, _, rfl, ix19, x, ms, false, rfl, cx19, by omega, fun z20 H20 nz20 s20 cz20 => ?_⟩
    refine ⟨_, rfl, w, dw, _, rfl, s20 _ _ iw19, w, ms, false, rfl, cw19.keep s20, by omega, fun z21 H21 nz21 s21 cz21 => ?_⟩
    have cz20' := cz20.keep s21
    obtain ⟨d20, f20, i20⟩ := cz20'.ins
    obtain ⟨d21, f21, i21⟩ := cz21.ins
    refine ⟨z20, d20, _, _, rfl, i20, T.ct_Choice.ty i21, nf_own, z20, ms, true, _, rfl, cz20', .inl ⟨z21, ms, true, rfl, cz21, _, rfl, _, rfl, ?_⟩⟩
    have eqT2 : (decide (ms = ms) && (true == true)) = true := by rw [decide_eq_true rfl]; rfl
    rw [show (decide (ms = ms) && (true == true)) = true from eqT2]
    refine iteF ?_
    have s1921 := s20.trans s21
    have cx21 := cx19.keep s1921
    have cw21 := cw19.keep s1921
    refine ⟨_, rfl, _, rfl, x, dx, _, rfl, s1921 _ _ ix19, x, ms, false, rfl, cx21, by omega, fun z22 H22 nz22 s22 cz22 => ?_⟩
    obtain ⟨d22, f22, i22⟩ := cz22.ins
    refine ⟨x, dx, _, _, rfl, s22 _ _ (s1921 _ _ ix19), T.ct_Choice.ty i22, nf_own, x, ms, false, _, rfl, cx21.keep s22, .inl ⟨z22, ms, true, rfl, cz22, _, rfl, ?_⟩⟩
    have eqF : (decide (ms = ms) && (false == true)) = false := by rw [decide_eq_true rfl]; rfl
    first | rw [show (decide (ms = ms) && (false == !false)) = false from eqF] | rw [eqF]
    refine iteF ?_
    have s1922 := s1921.trans s22
    refine ⟨_, rfl, _, rfl, w, dw, _, rfl, s1922 _ _ iw19, w, ms, false, rfl, cw21.keep s22, by omega, fun z23 H23 nz23 s23 cz23 => ?_⟩
    obtain ⟨d23, f23, i23⟩ := cz23.ins
    have s1923 := s1922.trans s23
    have cx23 := cx19.keep s1923
    refine ⟨x, dx, _, _, rfl, s1923 _ _ ix19, T.ct_Choice.ty i23, nf_own, x, ms, false, _, rfl, cx23, .inl ⟨z23, ms, true, rfl, cz23, _, rfl, _, rfl, ?_⟩⟩
    first | rw [show (decide (ms = ms) && (false == !false)) = false from eqF] | rw [eqF]
    refine iteF ?_
    have cy23 := cy19.keep s1923
    have hl23 := s1923 _ _ hl19
    have ix23 := s1923 _ _ ix19
    have iy23 := s1923 _ _ iy19
    have bt23 : But b H H23 := bt015.trans (But.of (s1519.trans s1923))
    have hb23 := hb15.keep (s1519.trans s1923)
    clear cx21 cw21 cz20 cz20' cz21 cz22 cz23 i20 i21 i22 i23 s20 s21 s22 s23 s1921 s1922 s1923 ix19 iy19 iw19 cw19 cx19 cy19 hl19 cx15 cy15 hl15 s16 s17 s18 s19 s1519
    -- (one == first) != (sorted(set(listed)) == list(range(many))) or (first != one) == (first == one)
    refine ⟨_, rfl, _, rfl, x, dx, _, _, rfl, ix23, T.ct_Choice.ty iy23, nf_own, x, ms, false, _, rfl, cx23, .inl ⟨y, _, false, rfl, cy23, ?_⟩⟩
    refine ⟨_, rfl, l, ns, rfl, SqL.of hl23, FewI.of_len (by omega), fun q24 c24 H24 nq24 s24 hq24 hc24 => ?_⟩
    refine ⟨q24, _, c24, rfl, hq24, fun ss q25 H25 rise25 mem25 len25 nq25 s25 hq25 => ?_⟩
    have es : ss = ms := rise_eq rise25 cx23.1 fun k => (mem25 k).trans (Iff.trans ⟨of_decide_eq_true, decide_eq_true⟩ (mem5 k).symm)
    subst es
    refine ⟨_, rfl, _, rfl, RgOk.of_le (by decide) (by omega) (by decide) (by omega), fun q26 nq26 => ?_⟩
    have s26 := Same.new (o := .lst (rgV 0 many)) nq26
    refine ⟨q25, q26, ss, rgI many, rfl, rfl, SqL.of (s26 _ _ hq25), SqL.of (by rw [upd_same, rgV_I]), rfl, _, rfl, iteNS ?_ ?_⟩
    · show V.bl (decide (ss = rgI many) && (false == false)) = V.bl (decide (ss = rgI many))
      rw [show (false == false) = true from rfl, Bool.and_true]
    have s2326 := (s24.trans s25).trans s26
    have cx26 := cx23.keep s2326
    have cy26 := cy23.keep s2326
    have ix26 := s2326 _ _ ix23
    have iy26 := s2326 _ _ iy23
    refine ⟨_, rfl, _, rfl, y, dy, _, _, rfl, iy26, T.ct_Choice.ty ix26, nf_own, y, _, false, _, rfl, cy26, .inl ⟨x, ss, false, rfl, cx26, _, rfl, ?_⟩⟩
    refine ⟨_, rfl, _, rfl, y, dy, _, _, rfl, iy26, T.ct_Choice.ty ix26, nf_own, y, _, false, _, rfl, cy26, .inl ⟨x, ss, false, rfl, cx26, rfl, _, rfl, ?_⟩⟩
    refine ite2 (fun h => ?_) (fun _ => ?_)
    · exfalso
      revert h
      cases (decide (rgI many = ss) && (false == false)) <;> decide
    -- other
    have s26' := s2326
    have hl26 := s2326 _ _ hl23
    refine ⟨_, rfl, _, rfl, _, rfl, l, _, rfl, SqL.of hl26, fun q27 H27 nq27 s27 hq27 => ?_⟩
    rw [cutV_ints] at hq27
    have lc27 := cutI_len ns none (some 1)
    refine ⟨q27, rfl, ⟨_, SqL.of hq27⟩, fun D nD => lc_listF (K := K) (a := q27) (xs := (cutI ns none (some 1)).map V.int) (intM (· + 1)) nD (by rw [List.length_map]; omega) (fun H' s' => SqL.of (s' _ _ hq27)) ?_ fun H28 s28 hD => ?_⟩
    · intro v hv H' N s' hN
      obtain ⟨c, hc, rfl⟩ := List.mem_map.mp hv
      exact ⟨rfl, _, rfl, _, _, rfl, rfl, hN H' (Same.refl _)⟩
    rw [fm_intM] at hD
    have hl28 := s28 _ _ (s27 _ _ hl26)
    refine ⟨l, D, _, _, rfl, rfl, hl28, hD, by rw [List.length_map, List.length_map, List.length_map]; exact sz_of (by omega), fun q29 H29 nq29 s29 hq29 => ?_⟩
    rw [← List.map_append] at hq29
    generalize eos : ns ++ (cutI ns none (some 1)).map (· + 1) = os at hq29
    have los : os.length ≤ 18 := by rw [← eos, List.length_append, List.length_map]; omega
    refine ⟨q29, os, rfl, SqL.of hq29, by omega, fun u us H30 mem30 len30 s30 cu30 => ?_⟩
    have s2630 := ((s27.trans s28).trans s29).trans s30
    have cx30 := cx26.keep s2630
    have ix30 := s2630 _ _ ix26
    have hl30 := s2630 _ _ hl26
    obtain ⟨du, fu, iu30⟩ := cu30.ins
    -- (one == other) != (sorted(set(listed)) == sorted(set(listed + ..)))
    refine ⟨_, rfl, _, rfl, x, dx, _, _, rfl, ix30, T.ct_Choice.ty iu30, nf_own, x, ss, false, _, rfl, cx30, .inl ⟨u, us, false, rfl, cu30, ?_⟩⟩
    refine ⟨_, rfl, l, ns, rfl, SqL.of hl30, FewI.of_len (by omega), fun q31 c31 H31 nq31 s31 hq31 hc31 => ?_⟩
    refine ⟨q31, _, c31, rfl, hq31, fun s1 q32 H32 rise32 mem32 len32 nq32 s32 hq32 => ?_⟩
    have es1 : s1 = ss := rise_eq rise32 rise25 fun k => (mem32 k).trans (Iff.trans ⟨of_decide_eq_true, decide_eq_true⟩ (mem5 k).symm)
    subst es1
    have hl32 := s32 _ _ (s31 _ _ hl30)
    refine ⟨_, rfl, _, rfl, _, rfl, l, _, rfl, SqL.of hl32, fun q33 H33 nq33 s33 hq33 => ?_⟩
    rw [cutV_ints] at hq33
    refine ⟨q33, rfl, ⟨_, SqL.of hq33⟩, fun D2 nD2 => lc_listF (K := K) (a := q33) (xs := (cutI ns none (some 1)).map V.int) (intM (· + 1)) nD2 (by rw [List.length_map]; omega) (fun H' s' => SqL.of (s' _ _ hq33)) ?_ fun H34 s34 hD2 => ?_⟩
    · intro v hv H' N s' hN
      obtain ⟨c, hc, rfl⟩ := List.mem_map.mp hv
      exact ⟨rfl, _, rfl, _, _, rfl, rfl, hN H' (Same.refl _)⟩
    rw [fm_intM] at hD2
    have hl34 := s34 _ _ (s33 _ _ hl32)
    refine ⟨l, D2, _, _, rfl, rfl, hl34, hD2, by rw [List.length_map, List.length_map, List.length_map]; exact sz_of (by omega), fun q35 H35 nq35 s35 hq35 => ?_⟩
    rw [← List.map_append, eos] at hq35
    refine ⟨q35, os, rfl, SqL.of hq35, FewI.of_len (by omega), fun q36 c36 H36 nq36 s36 hq36 hc36 => ?_⟩
    refine ⟨q36, _, c36, rfl, hq36, fun s2 q37 H37 rise37 mem37 len37 nq37 s37 hq37 => ?_⟩
    have es2 : s2 = us := rise_eq rise37 cu30.1 fun k => (mem37 k).trans (Iff.trans ⟨of_decide_eq_true, decide_eq_true⟩ (mem30 k).symm)
    subst es2
    have s3237 := (((s33.trans s34).trans s35).trans s36).trans s37
    refine ⟨q32, q37, s1, s2, rfl, rfl, SqL.of (s3237 _ _ hq32), SqL.of hq37, rfl, _, rfl, iteNS ?_ ?_⟩
    · show V.bl (decide (s1 = s2) && (false == false)) = V.bl (decide (s1 = s2))
      rw [show (false == false) = true from rfl, Bool.and_true]
    have s3037 := (s31.trans s32).trans s3237
    have cx37 := cx30.keep s3037
    have hl37 := s3037 _ _ hl30
    -- any([one == thing for thing in (..)])
    refine ⟨_, rfl, _, rfl, l, _, rfl, SqL.of hl37, fun t38 H38 nt38 s38 ht38 => ?_⟩
    refine ⟨_, rfl, (by show 5 ≤ sizeLine; decide), fun q39 H39 nq39 s39 hq39 => ?_⟩
    have s3739 := s38.trans s39
    refine ⟨q39, rfl, ⟨_, SqT.of hq39⟩, fun D3 nD3 => lc_tupF (K := K) (a := q39) (xs := _) (fun _ => some (.bl false)) nD3 (by show 5 < 100000; decide) (fun H' s' => SqT.of (s' _ _ hq39)) ?_ fun H40 s40 hD40 => ?_⟩
    · intro v hv H' N s' hN
      have sC := s3739.trans s'
      have cxz := cx37.keep sC
      obtain ⟨dz, fz, iz⟩ := cxz.ins
      have tail : N (some (.bl false)) H' := hN H' (Same.refl _)
      simp only [List.mem_cons, List.not_mem_nil, or_false] at hv
      rcases hv with rfl | rfl | rfl | rfl | rfl
      · exact ⟨rfl, _, rfl, _, rfl, x, dz, _, _, rfl, iz, .base .non, nf_ty mro_none, x, s1, false, _, rfl, cxz, .inr ⟨_, .base .non, mro_none, tail⟩⟩
      · exact ⟨rfl, _, rfl, _, rfl, x, dz, _, _, rfl, iz, .base (.lst (sC _ _ hl37)), nf_ty mro_list, x, s1, false, _, rfl, cxz, .inr ⟨_, .base (.lst (sC _ _ hl37)), mro_list, tail⟩⟩
      · have tt := ((ht38.keep s39).keep s').ty (K := K)
        exact ⟨rfl, _, rfl, _, rfl, x, dz, _, _, rfl, iz, tt, nf_ty mro_tuple, x, s1, false, _, rfl, cxz, .inr ⟨_, tt, mro_tuple, tail⟩⟩
      · exact ⟨rfl, _, rfl, _, rfl, x, dz, _, _, rfl, iz, .base (.int _), nf_ty mro_int, x, s1, false, _, rfl, cxz, .inr ⟨_, .base (.int _), mro_int, tail⟩⟩
      · exact ⟨rfl, _, rfl, _, rfl, x, dz, _, _, rfl, iz, .base (.str _), nf_ty mro_str, x, s1, false, _, rfl, cxz, .inr ⟨_, .base (.str _), mro_str, tail⟩⟩
    refine ⟨D3, List.replicate 5 false, rfl, SqL.of hD40, _, rfl, ?_⟩
    rw [any_rep]
    refine iteF ?_
    have s3740 := s3739.trans s40
    refine ⟨_, rfl, _, rfl, x, l, s1, ns, false, false, rfl, cx37.keep s3740, SqL.of (s3740 _ _ hl37), by omega, c0, agr, fun H41 s41 => ?_⟩
    have sF : Same H23 H41 := (((s2326.trans s2630).trans s3037).trans s3740).trans s41
    exact k H41 ((hb23.keep sF).mono (by omega)) (bt23.trans (But.of sF))

def spLaw (K : PySem.W.Frag) : Sp := fun vs H Q _ => ∃ (a : Addr) (ns : List Int), vs = [.ref a] ∧ SqL K H a (ns.map V.int) ∧ ns.length ≤ 63 ∧ ∀ H', Q (.bl true) H'
theorem sc_law : FnScope ["_law_script", "_law_at", "_law_bag_here", "_law_turn"] ["_law_script"] (defScope s_law) := ⟨rfl, rfl, rfl, by decide +kernel, rfl, by decide +kernel, by decide +kernel⟩
theorem ok_law (T : Txt K mg a) : FnOk P w K mg base CX0 6 a.f_law a.d_law ["_law_script"] (spLaw K) := by
  refine T.F_law.ok sc_law (fun vs H Q E h => ?_) (fun cdv A outer s H vs Q E hr h => ?_)
  · obtain ⟨l, ns, rfl, _⟩ := h
    rfl
  · obtain ⟨l, ns, rfl, hS, hlen, k⟩ := h
    refine ⟨_, (pss_cons (ps_for PassesOwn.never rfl (pi_range1 (by rfl) T.b_range (pa_cons (pe_callB (call_max2 rfl) (by rfl) T.b_max (by decide +kernel) (pa_cons pe_int (pa_cons (pe_callB (call_min2 rfl) (by rfl) T.b_min (by decide +kernel) (pa_cons pe_int (pa_cons (pe_callB call_len_seq (by rfl) T.b_len PySem.boot_len (pa_cons (pv 0) pa_nil)) pa_nil))) pa_nil))) pa_nil)) (pg_name (i := 1) sc_law.nd rfl (.inl rfl))
      (pss_cons (ps_set (i := 2) sc_law.nd rfl (.inl rfl) (pe_call (ok_l_bag T) (hr.mono (by decide)) rfl T.m_l_bag T.k_l_bag T.a_l_bag .nil pass0 (pa_cons (pv 0) (pa_cons (pv 1) pa_nil))))
      (pss_one (ps_for PassesOwn.never rfl (pi_range1 (by rfl) T.b_range (pa_cons pe_int pa_nil)) (pg_name (i := 3) sc_law.nd rfl (.inl rfl))
      (pss_one (ps_if (pt_not (pt_val (pe_call (ok_l_right T) (hr.mono (by decide)) rfl T.m_l_right T.k_l_right T.a_l_right .nil pass0 (pa_cons (pv 2) pa_nil)))) (pss_one (ps_ret pe_bl)) pss_nil))))))
      (pss_one (ps_ret (pe_and (pe_cmpR (op_ownEq (C := a.C_Choice) T.f_Choice__eq T.i_Choice__eq ((ok_Choice__eq T).raw T.a_Choice__eq .nil) (hr.mono (by decide)) pass0) (pe_mkC (mkR_Choice T (hr.mono (by decide))) T.mk_Choice.kp rfl T.m_Choice (pa_cons pe_int (pa_cons pe_int pa_nil))) (pe_mkC (mkR_Choice T (hr.mono (by decide))) T.mk_Choice.kp rfl T.m_Choice (pa_cons pe_int (pa_cons pe_int (pa_cons pe_int pa_nil)))) (nomark _)) (pe_and (pe_cmpR (op_ownNe (C := a.C_Choice) T.o_Choice T.ne_Choice T.f_Choice__eq T.i_Choice__eq ((ok_Choice__eq T).raw T.a_Choice__eq .nil) (hr.mono (by decide)) pass0) (pe_mkC (mkR_Choice T (hr.mono (by decide))) T.mk_Choice.kp rfl T.m_Choice (pa_cons pe_int pa_nil)) (pe_mkC0 (mkR_Choice T (hr.mono (by decide))) T.mk_Choice.kp rfl T.m_Choice) (nomark _)) (pe_one (pe_cmpR (op_ownEq (C := a.C_Choice) T.f_Choice__eq T.i_Choice__eq ((ok_Choice__eq T).raw T.a_Choice__eq .nil) (hr.mono (by decide)) pass0) (ClX.pe_cmeth (pe_glob (v := .ref a.C_Choice) rfl T.m_Choice rfl) T.r_Choice T.cm_Choice_first ((ok_Choice_first T).raw T.a_Choice_first .nil) (hr.mono (by decide)) pass0 (pa_cons pe_int pa_nil)) (pe_mkC0 (mkR_Choice T (hr.mono (by decide))) T.mk_Choice.kp rfl T.m_Choice) (nomark _)))))))), ?_⟩
    refine ⟨_, rfl, l, _, rfl, .inl hS, _, _, rfl, _, _, rfl, _, rfl, ?_, ?_, ?_⟩
    · split <;> split <;> omega
    · split <;> split <;> omega
    generalize em : Int.toNat _ = m
    have hm : m ≤ 4 := by
      rw [← em]
      split <;> split <;> omega
    refine for_range (lo := 0) (n := m) (fun i σ H' => ∃ (v1 v2 v3 : Option V), σ = [some (.ref l), v1, v2, v3] ∧ Same H H') ⟨_, _, _, rfl, Same.refl _⟩ ?_ ?_
    · rintro i σ H' hi ⟨v1, v2, v3, rfl, sm⟩
      refine ⟨_, rfl, _, rfl, l, ns, i, (by rw [Int.zero_add]; rfl), sm.seq hS, by omega, fun b d m H2 nb s2 hb d0 m0 m1 => ?_⟩
      have hb0 : BagAt H2 b 0 := ⟨d, m, 0, hb, d0, m0, m1, by decide, by decide⟩
      have nb0 : H b = none := sm.free nb
      refine ⟨2, rfl, by decide, by decide, for_range (lo := 0) (n := 2) (fun j σ H' => ∃ (v3 : Option V), σ = [some (.ref l), some (.int (0 + (i : Nat))), some (.ref b), v3] ∧ Same H H' ∧ BagAt H' b (21 * j)) ⟨_, rfl, sm.trans s2, hb0⟩ ?_ ?_⟩
      · rintro j σ H3 hj ⟨v3, rfl, s3, hb3⟩
        refine ⟨_, rfl, b, _, rfl, hb3, by omega, fun H4 hb4 bt4 => ?_⟩
        refine ⟨_, rfl, iteF ?_⟩
        exact ⟨_, rfl, fun q o e => bt4 q o (s3 q o e) (ne_of_none e nb0), hb4.mono (by omega)⟩
      · rintro σ H3 ⟨v3, rfl, s3, hb3⟩
        exact ⟨_, _, _, rfl, s3⟩
    · rintro σ H' ⟨v1, v2, v3, rfl, sm⟩
      refine ⟨[2, 0], rfl, (by show 2 ≤ 4000; decide), fun l1 x1 H1 mem1 len1 nx1 s1 c1 => ?_⟩
      refine ⟨[0, 2, 2], rfl, (by show 3 ≤ 4000; decide), fun l2 x2 H2 mem2 len2 nx2 s2 c2 => ?_⟩
      have c1' := c1.keep s2
      obtain ⟨d1, f1, i1⟩ := c1'.ins
      obtain ⟨d2, f2, i2⟩ := c2.ins
      have e1 : l1 = l2 := rise_eq c1.1 c2.1 fun k => by
        rw [mem1, mem2]
        simp only [List.mem_cons, List.not_mem_nil, or_false]
        omega
      refine ⟨x1, d1, _, _, rfl, i1, T.ct_Choice.ty i2, nf_own, x1, l1, false, _, rfl, c1', .inl ⟨x2, l2, false, rfl, c2, _, rfl, ?_⟩⟩
      rw [decide_eq_true e1]
      refine iteT ?_
      refine ⟨[1], rfl, (by show 1 ≤ 4000; decide), fun l3 x3 H3 mem3 len3 nx3 s3 c3 => ?_⟩
      refine ⟨[], rfl, by decide, fun l4 x4 H4 mem4 len4 nx4 s4 c4 => ?_⟩
      have c3' := c3.keep s4
      obtain ⟨d3, f3, i3⟩ := c3'.ins
      obtain ⟨d4, f4, i4⟩ := c4.ins
      have e2 : ¬ l3 = l4 := fun e => by
        have h1 := (mem3 1).mpr (List.mem_cons_self ..)
        rw [e] at h1
        exact absurd ((mem4 1).mp h1) (by simp)
      refine ⟨x3, d3, _, _, rfl, i3, T.ct_Choice.ty i4, nf_own, x3, l3, false, _, rfl, c3', .inl ⟨x4, l4, false, rfl, c4, _, rfl, _, rfl, ?_⟩⟩
      rw [decide_eq_false e2]
      refine iteT ?_
      refine ⟨rfl, 0, rfl, by decide, by decide, fun x5 H5 nx5 s5 c5 => ?_⟩
      refine ⟨[], rfl, by decide, fun l6 x6 H6 mem6 len6 nx6 s6 c6 => ?_⟩
      have c5' := c5.keep s6
      obtain ⟨d5, f5, i5⟩ := c5'.ins
      obtain ⟨d6, f6, i6⟩ := c6.ins
      have e3 : rgI 0 = l6 := rise_eq c5.1 c6.1 fun k => by
        rw [mem6, rgI_mem]
        exact ⟨fun h => absurd h.1 (by omega), fun h => (by cases h)⟩
      refine ⟨x5, d5, _, _, rfl, i5, T.ct_Choice.ty i6, nf_own, x5, rgI 0, false, _, rfl, c5', .inl ⟨x6, l6, false, rfl, c6, ?_⟩⟩
      rw [decide_eq_true e3]
      exact k H6

end
end Toy

set_option Elab.async false
set_option linter.all false
set_option maxRecDepth 100000
set_option maxHeartbeats 4000000
set_option pp.maxSteps 1500
set_option pp.deepTerms false
namespace Toy
open PySem L2 Lf
theorem txt_mk {K : PySem.W.Frag} {h : Heap} {mg : Str → Option Value} {C_Choice : Addr} {f_is_integer : Addr} {od_is_integer an_is_integer : Option Addr} {sl_is_integer : Array (Option Value)} {oc_is_integer kV_is_integer dc_is_integer pm_is_integer cd_is_integer ct_is_integer : Value} {f_Choice__init : Addr} {od_Choice__init an_Choice__init : Option Addr} {sl_Choice__init : Array (Option Value)} {oc_Choice__init dc_Choice__init pm_Choice__init cd_Choice__init ct_Choice__init : Value} {D_Choice__init : Addr} {f_Choice_first : Addr} {p_Choice_first : Addr} {od_Choice_first an_Choice_first : Option Addr} {sl_Choice_first : Array (Option Value)} {oc_Choice_first kV_Choice_first dc_Choice_first pm_Choice_first cd_Choice_first ct_Choice_first : Value} {rs_Choice_first : List Value} {f_Choice__contains : Addr} {od_Choice__contains an_Choice__contains : Option Addr} {sl_Choice__contains : Array (Option Value)} {oc_Choice__contains kV_Choice__contains dc_Choice__contains pm_Choice__contains cd_Choice__contains ct_Choice__contains : Value} {f_Choice__or : Addr} {od_Choice__or an_Choice__or : Option Addr} {sl_Choice__or : Array (Option Value)} {oc_Choice__or kV_Choice__or dc_Choice__or pm_Choice__or cd_Choice__or ct_Choice__or : Value} {f_Choice__invert : Addr} {od_Choice__invert an_Choice__invert : Option Addr} {sl_Choice__invert : Array (Option Value)} {oc_Choice__invert kV_Choice__invert dc_Choice__invert pm_Choice__invert cd_Choice__invert ct_Choice__invert : Value} {f_Choice__eq : Addr} {od_Choice__eq an_Choice__eq : Option Addr} {sl_Choice__eq : Array (Option Value)} {oc_Choice__eq kV_Choice__eq dc_Choice__eq pm_Choice__eq cd_Choice__eq ct_Choice__eq : Value} {f_l_bag : Addr} {od_l_bag an_l_bag : Option Addr} {sl_l_bag : Array (Option Value)} {oc_l_bag kV_l_bag dc_l_bag pm_l_bag cd_l_bag ct_l_bag : Value} {f_l_take : Addr} {od_l_take an_l_take : Option Addr} {sl_l_take : Array (Option Value)} {oc_l_take kV_l_take dc_l_take pm_l_take cd_l_take ct_l_take : Value} {f_l_values : Addr} {od_l_values an_l_values : Option Addr} {sl_l_values : Array (Option Value)} {oc_l_values kV_l_values dc_l_values pm_l_values cd_l_values ct_l_values : Value} {f_l_built : Addr} {od_l_built an_l_built : Option Addr} {sl_l_built : Array (Option Value)} {oc_l_built kV_l_built dc_l_built pm_l_built cd_l_built ct_l_built : Value} {f_l_agrees : Addr} {od_l_agrees an_l_agrees : Option Addr} {sl_l_agrees : Array (Option Value)} {oc_l_agrees kV_l_agrees dc_l_agrees pm_l_agrees cd_l_agrees ct_l_agrees : Value} {f_l_right : Addr} {od_l_right an_l_right : Option Addr} {sl_l_right : Array (Option Value)} {oc_l_right kV_l_right dc_l_right pm_l_right cd_l_right ct_l_right : Value} {f_law : Addr} {od_law an_law : Option Addr} {sl_law : Array (Option Value)} {oc_law kV_law dc_law pm_law cd_law ct_law : Value} (X : K.In h) (Gm : h.Ns mainGlobals mg)
    (aC_Choice : PySem.W.nsIn K mainGlobals "Choice" = some (some (.ref C_Choice)))
    (a_is_integer : PySem.W.nsIn K mainGlobals "is_integer" = some (some (.ref f_is_integer)))
    (l_is_integer : K.lookup f_is_integer = some ⟨oc_is_integer, od_is_integer, .func (PySem.W.fnOf "is_integer" "is_integer" (defArgs s_is_integer) (defBody s_is_integer) (defScope s_is_integer) .none kV_is_integer dc_is_integer pm_is_integer an_is_integer cd_is_integer ct_is_integer), sl_is_integer⟩)
    (c_is_integer : PySem.W.codeIn K cd_is_integer "is_integer" = true)
    (k_is_integer : PySem.W.keepIn K (.ref f_is_integer) = true)
    (a_Choice__init : PySem.W.findIn K (.ref C_Choice) "__init__" = some (some (.ref f_Choice__init)))
    (i_Choice__init : PySem.W.isFn K (.ref f_Choice__init) = true)
    (fi_Choice__init : PySem.W.fnIn K f_Choice__init = true)
    (l_Choice__init : K.lookup f_Choice__init = some ⟨oc_Choice__init, od_Choice__init, .func (PySem.W.fnOf "__init__" "Choice.__init__" (defArgs s_Choice__init) (defBody s_Choice__init) (defScope s_Choice__init) .none (.ref D_Choice__init) dc_Choice__init pm_Choice__init an_Choice__init cd_Choice__init ct_Choice__init), sl_Choice__init⟩)
    (kw_Choice__init_is_rest : PySem.W.nsIn K D_Choice__init "is_rest" = some (some (.bool false)))
    (c_Choice__init : PySem.W.codeIn K cd_Choice__init "Choice.__init__" = true)
    (k_Choice__init : PySem.W.keepIn K (.ref f_Choice__init) = true)
    (at_Choice_first : PySem.W.findCls K (.ref C_Choice) (.type "type") "first" = some (.get (.builtin "classmethod.__get__") (.ref p_Choice_first) .none (.ref C_Choice)))
    (rc_Choice_first : PySem.W.recIn K p_Choice_first "classmethod" = some (.ref f_Choice_first :: rs_Choice_first))
    (fi_Choice_first : PySem.W.fnIn K f_Choice_first = true)
    (l_Choice_first : K.lookup f_Choice_first = some ⟨oc_Choice_first, od_Choice_first, .func (PySem.W.fnOf "first" "Choice.first" (defArgs s_Choice_first) (defBody s_Choice_first) (defScope s_Choice_first) .none kV_Choice_first dc_Choice_first pm_Choice_first an_Choice_first cd_Choice_first ct_Choice_first), sl_Choice_first⟩)
    (c_Choice_first : PySem.W.codeIn K cd_Choice_first "Choice.first" = true)
    (k_Choice_first : PySem.W.keepIn K (.ref f_Choice_first) = true)
    (a_Choice__contains : PySem.W.findIn K (.ref C_Choice) "__contains__" = some (some (.ref f_Choice__contains)))
    (i_Choice__contains : PySem.W.isFn K (.ref f_Choice__contains) = true)
    (fi_Choice__contains : PySem.W.fnIn K f_Choice__contains = true)
    (l_Choice__contains : K.lookup f_Choice__contains = some ⟨oc_Choice__contains, od_Choice__contains, .func (PySem.W.fnOf "__contains__" "Choice.__contains__" (defArgs s_Choice__contains) (defBody s_Choice__contains) (defScope s_Choice__contains) .none kV_Choice__contains dc_Choice__contains pm_Choice__contains an_Choice__contains cd_Choice__contains ct_Choice__contains), sl_Choice__contains⟩)
    (c_Choice__contains : PySem.W.codeIn K cd_Choice__contains "Choice.__contains__" = true)
    (k_Choice__contains : PySem.W.keepIn K (.ref f_Choice__contains) = true)
    (a_Choice__or : PySem.W.findIn K (.ref C_Choice) "__or__" = some (some (.ref f_Choice__or)))
    (i_Choice__or : PySem.W.isFn K (.ref f_Choice__or) = true)
    (fi_Choice__or : PySem.W.fnIn K f_Choice__or = true)
    (l_Choice__or : K.lookup f_Choice__or = some ⟨oc_Choice__or, od_Choice__or, .func (PySem.W.fnOf "__or__" "Choice.__or__" (defArgs s_Choice__or) (defBody s_Choice__or) (defScope s_Choice__or) .none kV_Choice__or dc_Choice__or pm_Choice__or an_Choice__or cd_Choice__or ct_Choice__or), sl_Choice__or⟩)
    (c_Choice__or : PySem.W.codeIn K cd_Choice__or "Choice.__or__" = true)
    (k_Choice__or : PySem.W.keepIn K (.ref f_Choice__or) = true)
    (a_Choice__invert : PySem.W.findIn K (.ref C_Choice) "__invert__" = some (some (.ref f_Choice__invert)))
    (i_Choice__invert : PySem.W.isFn K (.ref f_Choice__invert) = true)
    (fi_Choice__invert : PySem.W.fnIn K f_Choice__invert = true)
    (l_Choice__invert : K.lookup f_Choice__invert = some ⟨oc_Choice__invert, od_Choice__invert, .func (PySem.W.fnOf "__invert__" "Choice.__invert__" (defArgs s_Choice__invert) (defBody s_Choice__invert) (defScope s_Choice__invert) .none kV_Choice__invert dc_Choice__invert pm_Choice__invert an_Choice__invert cd_Choice__invert ct_Choice__invert), sl_Choice__invert⟩)
    (c_Choice__invert : PySem.W.codeIn K cd_Choice__invert "Choice.__invert__" = true)
    (k_Choice__invert : PySem.W.keepIn K (.ref f_Choice__invert) = true)
    (a_Choice__eq : PySem.W.findIn K (.ref C_Choice) "__eq__" = some (some (.ref f_Choice__eq)))
    (i_Choice__eq : PySem.W.isFn K (.ref f_Choice__eq) = true)
    (fi_Choice__eq : PySem.W.fnIn K f_Choice__eq = true)
    (l_Choice__eq : K.lookup f_Choice__eq = some ⟨oc_Choice__eq, od_Choice__eq, .func (PySem.W.fnOf "__eq__" "Choice.__eq__" (defArgs s_Choice__eq) (defBody s_Choice__eq) (defScope s_Choice__eq) .none kV_Choice__eq dc_Choice__eq pm_Choice__eq an_Choice__eq cd_Choice__eq ct_Choice__eq), sl_Choice__eq⟩)
    (c_Choice__eq : PySem.W.codeIn K cd_Choice__eq "Choice.__eq__" = true)
    (k_Choice__eq : PySem.W.keepIn K (.ref f_Choice__eq) = true)
    (a_l_bag : PySem.W.nsIn K mainGlobals "_law_bag" = some (some (.ref f_l_bag)))
    (l_l_bag : K.lookup f_l_bag = some ⟨oc_l_bag, od_l_bag, .func (PySem.W.fnOf "_law_bag" "_law_bag" (defArgs s_l_bag) (defBody s_l_bag) (defScope s_l_bag) .none kV_l_bag dc_l_bag pm_l_bag an_l_bag cd_l_bag ct_l_bag), sl_l_bag⟩)
    (c_l_bag : PySem.W.codeIn K cd_l_bag "_law_bag" = true)
    (k_l_bag : PySem.W.keepIn K (.ref f_l_bag) = true)
    (a_l_take : PySem.W.nsIn K mainGlobals "_law_take" = some (some (.ref f_l_take)))
    (l_l_take : K.lookup f_l_take = some ⟨oc_l_take, od_l_take, .func (PySem.W.fnOf "_law_take" "_law_take" (defArgs s_l_take) (defBody s_l_take) (defScope s_l_take) .none kV_l_take dc_l_take pm_l_take an_l_take cd_l_take ct_l_take), sl_l_take⟩)
    (c_l_take : PySem.W.codeIn K cd_l_take "_law_take" = true)
    (k_l_take : PySem.W.keepIn K (.ref f_l_take) = true)
    (a_l_values : PySem.W.nsIn K mainGlobals "_law_values" = some (some (.ref f_l_values)))
    (l_l_values : K.lookup f_l_values = some ⟨oc_l_values, od_l_values, .func (PySem.W.fnOf "_law_values" "_law_values" (defArgs s_l_values) (defBody s_l_values) (defScope s_l_values) .none kV_l_values dc_l_values pm_l_values an_l_values cd_l_values ct_l_values), sl_l_values⟩)
    (c_l_values : PySem.W.codeIn K cd_l_values "_law_values" = true)
    (k_l_values : PySem.W.keepIn K (.ref f_l_values) = true)
    (a_l_built : PySem.W.nsIn K mainGlobals "_law_built" = some (some (.ref f_l_built)))
    (l_l_built : K.lookup f_l_built = some ⟨oc_l_built, od_l_built, .func (PySem.W.fnOf "_law_built" "_law_built" (defArgs s_l_built) (defBody s_l_built) (defScope s_l_built) .none kV_l_built dc_l_built pm_l_built an_l_built cd_l_built ct_l_built), sl_l_built⟩)
    (c_l_built : PySem.W.codeIn K cd_l_built "_law_built" = true)
    (k_l_built : PySem.W.keepIn K (.ref f_l_built) = true)
    (a_l_agrees : PySem.W.nsIn K mainGlobals "_law_agrees" = some (some (.ref f_l_agrees)))
    (l_l_agrees : K.lookup f_l_agrees = some ⟨oc_l_agrees, od_l_agrees, .func (PySem.W.fnOf "_law_agrees" "_law_agrees" (defArgs s_l_agrees) (defBody s_l_agrees) (defScope s_l_agrees) .none kV_l_agrees dc_l_agrees pm_l_agrees an_l_agrees cd_l_agrees ct_l_agrees), sl_l_agrees⟩)
    (c_l_agrees : PySem.W.codeIn K cd_l_agrees "_law_agrees" = true)
    (k_l_agrees : PySem.W.keepIn K (.ref f_l_agrees) = true)
    (a_l_right : PySem.W.nsIn K mainGlobals "_law_right" = some (some (.ref f_l_right)))
    (l_l_right : K.lookup f_l_right = some ⟨oc_l_right, od_l_right, .func (PySem.W.fnOf "_law_right" "_law_right" (defArgs s_l_right) (defBody s_l_right) (defScope s_l_right) .none kV_l_right dc_l_right pm_l_right an_l_right cd_l_right ct_l_right), sl_l_right⟩)
    (c_l_right : PySem.W.codeIn K cd_l_right "_law_right" = true)
    (k_l_right : PySem.W.keepIn K (.ref f_l_right) = true)
    (a_law : PySem.W.nsIn K mainGlobals "law" = some (some (.ref f_law)))
    (l_law : K.lookup f_law = some ⟨oc_law, od_law, .func (PySem.W.fnOf "law" "law" (defArgs s_law) (defBody s_law) (defScope s_law) .none kV_law dc_law pm_law an_law cd_law ct_law), sl_law⟩)
    (c_law : PySem.W.codeIn K cd_law "law" = true)
    (k_law : PySem.W.keepIn K (.ref f_law) = true)
    (pg_Choice : PySem.W.plainGet K C_Choice Str.empty = true)
    (hd_Choice : PySem.W.hasDictIn K C_Choice = true)
    (po_Choice : PySem.W.plainOver K C_Choice = true)
    (sa_Choice : PySem.W.findIn K (.ref C_Choice) "__setattr__" = some (some (.builtin "object.__setattr__")))
    (kc_Choice : PySem.W.keepIn K (.ref C_Choice) = true)
    (ca_Choice : PySem.W.findIn K (.ref C_Choice) "__class__" = some (some (.builtin "object.__class__")))
    (cn_Choice : PySem.W.specialIn K (.builtin "object.__class__") "__get__" = some (some (.builtin "getset_descriptor.__get__")))
    (ctk_Choice : PySem.W.takesIn K (.builtin "object.__class__") = some true)
    (cm_Choice : PySem.W.mroIn K C_Choice (.type "object") = some true)
    (ic_Choice : PySem.W.isClsIn K C_Choice = true)
    (tc_Choice : PySem.W.typeIn K (.ref C_Choice) = some (.type "type"))
    (ne_Choice : PySem.W.findIn K (.ref C_Choice) "__ne__" = some (some (.builtin "object.__ne__")))
    (mk_Choice : PySem.W.makesIn K C_Choice = true)
    (rd_Choice : PySem.W.readsIn K C_Choice (.type "type") = true)
    (ga_Choice : PySem.W.specialIn K (.ref C_Choice) "__getattribute__" = some (some (.builtin "type.__getattribute__")))
    (nq_Choice : PySem.W.noSeq K C_Choice = true)
    (sf_Choice : PySem.W.selfFirst K C_Choice = true)
    (ki_Choice_int : PySem.W.mroIn K C_Choice (.type "int") = some false)
    (n_Choice_listed : PySem.W.findIn K (.ref C_Choice) "listed" = some none)
    (n_Choice_is_rest : PySem.W.findIn K (.ref C_Choice) "is_rest" = some none)
    (b_len : PySem.W.nsIn K mainGlobals "len" = some none)
    (b_abs : PySem.W.nsIn K mainGlobals "abs" = some none)
    (b_int : PySem.W.nsIn K mainGlobals "int" = some none)
    (b_range : PySem.W.nsIn K mainGlobals "range" = some none)
    (b_isinstance : PySem.W.nsIn K mainGlobals "isinstance" = some none)
    (b_max : PySem.W.nsIn K mainGlobals "max" = some none)
    (b_min : PySem.W.nsIn K mainGlobals "min" = some none)
    (b_list : PySem.W.nsIn K mainGlobals "list" = some none)
    (b_tuple : PySem.W.nsIn K mainGlobals "tuple" = some none)
    (b_any : PySem.W.nsIn K mainGlobals "any" = some none)
    (b_bool : PySem.W.nsIn K mainGlobals "bool" = some none)
    (b_set : PySem.W.nsIn K mainGlobals "set" = some none)
    (b_sorted : PySem.W.nsIn K mainGlobals "sorted" = some none) :
    Txt K mg ⟨f_is_integer, PySem.W.fnOf "is_integer" "is_integer" (defArgs s_is_integer) (defBody s_is_integer) (defScope s_is_integer) .none kV_is_integer dc_is_integer pm_is_integer an_is_integer cd_is_integer ct_is_integer, f_Choice__init, PySem.W.fnOf "__init__" "Choice.__init__" (defArgs s_Choice__init) (defBody s_Choice__init) (defScope s_Choice__init) .none (.ref D_Choice__init) dc_Choice__init pm_Choice__init an_Choice__init cd_Choice__init ct_Choice__init, f_Choice_first, PySem.W.fnOf "first" "Choice.first" (defArgs s_Choice_first) (defBody s_Choice_first) (defScope s_Choice_first) .none kV_Choice_first dc_Choice_first pm_Choice_first an_Choice_first cd_Choice_first ct_Choice_first, p_Choice_first, f_Choice__contains, PySem.W.fnOf "__contains__" "Choice.__contains__" (defArgs s_Choice__contains) (defBody s_Choice__contains) (defScope s_Choice__contains) .none kV_Choice__contains dc_Choice__contains pm_Choice__contains an_Choice__contains cd_Choice__contains ct_Choice__contains, f_Choice__or, PySem.W.fnOf "__or__" "Choice.__or__" (defArgs s_Choice__or) (defBody s_Choice__or) (defScope s_Choice__or) .none kV_Choice__or dc_Choice__or pm_Choice__or an_Choice__or cd_Choice__or ct_Choice__or, f_Choice__invert, PySem.W.fnOf "__invert__" "Choice.__invert__" (defArgs s_Choice__invert) (defBody s_Choice__invert) (defScope s_Choice__invert) .none kV_Choice__invert dc_Choice__invert pm_Choice__invert an_Choice__invert cd_Choice__invert ct_Choice__invert, f_Choice__eq, PySem.W.fnOf "__eq__" "Choice.__eq__" (defArgs s_Choice__eq) (defBody s_Choice__eq) (defScope s_Choice__eq) .none kV_Choice__eq dc_Choice__eq pm_Choice__eq an_Choice__eq cd_Choice__eq ct_Choice__eq, f_l_bag, PySem.W.fnOf "_law_bag" "_law_bag" (defArgs s_l_bag) (defBody s_l_bag) (defScope s_l_bag) .none kV_l_bag dc_l_bag pm_l_bag an_l_bag cd_l_bag ct_l_bag, f_l_take, PySem.W.fnOf "_law_take" "_law_take" (defArgs s_l_take) (defBody s_l_take) (defScope s_l_take) .none kV_l_take dc_l_take pm_l_take an_l_take cd_l_take ct_l_take, f_l_values, PySem.W.fnOf "_law_values" "_law_values" (defArgs s_l_values) (defBody s_l_values) (defScope s_l_values) .none kV_l_values dc_l_values pm_l_values an_l_values cd_l_values ct_l_values, f_l_built, PySem.W.fnOf "_law_built" "_law_built" (defArgs s_l_built) (defBody s_l_built) (defScope s_l_built) .none kV_l_built dc_l_built pm_l_built an_l_built cd_l_built ct_l_built, f_l_agrees, PySem.W.fnOf "_law_agrees" "_law_agrees" (defArgs s_l_agrees) (defBody s_l_agrees) (defScope s_l_agrees) .none kV_l_agrees dc_l_agrees pm_l_agrees an_l_agrees cd_l_agrees ct_l_agrees, f_l_right, PySem.W.fnOf "_law_right" "_law_right" (defArgs s_l_right) (defBody s_l_right) (defScope s_l_right) .none kV_l_right dc_l_right pm_l_right an_l_right cd_l_right ct_l_right, f_law, PySem.W.fnOf "law" "law" (defArgs s_law) (defBody s_law) (defScope s_law) .none kV_law dc_law pm_law an_law cd_law ct_law, C_Choice⟩ where
  k_is_integer := k_is_integer
  F_is_integer := fun_mk (st := s_is_integer) l_is_integer c_is_integer k_is_integer
  a_is_integer := (fun_mk (st := s_is_integer) l_is_integer c_is_integer k_is_integer).binds (ps := ["value"]) fun _ _ _ _ _ _ us hl => match us, hl with | [_], _ => rfl
  m_is_integer := PySem.W.mg_of X Gm a_is_integer
  k_Choice__init := k_Choice__init
  F_Choice__init := ⟨⟨oc_Choice__init, od_Choice__init, _, _, dc_Choice__init, pm_Choice__init, an_Choice__init, cd_Choice__init, ct_Choice__init, sl_Choice__init, rfl, l_Choice__init, c_Choice__init, .inl ⟨rfl, rfl⟩, .inr ⟨D_Choice__init, rfl, fun q hq => by (simp only [List.mem_cons, List.not_mem_nil, or_false] at hq; rcases hq with rfl; exact ⟨_, kw_Choice__init_is_rest, rfl⟩)⟩⟩, k_Choice__init⟩
  t_Choice__init := ⟨a_Choice__init, i_Choice__init, k_Choice__init⟩
  f_Choice__init := a_Choice__init
  i_Choice__init := i_Choice__init
  fi_Choice__init := fi_Choice__init
  k_Choice_first := k_Choice_first
  F_Choice_first := fun_mk (st := s_Choice_first) l_Choice_first c_Choice_first k_Choice_first
  a_Choice_first := (fun_mk (st := s_Choice_first) l_Choice_first c_Choice_first k_Choice_first).binds (ps := ["cls", "many"]) fun _ _ _ _ _ _ us hl => match us, hl with | [_, _], _ => rfl
  cm_Choice_first := ⟨at_Choice_first, ⟨_, rc_Choice_first⟩, fi_Choice_first⟩
  k_Choice__contains := k_Choice__contains
  F_Choice__contains := fun_mk (st := s_Choice__contains) l_Choice__contains c_Choice__contains k_Choice__contains
  a_Choice__contains := (fun_mk (st := s_Choice__contains) l_Choice__contains c_Choice__contains k_Choice__contains).binds (ps := ["self", "value"]) fun _ _ _ _ _ _ us hl => match us, hl with | [_, _], _ => rfl
  t_Choice__contains := ⟨a_Choice__contains, i_Choice__contains, k_Choice__contains⟩
  f_Choice__contains := a_Choice__contains
  i_Choice__contains := i_Choice__contains
  fi_Choice__contains := fi_Choice__contains
  k_Choice__or := k_Choice__or
  F_Choice__or := fun_mk (st := s_Choice__or) l_Choice__or c_Choice__or k_Choice__or
  a_Choice__or := (fun_mk (st := s_Choice__or) l_Choice__or c_Choice__or k_Choice__or).binds (ps := ["self", "other"]) fun _ _ _ _ _ _ us hl => match us, hl with | [_, _], _ => rfl
  t_Choice__or := ⟨a_Choice__or, i_Choice__or, k_Choice__or⟩
  f_Choice__or := a_Choice__or
  i_Choice__or := i_Choice__or
  fi_Choice__or := fi_Choice__or
  k_Choice__invert := k_Choice__invert
  F_Choice__invert := fun_mk (st := s_Choice__invert) l_Choice__invert c_Choice__invert k_Choice__invert
  a_Choice__invert := (fun_mk (st := s_Choice__invert) l_Choice__invert c_Choice__invert k_Choice__invert).binds (ps := ["self"]) fun _ _ _ _ _ _ us hl => match us, hl with | [_], _ => rfl
  t_Choice__invert := ⟨a_Choice__invert, i_Choice__invert, k_Choice__invert⟩
  f_Choice__invert := a_Choice__invert
  i_Choice__invert := i_Choice__invert
  fi_Choice__invert := fi_Choice__invert
  k_Choice__eq := k_Choice__eq
  F_Choice__eq := fun_mk (st := s_Choice__eq) l_Choice__eq c_Choice__eq k_Choice__eq
  a_Choice__eq := (fun_mk (st := s_Choice__eq) l_Choice__eq c_Choice__eq k_Choice__eq).binds (ps := ["self", "other"]) fun _ _ _ _ _ _ us hl => match us, hl with | [_, _], _ => rfl
  t_Choice__eq := ⟨a_Choice__eq, i_Choice__eq, k_Choice__eq⟩
  f_Choice__eq := a_Choice__eq
  i_Choice__eq := i_Choice__eq
  fi_Choice__eq := fi_Choice__eq
  k_l_bag := k_l_bag
  F_l_bag := fun_mk (st := s_l_bag) l_l_bag c_l_bag k_l_bag
  a_l_bag := (fun_mk (st := s_l_bag) l_l_bag c_l_bag k_l_bag).binds (ps := ["_law_script", "_law_at"]) fun _ _ _ _ _ _ us hl => match us, hl with | [_, _], _ => rfl
  m_l_bag := PySem.W.mg_of X Gm a_l_bag
  k_l_take := k_l_take
  F_l_take := fun_mk (st := s_l_take) l_l_take c_l_take k_l_take
  a_l_take := (fun_mk (st := s_l_take) l_l_take c_l_take k_l_take).binds (ps := ["_law_bag_here", "_law_many"]) fun _ _ _ _ _ _ us hl => match us, hl with | [_, _], _ => rfl
  m_l_take := PySem.W.mg_of X Gm a_l_take
  k_l_values := k_l_values
  F_l_values := fun_mk (st := s_l_values) l_l_values c_l_values k_l_values
  a_l_values := (fun_mk (st := s_l_values) l_l_values c_l_values k_l_values).binds (ps := ["_law_bag_here"]) fun _ _ _ _ _ _ us hl => match us, hl with | [_], _ => rfl
  m_l_values := PySem.W.mg_of X Gm a_l_values
  k_l_built := k_l_built
  F_l_built := fun_mk (st := s_l_built) l_l_built c_l_built k_l_built
  a_l_built := (fun_mk (st := s_l_built) l_l_built c_l_built k_l_built).binds (ps := ["_law_listed"]) fun _ _ _ _ _ _ us hl => match us, hl with | [_], _ => rfl
  m_l_built := PySem.W.mg_of X Gm a_l_built
  k_l_agrees := k_l_agrees
  F_l_agrees := fun_mk (st := s_l_agrees) l_l_agrees c_l_agrees k_l_agrees
  a_l_agrees := (fun_mk (st := s_l_agrees) l_l_agrees c_l_agrees k_l_agrees).binds (ps := ["_law_choice", "_law_listed", "_law_is_rest"]) fun _ _ _ _ _ _ us hl => match us, hl with | [_, _, _], _ => rfl
  m_l_agrees := PySem.W.mg_of X Gm a_l_agrees
  k_l_right := k_l_right
  F_l_right := fun_mk (st := s_l_right) l_l_right c_l_right k_l_right
  a_l_right := (fun_mk (st := s_l_right) l_l_right c_l_right k_l_right).binds (ps := ["_law_bag_here"]) fun _ _ _ _ _ _ us hl => match us, hl with | [_], _ => rfl
  m_l_right := PySem.W.mg_of X Gm a_l_right
  k_law := k_law
  F_law := fun_mk (st := s_law) l_law c_law k_law
  a_law := (fun_mk (st := s_law) l_law c_law k_law).binds (ps := ["_law_script"]) fun _ _ _ _ _ _ us hl => match us, hl with | [_], _ => rfl
  m_law := PySem.W.mg_of X Gm a_law
  ct_Choice := ⟨⟨pg_Choice, hd_Choice, po_Choice, sa_Choice⟩, ca_Choice, cn_Choice, ctk_Choice, cm_Choice, isc_mk ic_Choice tc_Choice, ne_Choice⟩
  m_Choice := PySem.W.mg_of X Gm aC_Choice
  mk_Choice := ⟨mk_Choice, a_Choice__init, i_Choice__init, kc_Choice⟩
  r_Choice := ⟨rd_Choice, ga_Choice⟩
  nq_Choice := nq_Choice
  sf_Choice := sf_Choice
  ki_Choice_int := kit_refTy (by decide +kernel) ki_Choice_int
  n_Choice_listed := n_Choice_listed
  n_Choice_is_rest := n_Choice_is_rest
  b_len := PySem.W.mg_none_of X Gm b_len
  b_abs := PySem.W.mg_none_of X Gm b_abs
  b_int := PySem.W.mg_none_of X Gm b_int
  b_range := PySem.W.mg_none_of X Gm b_range
  b_isinstance := PySem.W.mg_none_of X Gm b_isinstance
  b_max := PySem.W.mg_none_of X Gm b_max
  b_min := PySem.W.mg_none_of X Gm b_min
  b_list := PySem.W.mg_none_of X Gm b_list
  b_tuple := PySem.W.mg_none_of X Gm b_tuple
  b_any := PySem.W.mg_none_of X Gm b_any
  b_bool := PySem.W.mg_none_of X Gm b_bool
  b_set := PySem.W.mg_none_of X Gm b_set
  b_sorted := PySem.W.mg_none_of X Gm b_sorted
theorem all_mk {l : PySem.W.OpenLaw} {w : World} {K : PySem.W.Frag} {h : Heap} {mg : Str → Option Value} {fa : Addr} {a : Ad} {kV' dc pm cd ct : Value} {an : Option Addr} (hfa : mg "law" = some (.ref fa)) (T : Txt K mg a) (e0 : a.d_law = PySem.W.fnOf "law" "law" (defArgs s_law) (defBody s_law) (defScope s_law) .none kV' dc pm an cd ct) :
    ∃ fd : FuncData, (∀ (s : Shared) (v : Value), BindsTo s fd ⟨[v], []⟩ [("_law_script", v)]) ∧ ∀ base : Heap, K.In base → base.Ns mainGlobals mg → FnOk l.prog w K mg base CX0 6 fa fd ["_law_script"] (spLaw K) := by
  have e := hfa.symm.trans T.m_law
  cases e
  refine ⟨a.d_law, fun s v => by rw [e0]; exact .of_eq rfl, fun base _ _ => ok_law T⟩
theorem walk {l : PySem.W.OpenLaw} {q : Program} {loose : List Str} {XP : (Str → Option Value) → Heap → Prop} {YP : World → Heap → Prop} {d : DefRec} {K : Params → PySem.W.Frag} (hn : l.most = some 63) (hdf : d.params.defaults = [])
    (hY : ∀ (w : World) (h : Heap), YP w h → (K w.params).In h)
    (F : ∀ (w : World) (mg : Str → Option Value) (fa : Addr) (h : Heap), (K w.params).In h → h.Ns mainGlobals mg → mg d.name = some (.ref fa) →
      ∃ fd : FuncData, (∀ (s : Shared) (u : Value), BindsTo s fd ⟨[u], []⟩ [("_law_script", u)]) ∧ ∀ base : Heap, (K w.params).In base → base.Ns mainGlobals mg → FnOk l.prog w (K w.params) mg base CX0 6 fa fd ["_law_script"] (spLaw (K w.params))) :
    PySem.W.WalkO q loose XP YP l.row.toRowW d [] (fun f vs => PySem.call f vs) :=
  L2.walk_of (n := 63) (k := 6) (x := "_law_script") (CX := fun _ => CX0) (sp := fun w => spLaw (K w.params)) hn (by decide) hdf ⟨rfl, by decide, by decide⟩ hY F (fun _ _ a ns hl _ hS => ⟨a, ns, rfl, hS, hl, fun _ => rfl⟩) fun _ _ _ _ _ z => z
end Toy
open PySem PySem.W PyProof.Rows
set_option maxRecDepth 100000 in
set_option maxHeartbeats 0 in
theorem PySem.Challenge.cw_linkedfilters_k01_choices_hold_holds : PySem.Challenge.rw_linkedfilters_k01_choices_hold.Holds := by
  w_on; o_law; k_head; (case hw => w_witness2)
  k_fill
  refine Toy.walk (l := PySem.Challenge.rw_linkedfilters_k01_choices_hold) rfl rfl (fun w h Y => PySem.W.kIn_of Y) ?F
  case F =>
    intro w mg fa h KX G hmg
    refine' Toy.all_mk (h := h) hmg (Toy.txt_mk KX G ?h_aC_Choice ?h_a_is_integer ?h_l_is_integer ?h_c_is_integer ?h_k_is_integer ?h_a_Choice__init ?h_i_Choice__init ?h_fi_Choice__init ?h_l_Choice__init ?h_kw_Choice__init_is_rest ?h_c_Choice__init ?h_k_Choice__init ?h_at_Choice_first ?h_rc_Choice_first ?h_fi_Choice_first ?h_l_Choice_first ?h_c_Choice_first ?h_k_Choice_first ?h_a_Choice__contains ?h_i_Choice__contains ?h_fi_Choice__contains ?h_l_Choice__contains ?h_c_Choice__contains ?h_k_Choice__contains ?h_a_Choice__or ?h_i_Choice__or ?h_fi_Choice__or ?h_l_Choice__or ?h_c_Choice__or ?h_k_Choice__or ?h_a_Choice__invert ?h_i_Choice__invert ?h_fi_Choice__invert ?h_l_Choice__invert ?h_c_Choice__invert ?h_k_Choice__invert ?h_a_Choice__eq ?h_i_Choice__eq ?h_fi_Choice__eq ?h_l_Choice__eq ?h_c_Choice__eq ?h_k_Choice__eq ?h_a_l_bag ?h_l_l_bag ?h_c_l_bag ?h_k_l_bag ?h_a_l_take ?h_l_l_take ?h_c_l_take ?h_k_l_take ?h_a_l_values ?h_l_l_values ?h_c_l_values ?h_k_l_values ?h_a_l_built ?h_l_l_built ?h_c_l_built ?h_k_l_built ?h_a_l_agrees ?h_l_l_agrees ?h_c_l_agrees ?h_k_l_agrees ?h_a_l_right ?h_l_l_right ?h_c_l_right ?h_k_l_right ?h_a_law ?h_l_law ?h_c_law ?h_k_law ?h_pg_Choice ?h_hd_Choice ?h_po_Choice ?h_sa_Choice ?h_kc_Choice ?h_ca_Choice ?h_cn_Choice ?h_ctk_Choice ?h_cm_Choice ?h_ic_Choice ?h_tc_Choice ?h_ne_Choice ?h_mk_Choice ?h_rd_Choice ?h_ga_Choice ?h_nq_Choice ?h_sf_Choice ?h_ki_Choice_int ?h_n_Choice_listed ?h_n_Choice_is_rest ?h_b_len ?h_b_abs ?h_b_int ?h_b_range ?h_b_isinstance ?h_b_max ?h_b_min ?h_b_list ?h_b_tuple ?h_b_any ?h_b_bool ?h_b_set ?h_b_sorted) rfl
    (case h_aC_Choice => k_is); (case h_a_is_integer => k_is); (case h_l_is_integer => k_is); (case h_c_is_integer => k_is); (case h_k_is_integer => k_is); (case h_a_Choice__init => k_is)
    (case h_i_Choice__init => k_is); (case h_fi_Choice__init => k_is); (case h_l_Choice__init => k_is); (case h_kw_Choice__init_is_rest => k_is); (case h_c_Choice__init => k_is); (case h_k_Choice__init => k_is)
    (case h_at_Choice_first => k_is); (case h_rc_Choice_first => k_is); (case h_fi_Choice_first => k_is); (case h_l_Choice_first => k_is); (case h_c_Choice_first => k_is); (case h_k_Choice_first => k_is)
    (case h_a_Choice__contains => k_is); (case h_i_Choice__contains => k_is); (case h_fi_Choice__contains => k_is); (case h_l_Choice__contains => k_is); (case h_c_Choice__contains => k_is); (case h_k_Choice__contains => k_is)
    (case h_a_Choice__or => k_is); (case h_i_Choice__or => k_is); (case h_fi_Choice__or => k_is); (case h_l_Choice__or => k_is); (case h_c_Choice__or => k_is); (case h_k_Choice__or => k_is)
    (case h_a_Choice__invert => k_is); (case h_i_Choice__invert => k_is); (case h_fi_Choice__invert => k_is); (case h_l_Choice__invert => k_is); (case h_c_Choice__invert => k_is); (case h_k_Choice__invert => k_is)
    (case h_a_Choice__eq => k_is); (case h_i_Choice__eq => k_is); (case h_fi_Choice__eq => k_is); (case h_l_Choice__eq => k_is); (case h_c_Choice__eq => k_is); (case h_k_Choice__eq => k_is)
    (case h_a_l_bag => k_is); (case h_l_l_bag => k_is); (case h_c_l_bag => k_is); (case h_k_l_bag => k_is); (case h_a_l_take => k_is); (case h_l_l_take => k_is)
    (case h_c_l_take => k_is); (case h_k_l_take => k_is); (case h_a_l_values => k_is); (case h_l_l_values => k_is); (case h_c_l_values => k_is); (case h_k_l_values => k_is)
    (case h_a_l_built => k_is); (case h_l_l_built => k_is); (case h_c_l_built => k_is); (case h_k_l_built => k_is); (case h_a_l_agrees => k_is); (case h_l_l_agrees => k_is)
    (case h_c_l_agrees => k_is); (case h_k_l_agrees => k_is); (case h_a_l_right => k_is); (case h_l_l_right => k_is); (case h_c_l_right => k_is); (case h_k_l_right => k_is)
    (case h_a_law => k_is); (case h_l_law => k_is); (case h_c_law => k_is); (case h_k_law => k_is); (case h_pg_Choice => k_is); (case h_hd_Choice => k_is)
    (case h_po_Choice => k_is); (case h_sa_Choice => k_is); (case h_kc_Choice => k_is); (case h_ca_Choice => k_is); (case h_cn_Choice => k_is); (case h_ctk_Choice => k_is)
    (case h_cm_Choice => k_is); (case h_ic_Choice => k_is); (case h_tc_Choice => k_is); (case h_ne_Choice => k_is); (case h_mk_Choice => k_is); (case h_rd_Choice => k_is)
    (case h_ga_Choice => k_is); (case h_nq_Choice => k_is); (case h_sf_Choice => k_is); (case h_ki_Choice_int => k_is); (case h_n_Choice_listed => k_is); (case h_n_Choice_is_rest => k_is)
    (case h_b_len => k_is); (case h_b_abs => k_is); (case h_b_int => k_is); (case h_b_range => k_is); (case h_b_isinstance => k_is); (case h_b_max => k_is)
    (case h_b_min => k_is); (case h_b_list => k_is); (case h_b_tuple => k_is); (case h_b_any => k_is); (case h_b_bool => k_is); (case h_b_set => k_is)
    (case h_b_sorted => k_is)

