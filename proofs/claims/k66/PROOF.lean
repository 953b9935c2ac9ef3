import PyProof.Rows.All
import Wide.All
import OpenK.AllK
import Wide.FinOn
import HandS.ForMost
import HandS.More
import HandS.IsInst
import HandS.ClsMeth
import HandS.FStr
import KE.KCallOwn
import KE.KFmtOwn
import HandS.Walk
import PySem.Challenge.RW_linkedfilters_k66_tallies_as_values
set_option Elab.async false
set_option linter.all false
set_option maxRecDepth 100000
set_option maxHeartbeats 4000000
/-! Rules of our own: ==, != and str by own methods of a plain class, a class called from a slot. -/
namespace Lf
open PySem PySem.Spec PyProof.Rows L2

section
variable {prog : Program} {w : World} {A : Around} {E : Value → Shared → Prop} {s : Shared} {K : PySem.W.Frag} {x C f : Addr} {ox : Obj} {od : Option Obj} {b tb : Value}
theorem ifBound_objNe {M : Model} {args : List Value} {Q : Option Value → Shared → Prop} (X : K.In s.heap) (I : PySem.W.InstAt s.heap x ox C od)
    (hs : PySem.W.findIn K (.ref C) "__ne__" = some (some (.builtin "object.__ne__")))
    (h : wpAny M A (call (.builtin "object.__ne__") (.ref x :: args)) (fun v => Q (some v)) E s) : wpAny M A (callSpecialIfBound? (.ref x) "__ne__" args) Q E s := by
  simp only [callSpecialIfBound?, bindSpecialIfBound?]
  refine wpAny_holding (wpAny_bind (wpAny_bind (wpAny_bind (I.type.here ((PySem.W.looks_findIn X hs).here ?_)))))
  refine wpAny_bind (wpAny_askSetting (wpAny_ite ?_))
  have fin : wpAny M A (call (.builtin "object.__ne__") ([.ref x] ++ args) >>= fun v => pure (some v)) Q E s :=
    wpAny_bind (wpAny_mono h (fun v s' h' => wpAny_pure h') fun _ _ h' => h')
  split
  · exact wpAny_bind (wpAny_of_eq (F.cmp_object.ne.bind _) (wpAny_pure (by exact fin)))
  · exact wpAny_tryCatch (wpAny_bind (wpAny_of_eq (F.cmp_object.ne.bind _) (wpAny_pure (by exact fin))))
theorem call_objNe {Q : Value → Shared → Prop} (hu : A.in1.units < cLine) (X : K.In s.heap) (I : PySem.W.InstAt s.heap x ox C od) (hm : PySem.W.mroIn K C (.type "object") = some true)
    (hs : PySem.W.findIn K (.ref C) "__eq__" = some (some (.ref f))) (hf : PySem.W.isFn K (.ref f) = true)
    (h : wpAny (model prog w) A.in1 (call (.ref f) [.ref x, b]) (fun v s' => ∃ k, v = .bool k ∧ Q (.bool (!k)) s') E s) :
    wpAny (model prog w) A (call (.builtin "object.__ne__") [.ref x, b]) Q E s := by
  refine wpAny_call (codeAny_call_builtin F.cmp_object.ne.plain F.cmpEntry_ne (PySem.W.check_slot F.cmpKind_ne F.cmpSplit_ne (I.type.andThen (PySem.W.looks_mroIn X hm)) (F.cmpArgs_ne _ _) ?_))
  unfold Builtin.«object.__ne__»
  refine wpAny_bind (m := slotArgs "__ne__" 1 _) (wpAny_pure ?_)
  refine wpAny_bind (m := cRoomFor _ _) (wpAny_cRoomFor hu ?_)
  refine wpAny_bind (m := callSpecialIfBound? (.ref x) (Str.ofString "__eq__") _) (PySem.W.ifBound_K X I hs hf (wpAny_mono h (fun r s' hq => ?_) fun _ _ y => y))
  obtain ⟨k, rfl, hq⟩ := hq
  exact wpAny_bind (wpAny_truthy_bool (wpAny_pure hq))
/-- x != b by an own __eq__ that answers a bool -/
theorem cmp_ne_K {Q : Value → Shared → Prop} (hu : A.units < cLine) (hu1 : A.in1.units < cLine) (X : K.In s.heap) (I : PySem.W.InstAt s.heap x ox C od)
    (hb : PySem.W.Looks (model prog w) s.heap (typeOf b) tb) (hn : PySem.W.notFirst K C tb = true) (hm : PySem.W.mroIn K C (.type "object") = some true)
    (hne : PySem.W.findIn K (.ref C) "__ne__" = some (some (.builtin "object.__ne__"))) (hs : PySem.W.findIn K (.ref C) "__eq__" = some (some (.ref f))) (hf : PySem.W.isFn K (.ref f) = true)
    (h : wpAny (model prog w) A.in1 (call (.ref f) [.ref x, b]) (fun v s' => ∃ k, v = .bool k ∧ Q (.bool (!k)) s') E s) :
    wpAny (model prog w) A (richCompare .NotEq (.ref x) b) Q E s := by
  have one : wpAny (model prog w) A (tryCompare (.ref x) "__ne__" b) (fun r s' => ∃ v, r = some v ∧ Q v s') E s := by
    unfold tryCompare
    refine wpAny_bind (ifBound_objNe X I hne (call_objNe hu1 X I hm hs hf (wpAny_mono h (fun v s' hv => ?_) fun _ _ e => e)))
    obtain ⟨k, rfl, hq⟩ := hv
    exact ⟨k, rfl, wpAny_pure ⟨_, rfl, hq⟩⟩
  unfold richCompare
  simp only [oneThing_ref]
  refine wpAny_holding (wpAny_bind (wpAny_cRoomFor hu ?_))
  refine wpAny_bind (I.type.here (wpAny_bind (hb.here ?_)))
  split
  · rename_i q
    have e : PySem.W.subIn K tb (.ref C) = some false := by
      rcases Bool.or_eq_true_iff.mp hn with e | e
      · rw [beq_iff_eq.mp e] at q; simp at q
      · exact beq_iff_eq.mp e
    refine wpAny_bind ((PySem.W.looks_subIn X e).here ?_)
    simp only [Bool.false_eq_true, if_false]
    refine wpAny_bind (wpAny_mono one (fun r s' z => ?_) fun _ _ e => e)
    obtain ⟨v, rfl, hq⟩ := z
    exact wpAny_pure hq
  · refine wpAny_bind (wpAny_pure ?_)
    simp only [Bool.false_eq_true, if_false]
    refine wpAny_bind (wpAny_mono one (fun r s' z => ?_) fun _ _ e => e)
    obtain ⟨v, rfl, hq⟩ := z
    exact wpAny_pure hq
end

theorem cmpback {P : Value → Shared → Prop} {z : V} {v : Value} {s' : Shared} (r : RelV z v) (h : P v s') : PySem.W.CmpBack P v s' := by
  cases z with
  | non => cases (show v = Value.none from r); exact h
  | bl b => cases (show v = Value.bool b from r); exact h
  | int i => obtain ⟨t, e⟩ := (show ∃ t, v = Value.int i t from r); cases e; exact h
  | str x => obtain ⟨t, e⟩ := (show ∃ t, v = Value.str x t from r); cases e; exact h
  | byt b => obtain ⟨t, e⟩ := (show ∃ t, v = Value.bytes b t from r); cases e; exact h
  | flt b => obtain ⟨t, e⟩ := (show ∃ t, v = Value.float b t from r); cases e; exact h
  | ref a => cases (show v = Value.ref a from r); exact h
  | ty n => cases (show v = Value.type n from r); exact h

section
variable {X : Cx} {CX : CXT} {pins : List (Addr × Obj)} {σ : L2.St} {H : Hp} {s : Shared} {a C dx p g : Addr} {fs : List (Str × V)} {n : Nat} {sp : Sp} {E : XK}
theorem run_atR {A : Around} {Q : VK} {us : List Value} {ws : List V} (F : FnR X.prog X.w X.K X.mg X.base CX n g sp) (hr : Room n A) (e0 : Env0 X.prog X.w X.K X.mg X.base A X.stack s H) (hx : Passes CX X E)
    (I : Inv X pins σ H s) (r : Vals ws us) (h : sp ws H Q E) :
    codeAny (model X.prog X.w) A (.call (.ref g) ⟨us, []⟩) (fun r s' => match r with | .ok (.ret v) => EP X pins σ Q v s' | .ok _ => False | .error e => X.xe e s') s := by
  refine codeAny_mono (F A X.stack s H us ws Q E hr e0 r h) fun r s' hq => ?_
  cases r with
  | error e => exact hx pins σ H s e s' I hq
  | ok fl =>
    cases fl with
    | ret u => exact I.after hq
    | next => exact False.elim hq
    | brk => exact False.elim hq
    | cont => exact False.elim hq
/-- x == y, x an instance of C with an own __eq__ -/
def rOwnEq (K : PySem.W.Frag) (C : Addr) (sp : Sp) (E : XK) : R2 := fun x y H Q => ∃ (a dx : Addr) (fs : List (Str × V)) (t : Value), x = .ref a ∧ H a = some (.ins C dx fs) ∧ TyX K H y t ∧ PySem.W.notFirst K C t = true ∧ sp [x, y] H Q E
def rOwnNe (K : PySem.W.Frag) (C : Addr) (sp : Sp) (E : XK) : R2 := fun x y H Q => ∃ (a dx : Addr) (fs : List (Str × V)) (t : Value), x = .ref a ∧ H a = some (.ins C dx fs) ∧ TyX K H y t ∧ PySem.W.notFirst K C t = true ∧
  sp [x, y] H (fun v H' => ∃ k, v = .bl k ∧ Q (.bl (!k)) H') E
theorem op_ownEq (hs : PySem.W.findIn X.K (.ref C) "__eq__" = some (some (.ref g))) (hf : PySem.W.isFn X.K (.ref g) = true) (F : FnR X.prog X.w X.K X.mg X.base CX n g sp) (hr : Room n X.A) (hx : Passes CX X E) :
    OpR X (compareOp .Eq) (rOwnEq X.K C sp E) := by
  intro pins s σ H x y v u Q I rx ry h
  obtain ⟨a, dx, fs, t, rfl, ha, ty, hn, q⟩ := h
  cases (show v = Value.ref a from rx)
  obtain ⟨mA, O, _⟩ := ins_get I.hok ha
  obtain ⟨od, J, _⟩ := O.look
  obtain ⟨P, Z, hp, _⟩ := kit_of I ry ty
  obtain ⟨m, hF⟩ := I.fr
  show wpAny _ _ (richCompare .Eq (.ref a) u) _ _ _
  refine PySem.W.cmp_K (op := .Eq) (tb := t) hr.units0 hF I.ok.mod.kin J (Z.ty _ _ I.kIn hp) hn hs hf ?_
  refine wpAny_mono (wpAny_call (run_fnR (us := [.ref a, u]) (vs := [.ref a, y]) F hr hx I (.cons rfl (.cons ry .nil)) q)) (fun w s' z => ?_) fun _ _ x => x
  obtain ⟨z', H', I', rz, qz⟩ := z
  exact cmpback rz ⟨z', H', I', rz, qz⟩
theorem op_ownNe (hm : PySem.W.mroIn X.K C (.type "object") = some true) (hne : PySem.W.findIn X.K (.ref C) "__ne__" = some (some (.builtin "object.__ne__")))
    (hs : PySem.W.findIn X.K (.ref C) "__eq__" = some (some (.ref g))) (hf : PySem.W.isFn X.K (.ref g) = true) (F : FnR X.prog X.w X.K X.mg X.base CX n g sp) (hr : Room (n + 1) X.A) (hx : Passes CX X E) :
    OpR X (compareOp .NotEq) (rOwnNe X.K C sp E) := by
  intro pins s σ H x y v u Q I rx ry h
  obtain ⟨a, dx, fs, t, rfl, ha, ty, hn, q⟩ := h
  cases (show v = Value.ref a from rx)
  obtain ⟨mA, O, _⟩ := ins_get I.hok ha
  obtain ⟨od, J, _⟩ := O.look
  obtain ⟨P, Z, hp, _⟩ := kit_of I ry ty
  show wpAny _ _ (richCompare .NotEq (.ref a) u) _ _ _
  refine cmp_ne_K (tb := t) hr.units0 hr.in1.units0 I.kIn J (Z.ty _ _ I.kIn hp) hn hm hne hs hf ?_
  refine wpAny_mono (wpAny_call (run_atR (us := [.ref a, u]) (ws := [.ref a, y]) F hr.in1 I.env0.in1 hx I (.cons rfl (.cons ry .nil)) q)) (fun w s' z => ?_) fun _ _ x => x
  obtain ⟨z', H', I', rz, k, ek, qz⟩ := z
  subst ek
  exact ⟨k, rz, .bl (!k), H', I', rfl, qz⟩
/-- str(x) by an own __str__ -/
def rStrOwn (C : Addr) (sp : Sp) (E : XK) : List V → Hp → VK → Prop := fun xs H Q => ∃ (a dx : Addr) (fs : List (Str × V)), xs = [V.ref a] ∧ H a = some (.ins C dx fs) ∧ sp [.ref a] H (fun z H' => ∃ y, z = .str y ∧ Q z H') E
theorem call_strOwn (hs : PySem.W.findIn X.K (.ref C) "__str__" = some (some (.ref g))) (hf : PySem.W.isFn X.K (.ref g) = true) (F : FnR X.prog X.w X.K X.mg X.base CX n g sp) (hr : Room (n + 2) X.A) (hx : Passes CX X E) :
    CallR X (.type "str") (rStrOwn C sp E) := by
  intro pins s σ H xs us Q I r h
  obtain ⟨a, dx, fs, rfl, ha, q⟩ := h
  obtain ⟨u, rfl, ru⟩ := vals1 r
  cases (show u = Value.ref a from ru)
  obtain ⟨mA, O, _⟩ := ins_get I.hok ha
  obtain ⟨od, J, _⟩ := O.look
  have hr2 : Room n X.A.in1.in1 := (show Room (n + 1) X.A.in1 from Room.in1 hr).in1
  refine PySem.W.kso_call hr2.units0 I.kIn J hs hf (wpAny_mono (wpAny_call (run_atR (us := [.ref a]) (ws := [.ref a]) F hr2 I.env0.in1.in1 hx I (.cons rfl .nil) q)) (fun w s' z => ?_) fun _ _ x => x)
  obtain ⟨z', H', I', rz, y, ey, qz⟩ := z
  subst ey
  obtain ⟨t, e⟩ := (show ∃ t, w = Value.str y t from rz)
  cases e
  exact ⟨.str y, H', I', ⟨t, rfl⟩, qz⟩
end

/-- cls(..), the class at C in the i-th slot -/
def tMakeL (i : Nat) (C : Addr) (sp : Sp) (dvs : List V) (E : XK) (t : TA) : TE := fun σ H Q => σ[i]? = some (some (.ref C)) ∧ t σ H fun vs H1 => ∀ x dx, H1 x = none → H1 dx = none → dx ≠ x →
  sp (.ref x :: (vs ++ dvs)) (upd (upd H1 dx (.own x)) x (.ins C dx [])) (fun v H2 => v = .non ∧ Q (.ref x) H2) E
section
variable {X : Cx} {CX : CXT} {k i : Nat} {f C : Addr} {fd : FuncData} {ps : List Str} {sp : Sp} {dvs : List V} {ds : List Value} {E : XK} {x : Str} {p pos : Pos} {e : Expr} {es : List Expr} {t : TA}
theorem pe_makeL (M : Mk X.K C f) (F : FnOk X.prog X.w X.K X.mg X.base CX k f fd ps sp) (hr : Room (k + 1) X.A) (hN : X.N[i]? = some x) (hv : Vis X.env.scope x) (hb : Binds X.K fd ps ds) (hd : Vals dvs ds) (hx : Passes CX X E)
    (ha : PA X (e :: es) t) (hdb : (x == ("__debug__" : Str)) = false := by decide) (hcd : (x == ("__classdict__" : Str)) = false := by decide)
    (he : starEach (e :: es) X.env = (false, eval e X.env) :: starEach es X.env := by rfl) (hpl : (backTo pos (starEach es X.env)).any (·.1) = false := by rfl) :
    PE X (.Call (.Name x p) (e :: es) [] pos) (tMakeL i C sp dvs E t) := by
  refine ⟨fun pins s σ H Q I h => ?_⟩
  obtain ⟨hs, ht⟩ := h
  refine wpAny_Call_Name_kw (thn ((pe_var (pos := p) hN hv hdb hcd).run pins s σ H (fun v H1 => v = .ref C ∧ H1 = H) I ⟨.ref C, hs, rfl, rfl⟩) fun u s1 ⟨v, H1, I1, r1, q1⟩ => ?_)
  obtain ⟨rfl, rfl⟩ := q1
  cases r1
  refine PySem.W.callWith_K (h₀ := X.base) I.ok.mod.kin M.kp (thn (ha.run pos pins s1 σ _ _ I1 ht) fun us s2 ⟨vs, H2, I2, r, q⟩ => ⟨I2.kIn, ?_⟩) he hpl
  exact run_make M F hr hb hd hx I2 r q
end

/-! ### types of values, classes -/
def notRef : Value → Bool
  | .ref _ => false
  | _ => true
def noRefs (l : List Value) : Bool := l.all notRef
theorem noRefs_of {l : List Value} {C : Addr} (h : noRefs l = true) : l.contains (.ref C) = false := by
  induction l with
  | nil => rfl
  | cons v l ih =>
    unfold noRefs at h
    rw [List.all_cons, Bool.and_eq_true] at h
    have h2 : l.contains (.ref C) = false := ih h.2
    rw [List.contains_cons, h2, Bool.or_false]
    cases v with
    | ref a => exact absurd h.1 (by show ¬ (false = true); decide)
    | _ => rfl
theorem sub_ty {K : PySem.W.Frag} {T : String} {C : Addr} (h : (fastBuiltinMro T).any noRefs = true) : PySem.W.subIn K (.type T) (.ref C) = some false := by
  show (fastBuiltinMro T).map (·.contains (.ref C)) = some false
  cases e : fastBuiltinMro T with
  | none => rw [e] at h; cases h
  | some l =>
    rw [e] at h
    exact congrArg some (noRefs_of h)
theorem nf_ty {K : PySem.W.Frag} {T : String} {C : Addr} (h : (fastBuiltinMro T).any noRefs = true) : PySem.W.notFirst K C (.type T) = true := by
  unfold PySem.W.notFirst
  rw [sub_ty h]
  exact Bool.or_true _
theorem nf_own {K : PySem.W.Frag} {C : Addr} : PySem.W.notFirst K C (.ref C) = true := by
  unfold PySem.W.notFirst
  rw [beq_self_eq_true]
  exact Bool.true_or _
theorem mro_str : (fastBuiltinMro "str").any noRefs = true := by decide +kernel
theorem mro_int : (fastBuiltinMro "int").any noRefs = true := by decide +kernel
theorem mro_bool : (fastBuiltinMro "bool").any noRefs = true := by decide +kernel
theorem mro_none : (fastBuiltinMro "NoneType").any noRefs = true := by decide +kernel
theorem mro_tuple : (fastBuiltinMro "tuple").any noRefs = true := by decide +kernel
theorem mro_list : (fastBuiltinMro "list").any noRefs = true := by decide +kernel
/-- what of the text a class must have: its instances are read, compared, asked for their class -/
structure ClsT (K : PySem.W.Frag) (C : Addr) : Prop where
  cl : Cls K C
  ca : PySem.W.findIn K (.ref C) "__class__" = some (some (.builtin "object.__class__"))
  cn : PySem.W.specialIn K (.builtin "object.__class__") "__get__" = some (some (.builtin "getset_descriptor.__get__"))
  ct : PySem.W.takesIn K (.builtin "object.__class__") = some true
  cm : PySem.W.mroIn K C (.type "object") = some true
  isc : ((PySem.W.clsIn K C).isSome && PySem.W.typeIn K (.ref C) == some (.type "type")) = true
  ne : PySem.W.findIn K (.ref C) "__ne__" = some (some (.builtin "object.__ne__"))
theorem isc_mk {K : PySem.W.Frag} {C : Addr} (a : PySem.W.isClsIn K C = true) (b : PySem.W.typeIn K (.ref C) = some (.type "type")) : ((PySem.W.clsIn K C).isSome && PySem.W.typeIn K (.ref C) == some (.type "type")) = true := by
  rw [b, show (PySem.W.clsIn K C).isSome = true from a]
  rfl
theorem ClsT.ty {K : PySem.W.Frag} {C : Addr} (c : ClsT K C) {H : Hp} {a dx : Addr} {fs : List (Str × V)} (h : H a = some (.ins C dx fs)) : TyX K H (.ref a) (.ref C) := .base (.ins h c.cl c.ca c.cn c.ct c.cm)
theorem kit_own {K : PySem.W.Frag} {C : Addr} : PySem.W.kitOne K (.ref C) (.ref C) = some true := by
  unfold PySem.W.kitOne
  rw [beq_self_eq_true]
  exact if_pos rfl
theorem ClsT.kitTy {K : PySem.W.Frag} {C : Addr} (c : ClsT K C) {T : String} (h : (fastBuiltinMro T).any noRefs = true) : PySem.W.kitOne K (.type T) (.ref C) = some false := by
  unfold PySem.W.kitOne
  rw [if_neg (by show ¬ ((Value.type T == Value.ref C) = true); exact fun q => nomatch (beq_iff_eq.mp q))]
  show (if ((PySem.W.clsIn K C).isSome && PySem.W.typeIn K (.ref C) == some (.type "type")) = true then PySem.W.subIn K (.type T) (.ref C) else none) = some false
  rw [if_pos c.isc]
  exact sub_ty h

/-! ### heaps: all but one address stays -/
/-- what stood at another address than b stands -/
def But (b : Addr) (H H' : Hp) : Prop := ∀ q o, H q = some o → q ≠ b → H' q = some o
theorem But.refl {b : Addr} {H : Hp} : But b H H := fun _ _ h _ => h
theorem But.trans {b : Addr} {H H1 H2 : Hp} (x : But b H H1) (y : But b H1 H2) : But b H H2 := fun q o h n => y q o (x q o h n) n
theorem But.of {b : Addr} {H H' : Hp} (s : Same H H') : But b H H' := fun q o h _ => s q o h
theorem But.upd {b : Addr} {H : Hp} {o : HO} : But b H (upd H b o) := fun q u h n => by rw [upd_ne n]; exact h
theorem But.same {b : Addr} {H H' : Hp} (x : But b H H') (h : H b = none) : Same H H' := fun q o e => x q o e (ne_of_none e h)
theorem But.free {b q : Addr} {H H' : Hp} (x : But b H H') (n : q ≠ b) (h : H' q = none) : H q = none := by
  cases e : H q with
  | none => rfl
  | some o => rw [x q o e n] at h; cases h
theorem But.seq {K : PySem.W.Frag} {b a : Addr} {xs : List V} {H H' : Hp} (x : But b H H') (n : a ≠ b) (h : SqL K H a xs) : SqL K H' a xs := by
  rcases h with (h | ⟨o, h⟩) | h
  · exact .inl (.inl (x _ _ h n))
  · exact .inl (.inr ⟨o, x _ _ h n⟩)
  · exact .inr h
theorem Same.new {H : Hp} {p : Addr} {o : HO} (h : H p = none) : Same H (upd H p o) := fun q u e => by
  rw [upd_ne (ne_of_none e h)]; exact e
/-- a new instance is laid -/
theorem Same.make {H : Hp} {x dx C : Addr} {fs : List (Str × V)} (nx : H x = none) (nd : H dx = none) : Same H (L2.upd (L2.upd H dx (.own x)) x (.ins C dx fs)) := fun b o e => by
  rw [upd_ne (ne_of_none e nx), upd_ne (ne_of_none e nd)]; exact e
theorem two_upd {H : Hp} {a : Addr} {o u : HO} : L2.upd (L2.upd H a o) a u = L2.upd H a u := upd_upd

/-! ### attributes -/
theorem lk0 {f : Str} {v : V} {fs : List (Str × V)} : List.lookup f ((f, v) :: fs) = some v := by
  rw [List.lookup_cons]; simp
theorem lk1 {f g : Str} {v : V} {fs : List (Str × V)} (h : (f == g) = false) : List.lookup f ((g, v) :: fs) = List.lookup f fs := by
  rw [List.lookup_cons, h]
theorem pf0 {f : Str} {v : V} : putF f v [] = [(f, v)] := rfl
theorem pf1 {f g : Str} {v u : V} {fs : List (Str × V)} (h : ¬ g = f) : putF f v ((g, u) :: fs) = (g, u) :: putF f v fs := by
  show (if g = f then (g, v) :: fs else (g, u) :: putF f v fs) = _
  rw [if_neg h]

/-! ### readings by short names -/
abbrev rAddI : R2 := rI0 fun i j => .int (i + j)
abbrev rSubI : R2 := rI0 fun i j => .int (i - j)
abbrev rMulI : R2 := rI CMul fun i j => .int (i * j)
abbrev rFdivI : R2 := rI CDiv fun i j => .int (i / j)
abbrev rModI : R2 := rI (fun _ j => 0 < j) fun i j => .int (i % j)
abbrev rPowI : R2 := rI CPow fun i j => .int (i ^ j.toNat)
abbrev rLtI : R2 := rI0 fun i j => .bl (decide (i < j))
abbrev rLeI : R2 := rI0 fun i j => .bl (decide (i ≤ j))
abbrev rGtI : R2 := rI0 fun i j => .bl (decide (j < i))
abbrev rGeI : R2 := rI0 fun i j => .bl (decide (j ≤ i))
abbrev rNegI : V → Hp → VK → Prop := rU fun i => .int (-i)
abbrev rAddS : R2 := fun x y H Q => ∃ i j, x = .str i ∧ y = .str j ∧ i.length + j.length ≤ sizeLine ∧ Q (.str (i ++ j)) H
abbrev rIsNn : R2 := fun x y H Q => y = .non ∧ Q (.bl (decide (x = .non))) H
abbrev rNotNn : R2 := fun x y H Q => y = .non ∧ Q (.bl (!decide (x = .non))) H
abbrev rStrI : List V → Hp → VK → Prop := fun xs H Q => ∃ i, xs = [.int i] ∧ i.natAbs.log2 < 1920 ∧ Q (.str (toString i)) H

/-! ### new objects, by what is true of the heap behind them -/
section
variable {X : Cx} {e : Expr} {es : List Expr} {t t' : TE} {ta : TA} {pos : Pos}
theorem PE.weak (h : PE X e t) (k : ∀ σ H Q, t' σ H Q → t σ H Q) : PE X e t' := ⟨fun pins s σ H Q I q => h.run pins s σ H Q I (k σ H Q q)⟩
def tTupS (t : TA) : TE := fun σ H Q => t σ H fun xs H1 => xs.length ≤ sizeLine ∧ ∀ p H', H1 p = none → Same H1 H' → H' p = some (.tup xs) → Q (.ref p) H'
def tLstS (t : TA) : TE := fun σ H Q => t σ H fun xs H1 => xs.length ≤ sizeLine ∧ ∀ p H', H1 p = none → Same H1 H' → H' p = some (.lst xs) → Q (.ref p) H'
theorem pe_tupS {x1} (h : PA X es ta) : PE X (.Tuple es x1 pos) (tTupS ta) := by
  refine ⟨fun pins s σ H Q I hq => ?_⟩
  refine wpAny_Tuple_spliced (thn (h.run pos pins s σ H _ I hq) fun us s1 ⟨xs, H1, I1, r, z, q⟩ => ⟨by rw [← r.length]; exact z, ?_⟩)
  have hf : H1 s1.heap.objs.size = none := I1.hok.fresh (Nat.le_refl _)
  refine ⟨.ref s1.heap.objs.size, L2.upd H1 s1.heap.objs.size (.tup xs), I1.laid (t' := s1.toks) (fun b u e => Heap.get?_push_of_some _ e) (Nat.le_refl _) ?_, rfl, q _ _ hf (Same.new hf) upd_same⟩
  exact ⟨z, us, r, ⟨_, Heap.get?_push_size _ rfl, rfl, _, rfl⟩⟩
theorem pe_lstS (h : PA X es ta) : PE X (.List es pos) (tLstS ta) := by
  refine ⟨fun pins s σ H Q I hq => ?_⟩
  refine wpAny_List_spliced (thn (h.run pos pins s σ H _ I hq) fun us s1 ⟨xs, H1, I1, r, z, q⟩ => ⟨by rw [← r.length]; exact z, ?_⟩)
  have hf : H1 s1.heap.objs.size = none := I1.hok.fresh (Nat.le_refl _)
  refine ⟨.ref s1.heap.objs.size, L2.upd H1 s1.heap.objs.size (.lst xs), I1.laid (t' := s1.toks) (fun b u e => Heap.get?_push_of_some _ e) (Nat.le_refl _) ?_, rfl, q _ _ hf (Same.new hf) upd_same⟩
  exact ⟨z, us, 0, r, Heap.get?_push_size _ rfl⟩
def rCatS : R2 := fun x y H Q => ∃ l b xs zs, x = .ref l ∧ y = .ref b ∧ H l = some (.lst xs) ∧ H b = some (.lst zs) ∧ xs.length + zs.length ≤ sizeLine ∧ ∀ p H', H p = none → Same H H' → H' p = some (.lst (xs ++ zs)) → Q (.ref p) H'
theorem op_catS : OpR X (binaryOp .Add) rCatS := by
  intro pins s σ H x y v u Q I rx ry h
  obtain ⟨l, b, xs, zs, h1, h2, h3, h4, h5, h6⟩ := h
  exact op_cat pins s σ H x y v u Q I rx ry ⟨l, b, xs, zs, h1, h2, h3, h4, h5, fun p hp => h6 p _ hp (Same.new hp) upd_same⟩
def rSlLS (K : PySem.W.Frag) : V → Option Int → Option Int → Hp → VK → Prop := fun x lo hi H Q => ∃ a xs, x = .ref a ∧ SqL K H a xs ∧ ∀ p H', H p = none → Same H H' → H' p = some (.lst (cutV xs lo hi)) → Q (.ref p) H'
theorem sl_listS : SlR X (rSlLS X.K) := by
  intro pins s σ H x v vl vu lo hi sl Q I rx hs pl pu h
  obtain ⟨a, xs, h1, h2, h3⟩ := h
  exact sl_list pins s σ H x v vl vu lo hi sl Q I rx hs pl pu ⟨a, xs, h1, h2, fun p hp => h3 p _ hp (Same.new hp) upd_same⟩
def rListOfS (K : PySem.W.Frag) : List V → Hp → VK → Prop := fun xs H Q => ∃ p ys, xs = [.ref p] ∧ (SqL K H p ys ∨ SqT K H p ys) ∧ ∀ l H', H l = none → Same H H' → H' l = some (.lst ys) → Q (.ref l) H'
theorem call_list_ofS : CallR X (.type "list") (rListOfS X.K) := by
  intro pins s σ H xs us Q I r h
  obtain ⟨p, ys, h1, h2, h3⟩ := h
  exact call_list_of pins s σ H xs us Q I r ⟨p, ys, h1, h2, fun l hl => h3 l _ hl (Same.new hl) upd_same⟩
end
/-- a new object at x, whatever its attributes: what stood before stands -/
theorem made_same {H H' : Hp} {x dx C : Addr} {fs : List (Str × V)} (nx : H x = none) (nd : H dx = none) (b : But x (L2.upd (L2.upd H dx (.own x)) x (.ins C dx fs)) H') : Same H H' := fun q o e =>
  b q o (by rw [upd_ne (ne_of_none e nx), upd_ne (ne_of_none e nd)]; exact e) (ne_of_none e nx)
end Lf

set_option Elab.async false
set_option linter.all false
set_option maxRecDepth 100000
set_option maxHeartbeats 4000000
namespace Toy
open PySem L2 Lf
def top (i : Nat) : Stmt := PySem.Challenge.pw_linkedfilters_k66_tallies_as_values.main.body.getD i (.Pass ⟨0, 0, 0, 0⟩)
abbrev s_Tally__init : Stmt := inClass (top 1) 0
abbrev s_Tally_counting : Stmt := inClass (top 1) 1
abbrev s_Tally_adding : Stmt := inClass (top 1) 2
abbrev s_Tally__eq : Stmt := inClass (top 1) 3
abbrev s_Tally__str : Stmt := inClass (top 1) 4
abbrev s_l_bag : Stmt := top 3
abbrev s_l_draw : Stmt := top 4
abbrev s_l_of : Stmt := top 5
abbrev s_l_word : Stmt := top 6
abbrev s_l_name : Stmt := top 7
abbrev s_l_right : Stmt := top 8
abbrev s_law : Stmt := top 9
structure Ad where
  f_Tally__init : Addr
  d_Tally__init : FuncData
  f_Tally_counting : Addr
  d_Tally_counting : FuncData
  p_Tally_counting : Addr
  f_Tally_adding : Addr
  d_Tally_adding : FuncData
  p_Tally_adding : Addr
  f_Tally__eq : Addr
  d_Tally__eq : FuncData
  f_Tally__str : Addr
  d_Tally__str : FuncData
  f_l_bag : Addr
  d_l_bag : FuncData
  f_l_draw : Addr
  d_l_draw : FuncData
  f_l_of : Addr
  d_l_of : FuncData
  f_l_word : Addr
  d_l_word : FuncData
  f_l_name : Addr
  d_l_name : FuncData
  f_l_right : Addr
  d_l_right : FuncData
  f_law : Addr
  d_law : FuncData
  C_Tally : Addr
structure Txt (K : PySem.W.Frag) (mg : Str → Option Value) (a : Ad) : Prop where
  F_Tally__init : Fun K "__init__" "Tally.__init__" s_Tally__init a.f_Tally__init a.d_Tally__init
  k_Tally__init : PySem.W.keepIn K (.ref a.f_Tally__init) = true
  a_Tally__init : Binds K a.d_Tally__init ["self", "word", "name"] []
  t_Tally__init : Meth K a.C_Tally "__init__" a.f_Tally__init
  f_Tally__init : PySem.W.findIn K (.ref a.C_Tally) "__init__" = some (some (.ref a.f_Tally__init))
  i_Tally__init : PySem.W.isFn K (.ref a.f_Tally__init) = true
  F_Tally_counting : Fun K "counting" "Tally.counting" s_Tally_counting a.f_Tally_counting a.d_Tally_counting
  k_Tally_counting : PySem.W.keepIn K (.ref a.f_Tally_counting) = true
  a_Tally_counting : Binds K a.d_Tally_counting ["cls", "name"] []
  cm_Tally_counting : ClX.CMet K a.C_Tally (.type "type") "counting" a.p_Tally_counting a.f_Tally_counting
  F_Tally_adding : Fun K "adding" "Tally.adding" s_Tally_adding a.f_Tally_adding a.d_Tally_adding
  k_Tally_adding : PySem.W.keepIn K (.ref a.f_Tally_adding) = true
  a_Tally_adding : Binds K a.d_Tally_adding ["cls", "name"] []
  cm_Tally_adding : ClX.CMet K a.C_Tally (.type "type") "adding" a.p_Tally_adding a.f_Tally_adding
  F_Tally__eq : Fun K "__eq__" "Tally.__eq__" s_Tally__eq a.f_Tally__eq a.d_Tally__eq
  k_Tally__eq : PySem.W.keepIn K (.ref a.f_Tally__eq) = true
  a_Tally__eq : Binds K a.d_Tally__eq ["self", "other"] []
  t_Tally__eq : Meth K a.C_Tally "__eq__" a.f_Tally__eq
  f_Tally__eq : PySem.W.findIn K (.ref a.C_Tally) "__eq__" = some (some (.ref a.f_Tally__eq))
  i_Tally__eq : PySem.W.isFn K (.ref a.f_Tally__eq) = true
  F_Tally__str : Fun K "__str__" "Tally.__str__" s_Tally__str a.f_Tally__str a.d_Tally__str
  k_Tally__str : PySem.W.keepIn K (.ref a.f_Tally__str) = true
  a_Tally__str : Binds K a.d_Tally__str ["self"] []
  t_Tally__str : Meth K a.C_Tally "__str__" a.f_Tally__str
  f_Tally__str : PySem.W.findIn K (.ref a.C_Tally) "__str__" = some (some (.ref a.f_Tally__str))
  i_Tally__str : PySem.W.isFn K (.ref a.f_Tally__str) = true
  F_l_bag : Fun K "_law_bag" "_law_bag" s_l_bag a.f_l_bag a.d_l_bag
  k_l_bag : PySem.W.keepIn K (.ref a.f_l_bag) = true
  a_l_bag : Binds K a.d_l_bag ["_law_script", "_law_at"] []
  m_l_bag : mg "_law_bag" = some (.ref a.f_l_bag)
  F_l_draw : Fun K "_law_draw" "_law_draw" s_l_draw a.f_l_draw a.d_l_draw
  k_l_draw : PySem.W.keepIn K (.ref a.f_l_draw) = true
  a_l_draw : Binds K a.d_l_draw ["_law_bag_here", "_law_many"] []
  m_l_draw : mg "_law_draw" = some (.ref a.f_l_draw)
  F_l_of : Fun K "_law_of" "_law_of" s_l_of a.f_l_of a.d_l_of
  k_l_of : PySem.W.keepIn K (.ref a.f_l_of) = true
  a_l_of : Binds K a.d_l_of ["_law_bag_here", "_law_some"] []
  m_l_of : mg "_law_of" = some (.ref a.f_l_of)
  F_l_word : Fun K "_law_word" "_law_word" s_l_word a.f_l_word a.d_l_word
  k_l_word : PySem.W.keepIn K (.ref a.f_l_word) = true
  a_l_word : Binds K a.d_l_word ["_law_bag_here", "_law_taken"] []
  m_l_word : mg "_law_word" = some (.ref a.f_l_word)
  F_l_name : Fun K "_law_name" "_law_name" s_l_name a.f_l_name a.d_l_name
  k_l_name : PySem.W.keepIn K (.ref a.f_l_name) = true
  a_l_name : Binds K a.d_l_name ["_law_bag_here"] []
  m_l_name : mg "_law_name" = some (.ref a.f_l_name)
  F_l_right : Fun K "_law_right" "_law_right" s_l_right a.f_l_right a.d_l_right
  k_l_right : PySem.W.keepIn K (.ref a.f_l_right) = true
  a_l_right : Binds K a.d_l_right ["_law_bag_here"] []
  m_l_right : mg "_law_right" = some (.ref a.f_l_right)
  F_law : Fun K "law" "law" s_law a.f_law a.d_law
  k_law : PySem.W.keepIn K (.ref a.f_law) = true
  a_law : Binds K a.d_law ["_law_script"] []
  m_law : mg "law" = some (.ref a.f_law)
  ct_Tally : ClsT K a.C_Tally
  m_Tally : mg "Tally" = some (.ref a.C_Tally)
  mk_Tally : Mk K a.C_Tally a.f_Tally__init
  r_Tally : ClX.CRead K a.C_Tally (.type "type")
  n_Tally_word : NoAttr K a.C_Tally "word"
  n_Tally_name : NoAttr K a.C_Tally "name"
  b_len : mg "len" = none
  b_abs : mg "abs" = none
  b_int : mg "int" = none
  b_range : mg "range" = none
  b_isinstance : mg "isinstance" = none
  b_str : mg "str" = none
  b_max : mg "max" = none
  b_min : mg "min" = none
theorem Txt.c_Tally {K : PySem.W.Frag} {mg : Str → Option Value} {a : Ad} (T : Txt K mg a) : Cls K a.C_Tally := T.ct_Tally.cl
theorem Txt.o_Tally {K : PySem.W.Frag} {mg : Str → Option Value} {a : Ad} (T : Txt K mg a) : PySem.W.mroIn K a.C_Tally (.type "object") = some true := T.ct_Tally.cm
theorem Txt.ne_Tally {K : PySem.W.Frag} {mg : Str → Option Value} {a : Ad} (T : Txt K mg a) : PySem.W.findIn K (.ref a.C_Tally) "__ne__" = some (some (.builtin "object.__ne__")) := T.ct_Tally.ne
section
variable {P : Program} {w : World} {K : PySem.W.Frag} {mg : Str → Option Value} {base : Heap} {a : Ad}


def spBag (K : PySem.W.Frag) : Sp := fun vs H Q _ => ∃ (s : Addr) (ns : List Int) (i : Nat), vs = [.ref s, .int i] ∧ SqL K H s (ns.map V.int) ∧ i < 64 ∧
  ∀ (b : Addr) (d m : Int) (H' : Hp), H b = none → Same H H' → H' b = some (.lst [.int d, .int m, .int 0]) → 0 ≤ d → 0 ≤ m → m < 2 ^ 62 → Q (.ref b) H'
theorem sc_l_bag : FnScope ["_law_script", "_law_at", "_law_cell", "_law_digits"] ["_law_script", "_law_at"] (defScope s_l_bag) := ⟨rfl, rfl, rfl, by decide +kernel, rfl, by decide +kernel, by decide +kernel⟩
theorem ok_l_bag (T : Txt K mg a) : FnOk P w K mg base CX0 1 a.f_l_bag a.d_l_bag ["_law_script", "_law_at"] (spBag K) := by
  refine T.F_l_bag.ok sc_l_bag (fun vs H Q E h => ?_) (fun cdv A outer s H vs Q E hr h => ?_)
  · obtain ⟨b, ns, i, rfl, _⟩ := h
    rfl
  · obtain ⟨b, ns, i, rfl, hS, hi, k⟩ := h
    refine ⟨_, (pss_cons (ps_set (i := 2) sc_l_bag.nd rfl (.inl rfl) (pe_ifExp (pt_cmpR op_lt (pv 1) (pe_callB call_len_seq (by rfl) T.b_len PySem.boot_len (pa_cons (pv 0) pa_nil)) (nomark _)) (pe_ix ix_list (pv 0) (pv 1) (fun _ _ => rfl)) pe_int))
      (pss_cons (ps_set (i := 3) sc_l_bag.nd rfl (.inl rfl) (pe_ifExp (pt_cmpR op_ge (pe_callB call_abs (by rfl) T.b_abs (by decide +kernel) (pa_cons (pv 2) pa_nil)) (pe_op op_pow pe_int pe_int) (nomark _)) (pe_callB call_abs (by rfl) T.b_abs (by decide +kernel) (pa_cons (pv 2) pa_nil)) pe_int))
      (pss_one (ps_ret (pe_lstS (pa_cons (pv 3) (pa_cons (pe_op op_add (pe_op op_add (pe_op op_mod (pe_callTy call_int1 (by rfl) T.b_int (by decide +kernel) (pa_cons (pv 2) pa_nil)) pe_int) (pe_op op_mul pe_int (pv 1))) pe_int) (pa_cons pe_int pa_nil)))))))), ?_⟩
    refine ⟨_, rfl, _, rfl, b, _, rfl, .inl hS, _, _, rfl, rfl, _, rfl, ?_⟩
    refine ite2 (fun h => ?_) (fun h => ?_)
    · have h1 : ((i : Nat) : Int) < ((ns.map V.int).length : Nat) := of_decide_eq_true h
      have h2 : i < ns.length := by rw [List.length_map] at h1; omega
      refine ⟨_, rfl, _, rfl, b, _, _, .int (ns[i]), rfl, rfl, hS, atI_nat (by rw [List.getElem?_map, List.getElem?_eq_getElem h2]; rfl), ?_⟩
      generalize ns[i] = c
      refine ⟨_, rfl, _, rfl, _, _, rfl, rfl, ⟨by decide, by decide, by decide⟩, _, _, rfl, rfl, _, rfl, ?_⟩
      refine ite2 (fun h => ?_) (fun h => ?_)
      · refine ⟨_, rfl, _, rfl, _, rfl, _, rfl, .inl ⟨_, rfl, _, _, rfl, rfl, (by show (0 : Int) < 999999999989; decide), _, rfl, _, _, rfl, rfl, .inl ⟨by decide, by decide⟩, _, _, rfl, rfl, _, _, rfl, rfl, (by show 3 ≤ sizeLine; decide), fun p H' hp sm hp' => ?_⟩⟩
        have e1 := Int.emod_nonneg c (show (999999999989 : Int) ≠ 0 by decide)
        have e2 := Int.emod_lt_of_pos c (show (0 : Int) < 999999999989 by decide)
        exact k p _ _ H' hp sm hp' (by split <;> omega) (by omega) (by omega)
      · refine ⟨_, rfl, _, rfl, .inl ⟨_, rfl, _, _, rfl, rfl, (by show (0 : Int) < 999999999989; decide), _, rfl, _, _, rfl, rfl, .inl ⟨by decide, by decide⟩, _, _, rfl, rfl, _, _, rfl, rfl, (by show 3 ≤ sizeLine; decide), fun p H' hp sm hp' => ?_⟩⟩
        have e1 := Int.emod_nonneg c (show (999999999989 : Int) ≠ 0 by decide)
        have e2 := Int.emod_lt_of_pos c (show (0 : Int) < 999999999989 by decide)
        exact k p _ _ H' hp sm hp' (by omega) (by omega) (by omega)
    · refine ⟨_, rfl, _, rfl, _, _, rfl, rfl, ⟨by decide, by decide, by decide⟩, _, _, rfl, rfl, _, rfl, ?_⟩
      refine ite2 (fun h => ?_) (fun h => ?_)
      · exact absurd (of_decide_eq_true h) (by decide)
      · refine ⟨_, rfl, _, rfl, .inl ⟨_, rfl, _, _, rfl, rfl, (by show (0 : Int) < 999999999989; decide), _, rfl, _, _, rfl, rfl, .inl ⟨by decide, by decide⟩, _, _, rfl, rfl, _, _, rfl, rfl, (by show 3 ≤ sizeLine; decide), fun p H' hp sm hp' => ?_⟩⟩
        exact k p _ _ H' hp sm hp' (by omega) (by omega) (by omega)

def BagAt (H : Hp) (b : Addr) (n : Nat) : Prop := ∃ d m c : Int, H b = some (.lst [.int d, .int m, .int c]) ∧ 0 ≤ d ∧ 0 ≤ m ∧ m < 2 ^ 62 ∧ 0 ≤ c ∧ c ≤ n
def spDraw : Sp := fun vs H Q _ => ∃ (b : Addr) (n : Nat) (many : Int), vs = [.ref b, .int many] ∧ BagAt H b n ∧ n < 2 ^ 30 ∧ 0 < many ∧ many < 2 ^ 30 ∧
  ∀ (r : Int) (H' : Hp), 0 ≤ r → r < many → BagAt H' b (n + 1) → But b H H' → Q (.int r) H'
theorem sc_l_draw : FnScope ["_law_bag_here", "_law_many", "_law_digit", "_law_mixed"] ["_law_bag_here", "_law_many"] (defScope s_l_draw) := ⟨rfl, rfl, rfl, by decide +kernel, rfl, by decide +kernel, by decide +kernel⟩
theorem ok_l_draw (T : Txt K mg a) : FnOk P w K mg base CX0 1 a.f_l_draw a.d_l_draw ["_law_bag_here", "_law_many"] spDraw := by
  refine T.F_l_draw.ok sc_l_draw (fun vs H Q E h => ?_) (fun cdv A outer s H vs Q E hr h => ?_)
  · obtain ⟨b, n, i, rfl, _⟩ := h
    rfl
  · obtain ⟨b, n, many, rfl, ⟨d, m, c, hb, d0, m0, m1, c0, c1⟩, hn, p0, p1, k⟩ := h
    refine ⟨_, (pss_cons (ps_if (pt_cmpR op_gt (pe_ix ix_list (pv 0) pe_int (fun _ _ => rfl)) pe_int (nomark _)) (pss_cons (ps_set (i := 2) sc_l_draw.nd rfl (.inl rfl) (pe_op op_mod (pe_callTy call_int1 (by rfl) T.b_int (by decide +kernel) (pa_cons (pe_ix ix_list (pv 0) pe_int (fun _ _ => rfl)) pa_nil)) (pv 1)))
      (pss_cons (ps_asg (pe_op op_fdiv (pe_ix ix_list (pv 0) pe_int (fun _ _ => rfl)) (pv 1)) (pg_sub (pv 0) pe_int set_list))
      (pss_one (ps_ret (pv 2))))) pss_nil)
      (pss_cons (ps_asg (pe_op op_add (pe_ix ix_list (pv 0) pe_int (fun _ _ => rfl)) pe_int) (pg_sub (pv 0) pe_int set_list))
      (pss_cons (ps_set (i := 3) sc_l_draw.nd rfl (.inl rfl) (pe_op op_mod (pe_callTy call_int1 (by rfl) T.b_int (by decide +kernel) (pa_cons (pe_op op_pow (pe_op op_add (pe_ix ix_list (pv 0) pe_int (fun _ _ => rfl)) (pe_op op_mul pe_int (pe_ix ix_list (pv 0) pe_int (fun _ _ => rfl)))) pe_int) pa_nil)) pe_int))
      (pss_cons (ps_set (i := 3) sc_l_draw.nd rfl (.inl rfl) (pe_op op_mod (pe_callTy call_int1 (by rfl) T.b_int (by decide +kernel) (pa_cons (pe_op op_pow (pe_op op_add (pv 3) (pe_op op_mul pe_int (pe_ix ix_list (pv 0) pe_int (fun _ _ => rfl)))) pe_int) pa_nil)) pe_int))
      (pss_one (ps_ret (pe_op op_mod (pe_callTy call_int1 (by rfl) T.b_int (by decide +kernel) (pa_cons (pe_op op_fdiv (pv 3) pe_int) pa_nil)) (pv 1)))))))), ?_⟩
    refine ⟨_, rfl, b, _, _, _, rfl, rfl, SqL.of hb, rfl, _, _, rfl, rfl, _, rfl, ?_⟩
    refine ite2 (fun h => ?_) (fun h => ?_)
    · have h1 : 0 < d := of_decide_eq_true h
      refine ⟨_, rfl, b, _, _, _, rfl, rfl, SqL.of hb, rfl, .inl ⟨_, rfl, _, rfl, _, _, rfl, rfl, p0, ?_⟩⟩
      refine ⟨_, rfl, b, _, _, _, rfl, rfl, SqL.of hb, rfl, _, rfl, _, _, rfl, rfl, ⟨p0, by omega⟩, ?_⟩
      refine ⟨_, rfl, b, _, _, _, rfl, rfl, hb, rfl, ?_⟩
      refine ⟨_, rfl, ?_⟩
      refine k _ _ (Int.emod_nonneg _ (by omega)) (Int.emod_lt_of_pos _ p0) ⟨d / many, m, c, upd_same, Int.ediv_nonneg d0 (by omega), m0, m1, c0, by omega⟩ But.upd
    · refine ⟨_, rfl, b, _, _, _, rfl, rfl, SqL.of hb, rfl, _, _, rfl, rfl, ?_⟩
      refine ⟨_, rfl, b, _, _, _, rfl, rfl, hb, rfl, ?_⟩
      have hb2 : (upd H b (.lst ([V.int d, V.int m, V.int c].set 2 (V.int (c + 1))))) b = some (.lst [.int d, .int m, .int (c + 1)]) := upd_same
      refine ⟨_, rfl, b, _, _, _, rfl, rfl, SqL.of hb2, rfl, _, rfl, b, _, _, _, rfl, rfl, SqL.of hb2, rfl, _, _, rfl, rfl, .inl ⟨by decide, by decide⟩, _, _, rfl, rfl, _, _, rfl, rfl, ⟨by decide, by decide, by omega⟩, .inl ⟨_, rfl, _, _, rfl, rfl, (by show (0 : Int) < 2147483629; decide), ?_⟩⟩
      generalize e : (m + 7368787 * (c + 1)) ^ Int.toNat 5 % 2147483629 = x
      have x0 : 0 ≤ x := by rw [← e]; exact Int.emod_nonneg _ (by decide)
      have x1 : x < 2147483629 := by rw [← e]; exact Int.emod_lt_of_pos _ (by decide)
      refine ⟨_, rfl, _, rfl, b, _, _, _, rfl, rfl, SqL.of hb2, rfl, _, _, rfl, rfl, .inl ⟨by decide, by decide⟩, _, _, rfl, rfl, _, _, rfl, rfl, ⟨by decide, by decide, by omega⟩, .inl ⟨_, rfl, _, _, rfl, rfl, (by show (0 : Int) < 1000000007; decide), ?_⟩⟩
      generalize e2 : (x + 15485863 * (c + 1)) ^ Int.toNat 3 % 1000000007 = y
      refine ⟨_, rfl, _, _, rfl, rfl, ⟨by decide, by decide⟩, .inl ⟨_, rfl, _, rfl, _, _, rfl, rfl, p0, ?_⟩⟩
      exact k _ _ (Int.emod_nonneg _ (by omega)) (Int.emod_lt_of_pos _ p0) ⟨d, m, c + 1, hb2, d0, m0, m1, by omega, by omega⟩ But.upd

/-- one of some values -/
def spOf (K : PySem.W.Frag) : Sp := fun vs H Q _ => ∃ (b l : Addr) (n : Nat) (xs : List V), vs = [.ref b, .ref l] ∧ BagAt H b n ∧ n < 2 ^ 30 ∧ SqL K H l xs ∧ l ≠ b ∧ xs ≠ [] ∧ xs.length < 2 ^ 30 ∧
  ∀ (x : V) (H' : Hp), x ∈ xs → BagAt H' b (n + 1) → But b H H' → Q x H'
theorem sc_l_of : FnScope ["_law_bag_here", "_law_some"] ["_law_bag_here", "_law_some"] (defScope s_l_of) := ⟨rfl, rfl, rfl, by decide +kernel, rfl, by decide +kernel, by decide +kernel⟩
theorem ok_l_of (T : Txt K mg a) : FnOk P w K mg base CX0 2 a.f_l_of a.d_l_of ["_law_bag_here", "_law_some"] (spOf K) := by
  refine T.F_l_of.ok sc_l_of (fun vs H Q E h => ?_) (fun cdv A outer s H vs Q E hr h => ?_)
  · obtain ⟨b, l, n, xs, rfl, _⟩ := h
    rfl
  · obtain ⟨b, l, n, xs, rfl, hb, hn, hl, hne, h0, h1, k⟩ := h
    have hx : 0 < xs.length := List.length_pos_iff.mpr h0
    refine ⟨_, (pss_one (ps_ret (pe_ix ix_list (pv 1) (pe_call (ok_l_draw T) (hr.mono (by decide)) rfl T.m_l_draw T.k_l_draw T.a_l_draw .nil pass0 (pa_cons (pv 0) (pa_cons (pe_callB call_len_seq (by rfl) T.b_len PySem.boot_len (pa_cons (pv 1) pa_nil)) pa_nil))) (fun _ _ => rfl)))), ?_⟩
    refine ⟨_, rfl, _, rfl, _, rfl, l, _, rfl, .inl hl, b, n, _, rfl, hb, hn, by omega, by omega, fun r H' r0 r1 hb' bt => ?_⟩
    obtain ⟨j, rfl⟩ : ∃ j : Nat, r = j := ⟨r.toNat, by omega⟩
    have hj : j < xs.length := by omega
    refine ⟨l, _, _, xs[j], rfl, rfl, bt.seq hne hl, atI_nat (List.getElem?_eq_getElem hj), ?_⟩
    exact k _ H' (List.getElem_mem hj) hb' bt

end
end Toy

set_option Elab.async false
set_option linter.all false
set_option maxRecDepth 100000
set_option maxHeartbeats 4000000
namespace Toy
open PySem L2 Lf
section
variable {P : Program} {w : World} {K : PySem.W.Frag} {mg : Str → Option Value} {base : Heap} {a : Ad}
def fl_Tally (x0 : Str) (x1 : Str) : List (Str × V) := [("word", .str x0), ("name", .str x1)]
theorem lk_Tally_word (x0 : Str) (x1 : Str) : (fl_Tally x0 x1).lookup ("word" : Str) = some (.str x0) := by unfold fl_Tally; exact lk0
theorem lk_Tally_name (x0 : Str) (x1 : Str) : (fl_Tally x0 x1).lookup ("name" : Str) = some (.str x1) := by unfold fl_Tally; rw [lk1 (by decide +kernel), lk0]
theorem pf_Tally_name (x0 : Str) (x1 : Str) : putF "name" (.str x1) [("word", .str x0)] = ([("word", .str x0), ("name", .str x1)] : List (Str × V)) := by rw [pf1 (by decide +kernel)]; rfl
def TallyAt (a : Ad) (H : Hp) (p : Addr) (u n : Str) : Prop := ∃ dx, H p = some (.ins a.C_Tally dx (fl_Tally u n))
def spInit (a : Ad) : Sp := fun vs H Q _ => ∃ (p dx : Addr) (u n : Str), vs = [.ref p, .str u, .str n] ∧ H p = some (.ins a.C_Tally dx []) ∧ ∀ H', H' p = some (.ins a.C_Tally dx (fl_Tally u n)) → But p H H' → Q .non H'
theorem sc_Tally__init : FnScope ["self", "word", "name"] ["self", "word", "name"] (defScope s_Tally__init) := ⟨rfl, rfl, rfl, by decide +kernel, rfl, by decide +kernel, by decide +kernel⟩
theorem ok_Tally__init (T : Txt K mg a) : FnOk P w K mg base CX0 1 a.f_Tally__init a.d_Tally__init ["self", "word", "name"] (spInit a) := by
  refine T.F_Tally__init.ok sc_Tally__init (fun vs H Q E h => ?_) (fun cdv A outer s H vs Q E hr h => ?_)
  · obtain ⟨p, dx, u, n, rfl, _⟩ := h
    rfl
  · obtain ⟨p, dx, u, n, rfl, hp, k⟩ := h
    refine ⟨_, (pss_cons (ps_fld (pv 0) (pv 1) rfl)
      (pss_one (ps_fld (pv 0) (pv 2) rfl))), ?_⟩
    refine ⟨_, rfl, _, rfl, p, a.C_Tally, dx, [], rfl, hp, T.c_Tally, T.n_Tally_word, (by show 0 < 1000; decide), _, rfl, _, rfl, p, a.C_Tally, dx, _, rfl, upd_same, T.c_Tally, T.n_Tally_name, (by show 1 < 1000; decide), ?_⟩
    show Q .non (upd (upd H p _) p (.ins a.C_Tally dx (putF "name" (.str n) [("word", .str u)])))
    rw [two_upd, pf_Tally_name]
    exact k _ upd_same But.upd
/-- Tally.counting, Tally.adding -/
def spCls (a : Ad) (u : Str) : Sp := fun vs H Q _ => ∃ (n : Str), vs = [.ref a.C_Tally, .str n] ∧ ∀ x dx H', H x = none → Same H H' → H' x = some (.ins a.C_Tally dx (fl_Tally u n)) → Q (.ref x) H'
theorem sc_Tally_counting : FnScope ["cls", "name"] ["cls", "name"] (defScope s_Tally_counting) := ⟨rfl, rfl, rfl, by decide +kernel, rfl, by decide +kernel, by decide +kernel⟩
theorem ok_Tally_counting (T : Txt K mg a) : FnOk P w K mg base CX0 3 a.f_Tally_counting a.d_Tally_counting ["cls", "name"] (spCls a "count") := by
  refine T.F_Tally_counting.ok sc_Tally_counting (fun vs H Q E h => ?_) (fun cdv A outer s H vs Q E hr h => ?_)
  · obtain ⟨n, rfl, _⟩ := h
    rfl
  · obtain ⟨n, rfl, k⟩ := h
    refine ⟨_, (pss_one (ps_ret (pe_makeL (i := 0) T.mk_Tally (ok_Tally__init T) (hr.mono (by decide)) rfl (.inl rfl) T.a_Tally__init .nil pass0 (pa_cons pe_str (pa_cons (pv 1) pa_nil))))), ?_⟩
    refine ⟨rfl, _, rfl, fun x dx nx nd ne => ?_⟩
    refine ⟨x, dx, _, n, rfl, upd_same, fun H' h' b => ⟨rfl, ?_⟩⟩
    exact k x dx H' nx (made_same nx nd b) h'
theorem sc_Tally_adding : FnScope ["cls", "name"] ["cls", "name"] (defScope s_Tally_adding) := ⟨rfl, rfl, rfl, by decide +kernel, rfl, by decide +kernel, by decide +kernel⟩
theorem ok_Tally_adding (T : Txt K mg a) : FnOk P w K mg base CX0 3 a.f_Tally_adding a.d_Tally_adding ["cls", "name"] (spCls a "sum") := by
  refine T.F_Tally_adding.ok sc_Tally_adding (fun vs H Q E h => ?_) (fun cdv A outer s H vs Q E hr h => ?_)
  · obtain ⟨n, rfl, _⟩ := h
    rfl
  · obtain ⟨n, rfl, k⟩ := h
    refine ⟨_, (pss_one (ps_ret (pe_makeL (i := 0) T.mk_Tally (ok_Tally__init T) (hr.mono (by decide)) rfl (.inl rfl) T.a_Tally__init .nil pass0 (pa_cons pe_str (pa_cons (pv 1) pa_nil))))), ?_⟩
    refine ⟨rfl, _, rfl, fun x dx nx nd ne => ?_⟩
    refine ⟨x, dx, _, n, rfl, upd_same, fun H' h' b => ⟨rfl, ?_⟩⟩
    exact k x dx H' nx (made_same nx nd b) h'

def spEq (K : PySem.W.Frag) (a : Ad) : Sp := fun vs H Q _ => ∃ (p dx : Addr) (u n : Str) (y : V), vs = [.ref p, y] ∧ H p = some (.ins a.C_Tally dx (fl_Tally u n)) ∧
  ((∃ (q dq : Addr) (u' n' : Str), y = .ref q ∧ H q = some (.ins a.C_Tally dq (fl_Tally u' n')) ∧ Q (.bl (decide (V.str u = V.str u') && decide (V.str n = V.str n'))) H) ∨
    ∃ t : String, TyX K H y (.type t) ∧ (fastBuiltinMro t).any noRefs = true ∧ Q (.bl false) H)
theorem sc_Tally__eq : FnScope ["self", "other"] ["self", "other"] (defScope s_Tally__eq) := ⟨rfl, rfl, rfl, by decide +kernel, rfl, by decide +kernel, by decide +kernel⟩
theorem ok_Tally__eq (T : Txt K mg a) : FnOk P w K mg base CX0 1 a.f_Tally__eq a.d_Tally__eq ["self", "other"] (spEq K a) := by
  refine T.F_Tally__eq.ok sc_Tally__eq (fun vs H Q E h => ?_) (fun cdv A outer s H vs Q E hr h => ?_)
  · obtain ⟨p, dx, u, n, y, rfl, _⟩ := h
    rfl
  · obtain ⟨p, dx, u, n, y, rfl, hp, k⟩ := h
    refine ⟨_, (pss_one (ps_ret (pe_and (pe_callB call_isi (by rfl) T.b_isinstance (by decide +kernel) (pa_cons (pv 1) (pa_cons (pe_glob (v := .ref a.C_Tally) rfl T.m_Tally rfl) pa_nil))) (pe_and (pe_cmpR op_eq (pe_fld (pv 0) rfl) (pe_fld (pv 1) rfl) (nomark _)) (pe_one (pe_cmpR op_eq (pe_fld (pv 0) rfl) (pe_fld (pv 1) rfl) (nomark _))))))), ?_⟩
    rcases k with ⟨q, dq, u', n', rfl, hq, k⟩ | ⟨t, ty, ht, k⟩
    · refine ⟨_, rfl, _, _, _, _, true, rfl, .own _, T.ct_Tally.ty hq, kit_own, _, rfl, iteT ?_⟩
      refine ⟨_, rfl, p, a.C_Tally, dx, _, _, rfl, hp, T.c_Tally, T.n_Tally_word, lk_Tally_word _ _, _, rfl, q, a.C_Tally, dq, _, _, rfl, hq, T.c_Tally, T.n_Tally_word, lk_Tally_word _ _, rfl, _, rfl, ?_⟩
      refine ite2 (fun h => ?_) (fun h => ?_)
      · refine ⟨_, rfl, p, a.C_Tally, dx, _, _, rfl, hp, T.c_Tally, T.n_Tally_name, lk_Tally_name _ _, _, rfl, q, a.C_Tally, dq, _, _, rfl, hq, T.c_Tally, T.n_Tally_name, lk_Tally_name _ _, rfl, ?_⟩
        rw [h, Bool.true_and] at k
        exact k
      · rw [Bool.eq_false_iff.mpr h, Bool.false_and] at k
        exact k
    · refine ⟨_, rfl, _, _, _, _, false, rfl, .own _, ty, T.ct_Tally.kitTy ht, _, rfl, iteF ?_⟩
      exact k
def spStr (a : Ad) : Sp := fun vs H Q _ => ∃ (p dx : Addr) (u n : Str), vs = [.ref p] ∧ H p = some (.ins a.C_Tally dx (fl_Tally u n)) ∧ u.length ≤ 1000 ∧ n.length ≤ 1000 ∧ Q (.str (u ++ " " ++ n)) H
theorem sc_Tally__str : FnScope ["self"] ["self"] (defScope s_Tally__str) := ⟨rfl, rfl, rfl, by decide +kernel, rfl, by decide +kernel, by decide +kernel⟩
theorem sz1000 {n : Nat} (h : n ≤ 10000) : n ≤ sizeLine := Nat.le_trans h (by decide)
theorem ok_Tally__str (T : Txt K mg a) : FnOk P w K mg base CX0 1 a.f_Tally__str a.d_Tally__str ["self"] (spStr a) := by
  refine T.F_Tally__str.ok sc_Tally__str (fun vs H Q E h => ?_) (fun cdv A outer s H vs Q E hr h => ?_)
  · obtain ⟨p, dx, u, n, rfl, _⟩ := h
    rfl
  · obtain ⟨p, dx, u, n, rfl, hp, hu, hn, k⟩ := h
    have hs : (Str.ofString " ").length = 1 := by decide +kernel
    refine ⟨_, (pss_one (ps_ret (pe_joined (PJ.cons (pe_fmt (pe_fld (pv 0) rfl)) (PJ.cons pe_str (PJ.cons (pe_fmt (pe_fld (pv 0) rfl)) PJ.nil)))))), ?_⟩
    refine ⟨_, rfl, p, a.C_Tally, dx, _, _, rfl, hp, T.c_Tally, T.n_Tally_word, lk_Tally_word _ _, .inl ⟨_, rfl, sz1000 (by omega), _, rfl, ?_, ?_⟩⟩
    · rw [Str.empty_append]; exact sz1000 (by omega)
    · refine ⟨_, rfl, ?_, ?_⟩
      · rw [Str.empty_append, Str.length_append, hs]; exact sz1000 (by omega)
      · refine ⟨_, rfl, p, a.C_Tally, dx, _, _, rfl, hp, T.c_Tally, T.n_Tally_name, lk_Tally_name _ _, .inl ⟨_, rfl, sz1000 (by omega), _, rfl, ?_, ?_⟩⟩
        · rw [Str.empty_append, Str.length_append, Str.length_append, hs]; exact sz1000 (by omega)
        · show Q (.str (Str.empty ++ u ++ " " ++ n)) H
          rw [Str.empty_append]
          exact k

end
end Toy

set_option Elab.async false
set_option linter.all false
set_option maxRecDepth 100000
set_option maxHeartbeats 4000000
namespace Toy
open PySem L2 Lf
section
variable {P : Program} {w : World} {K : PySem.W.Frag} {mg : Str → Option Value} {base : Heap} {a : Ad}

def letters : Str := "abcdefghijklmnopqrstuvwxyz"
theorem letters_len : letters.length = 26 := by decide +kernel
theorem letters_size : letters.cps.size = 26 := by decide +kernel
theorem letters_at (j : Nat) (h : j < 26) : ∃ c, letters.cps.toList[j]? = some c := by
  have e : letters.cps.toList.length = 26 := by decide +kernel
  exact ⟨_, List.getElem?_eq_getElem (by omega)⟩
/-- a word, here with nothing taken: a text of at most eight signs -/
def spWord (K : PySem.W.Frag) : Sp := fun vs H Q _ => ∃ (b l : Addr) (n : Nat), vs = [.ref b, .ref l] ∧ BagAt H b n ∧ n < 2 ^ 29 ∧ H l = some (.lst []) ∧ l ≠ b ∧
  ∀ (u : Str) (H' : Hp), u.length ≤ 8 → BagAt H' b (n + 9) → But b H H' → Q (.str u) H'
theorem BagAt.mono {H : Hp} {b : Addr} {m n : Nat} (h : BagAt H b m) (e : m ≤ n) : BagAt H b n := by
  obtain ⟨d, x, c, h1, h2, h3, h4, h5, h6⟩ := h
  exact ⟨d, x, c, h1, h2, h3, h4, h5, by omega⟩
theorem BagAt.keep {H H' : Hp} {b : Addr} {n : Nat} (h : BagAt H b n) (s : Same H H') : BagAt H' b n := by
  obtain ⟨d, x, c, h1, h2⟩ := h
  exact ⟨d, x, c, s _ _ h1, h2⟩
theorem BagAt.new {H : Hp} {b p : Addr} {o : HO} {n : Nat} (h : BagAt H b n) (e : H p = none) : BagAt (upd H p o) b n := h.keep (Same.new e)
theorem BagAt.ne {H : Hp} {b p : Addr} {n : Nat} (h : BagAt H b n) (e : H p = none) : p ≠ b := by
  obtain ⟨d, x, c, h1, _⟩ := h
  exact (ne_of_none h1 e).symm
theorem sc_l_word : FnScope ["_law_bag_here", "_law_taken", "_law_letters", "_law_many", "_law_word_here", "_law_turn", "_law_free", "_law_one"] ["_law_bag_here", "_law_taken"] (defScope s_l_word) := ⟨rfl, rfl, rfl, by decide +kernel, rfl, by decide +kernel, by decide +kernel⟩
theorem ok_l_word (T : Txt K mg a) : FnOk P w K mg base CX0 3 a.f_l_word a.d_l_word ["_law_bag_here", "_law_taken"] (spWord K) := by
  refine T.F_l_word.ok sc_l_word (fun vs H Q E h => ?_) (fun cdv A outer s H vs Q E hr h => ?_)
  · obtain ⟨b, l, n, rfl, _⟩ := h
    rfl
  · obtain ⟨b, l, n, rfl, hb, hn, hl, hne, k⟩ := h
    refine ⟨_, (pss_cons (ps_set (i := 2) sc_l_word.nd rfl (.inl rfl) pe_str)
      (pss_cons (ps_par (i := 3) (j := 4) (by rfl) sc_l_word.nd rfl rfl (by decide) rfl rfl (pa_cons (pe_call (ok_l_of T) (hr.mono (by decide)) rfl T.m_l_of T.k_l_of T.a_l_of .nil pass0 (pa_cons (pv 0) (pa_cons (pe_lstS (pa_cons pe_int (pa_cons pe_int (pa_cons pe_int (pa_cons pe_int (pa_cons pe_int (pa_cons pe_int (pa_cons pe_int (pa_cons pe_int (pa_cons pe_int pa_nil)))))))))) pa_nil))) (pa_cons pe_str pa_nil)) (by rfl))
      (pss_cons (ps_for PassesOwn.never rfl (pi_range1 (by rfl) T.b_range (pa_cons (pv 3) pa_nil)) (pg_name (i := 5) sc_l_word.nd rfl (.inl rfl))
      (pss_one (ps_set (i := 4) sc_l_word.nd rfl (.inl rfl) (pe_op op_add_str (pv 4) (pe_ix ix_str (pv 2) (pe_call (ok_l_draw T) (hr.mono (by decide)) rfl T.m_l_draw T.k_l_draw T.a_l_draw .nil pass0 (pa_cons (pv 0) (pa_cons pe_int pa_nil))) (fun _ _ => rfl))))))
      (pss_cons (ps_setLc (i := 6) (own := [("_law_one", 7)]) (g := gName 7) (tt := (tTest (tOp (rIn K true) (tVar 7) (tVar 1)))) (te := (tVar 7)) rfl sc_l_word.nd rfl rfl (sw_true rfl rfl rfl (by decide +kernel)) (pi_str (pv 2)) (blkOk_by (own := [("_law_one", 7)]) (N := ["_law_bag_here", "_law_taken", "_law_letters", "_law_many", "_law_word_here", "_law_turn", "_law_free", "_law_one"]) (sc := defScope s_l_word) (by decide +kernel)) (fun _ _ _ _ _ => (pg_name (i := 7) sc_l_word.nd rfl (.inl rfl))) (fun _ _ _ _ _ => (pts_one (pt_cmpR op_notIn_seq (pv 7) (pv 1) rfl))) (fun _ _ _ _ _ => (pv 7)))
      (pss_one (ps_ret (pe_ifExp (pt_cmpR op_in_seq (pv 4) (pe_op op_catS (pv 1) (pe_lstS (pa_cons pe_str pa_nil))) rfl) (pe_ix ix_list (pv 6) pe_int (fun _ _ => rfl)) (pv 4)))))))), ?_⟩
    refine ⟨_, rfl, (by show 9 ≤ sizeLine; decide), fun p H0 hp sm0 hp0 => ?_⟩
    refine ⟨b, p, n, _, rfl, hb.keep sm0, by omega, SqL.of hp0, hb.ne hp, by simp, by show 9 < _; decide, fun x H1 hx hb1 bt1 => ?_⟩
    obtain ⟨j, rfl, j8⟩ : ∃ j : Nat, x = .int j ∧ j ≤ 8 := by
      simp only [List.mem_cons, List.not_mem_nil, or_false] at hx
      rcases hx with rfl | rfl | rfl | rfl | rfl | rfl | rfl | rfl | rfl
      · exact ⟨1, rfl, by decide⟩
      · exact ⟨1, rfl, by decide⟩
      · exact ⟨2, rfl, by decide⟩
      · exact ⟨3, rfl, by decide⟩
      · exact ⟨4, rfl, by decide⟩
      · exact ⟨5, rfl, by decide⟩
      · exact ⟨6, rfl, by decide⟩
      · exact ⟨7, rfl, by decide⟩
      · exact ⟨8, rfl, by decide⟩
    have bt : But b H H1 := (But.of sm0).trans bt1
    refine ⟨_, _, rfl, ?_⟩
    -- for turn in range(many)
    refine ⟨_, rfl, _, rfl, by omega, by omega, for_range (n := j) (fun i σ H' => ∃ (u : Str) (tv : Option V), σ = [some (.ref b), some (.ref l), some (.str letters), some (.int j), some (.str u), tv, none, none] ∧ u.length = i ∧ BagAt H' b (n + 1 + i) ∧ But b H H')
      ⟨"", none, rfl, rfl, hb1, bt⟩ ?_ ?_⟩
    · rintro i σ H' hi ⟨u, tv, rfl, hu, hb', bt'⟩
      refine ⟨_, rfl, _, rfl, _, rfl, b, n + 1 + i, 26, rfl, hb', by omega, by decide, by decide, fun r H2 r0 r1 hb2 bt2 => ?_⟩
      obtain ⟨m, rfl⟩ : ∃ m : Nat, r = m := ⟨r.toNat, by omega⟩
      obtain ⟨c, hc⟩ := letters_at m (by omega)
      refine ⟨letters, m, c, rfl, rfl, by rw [letters_len]; decide, atI_nat hc, _, _, rfl, rfl, ?_, ?_⟩
      · show u.length + 1 ≤ sizeLine
        exact Nat.le_trans (show u.length + 1 ≤ 10 by omega) (by decide)
      · refine ⟨_, _, rfl, ?_, hb2, bt'.trans bt2⟩
        rw [Str.length_append, hu]
        rfl
    · rintro σ H' ⟨u, tv, rfl, hu, hb', bt'⟩
      -- free = [one for one in letters if one not in taken]
      have hl' : H' l = some (.lst []) := bt' _ _ hl hne
      refine ⟨_, rfl, _, rfl, fun D hD => ?_⟩
      have nl : l ≠ D := ne_of_none hl' hD
      refine lc_it (walk_str (z := letters)) (fun i H2 => ∃ acc : List V, H2 D = some (.lst acc) ∧ acc.length = i ∧ (∀ v ∈ acc, ∃ c : Nat, v = .str ⟨#[c]⟩) ∧ (∀ q o, H' q = some o → q ≠ D → H2 q = some o))
        ⟨[], upd_same, rfl, fun v hv => (by cases hv), fun q o e hq => by rw [upd_ne hq]; exact e⟩ (fun _ _ _ _ => True.intro) ?_ ?_
      · rintro i x H2 H3 hi ⟨acc, hacc, hlen, hall, hk⟩ ⟨rfl, c, hc, rfl⟩
        refine ⟨rfl, _, rfl, _, rfl, l, [], rfl, .inl (SqL.of (hk _ _ hl' nl)), rfl, rfl, _, rfl, ?_⟩
        refine iteT ⟨_, rfl, acc, hacc, ?_, acc ++ [.str ⟨#[c]⟩], upd_same, by rw [List.length_append, hlen]; rfl, ?_, fun q o e hq => by rw [upd_ne hq]; exact hk q o e hq⟩
        · rw [letters_size] at hi
          exact Nat.lt_of_lt_of_le (show acc.length < 30 by omega) (by decide)
        · intro v hv
          rcases List.mem_append.mp hv with hv | hv
          · exact hall v hv
          · exact ⟨c, by simpa using hv⟩
      · rintro H2 ⟨acc, hacc, hlen, hall, hk⟩
        rw [letters_size] at hlen
        have hl2 : H2 l = some (.lst []) := hk _ _ hl' nl
        have bt2 : But b H' H2 := fun q o e hq => by
          exact hk q o e (ne_of_none e hD)
        have hb2 : BagAt H2 b (n + 9) := by
          have := hb'.mono (show n + 1 + j ≤ n + 9 by omega)
          exact this.keep fun q o e => hk q o e (ne_of_none e hD)
        -- word in taken + ['self']
        refine ⟨_, rfl, _, rfl, (by show 1 ≤ sizeLine; decide), fun q H3 hq sm3 hq3 => ?_⟩
        refine ⟨l, q, _, _, rfl, rfl, sm3 _ _ hl2, hq3, (by show 0 + 1 ≤ sizeLine; decide), fun r H4 hr2 sm4 hr4 => ?_⟩
        have sm : Same H2 H4 := sm3.trans sm4
        refine ⟨r, _, rfl, .inl (SqL.of hr4), rfl, rfl, _, rfl, ?_⟩
        refine ite2 (fun _ => ?_) (fun _ => ?_)
        · obtain ⟨v0, vs0, rfl⟩ : ∃ v0 vs0, acc = v0 :: vs0 := by
            cases acc with
            | nil => cases hlen
            | cons v0 vs0 => exact ⟨v0, vs0, rfl⟩
          obtain ⟨c, rfl⟩ := hall v0 (List.mem_cons_self ..)
          refine ⟨_, rfl, D, _, _, _, rfl, rfl, SqL.of (sm _ _ hacc), atI_nat (j := 0) rfl, ?_⟩
          exact k _ _ (by show 1 ≤ 8; decide) (hb2.keep sm) ((bt'.trans bt2).trans (But.of sm))
        · refine ⟨_, rfl, ?_⟩
          exact k _ _ (by omega) (hb2.keep sm) ((bt'.trans bt2).trans (But.of sm))

end
end Toy

set_option Elab.async false
set_option linter.all false
set_option maxRecDepth 100000
set_option maxHeartbeats 4000000
namespace Toy
open PySem L2 Lf
section
variable {P : Program} {w : World} {K : PySem.W.Frag} {mg : Str → Option Value} {base : Heap} {a : Ad}

theorem join_len {y : Str} (hy : y.length = 1) : ∀ ps : List Str, (∀ p ∈ ps, p.length ≤ 8) → (Str.join y ps).length ≤ 9 * ps.length
  | [], _ => Nat.zero_le _
  | [x], h => by
    have := h x (List.mem_cons_self ..)
    show x.length ≤ 9 * 1
    omega
  | x :: z :: r, h => by
    have h1 := h x (List.mem_cons_self ..)
    have h2 := join_len hy (z :: r) fun p hp => h p (List.mem_cons_of_mem _ hp)
    show (x ++ y ++ Str.join y (z :: r)).length ≤ _
    rw [Str.length_append, Str.length_append]
    rw [List.length_cons] at h2 ⊢
    rw [List.length_cons]
    omega
theorem join_sum : ∀ ps : List Str, (∀ p ∈ ps, p.length ≤ 8) → (ps.map (·.length)).sum ≤ 8 * ps.length
  | [], _ => Nat.zero_le _
  | x :: r, h => by
    have h1 := h x (List.mem_cons_self ..)
    have h2 := join_sum r fun p hp => h p (List.mem_cons_of_mem _ hp)
    rw [List.map_cons, List.sum_cons, List.length_cons]
    omega
def spName : Sp := fun vs H Q _ => ∃ (b : Addr) (n : Nat), vs = [.ref b] ∧ BagAt H b n ∧ n < 2 ^ 28 ∧ ∀ (u : Str) (H' : Hp), u.length ≤ 27 → BagAt H' b (n + 28) → But b H H' → Q (.str u) H'
theorem sc_l_name : FnScope ["_law_bag_here", "_law_turn"] ["_law_bag_here"] (defScope s_l_name) := ⟨rfl, rfl, rfl, by decide +kernel, rfl, by decide +kernel, by decide +kernel⟩
theorem ok_l_name (T : Txt K mg a) : FnOk P w K mg base CX0 4 a.f_l_name a.d_l_name ["_law_bag_here"] spName := by
  refine T.F_l_name.ok sc_l_name (fun vs H Q E h => ?_) (fun cdv A outer s H vs Q E hr h => ?_)
  · obtain ⟨b, n, rfl, _⟩ := h
    rfl
  · obtain ⟨b, n, rfl, hb, hn, k⟩ := h
    refine ⟨_, (pss_one (ps_ret (pe_join pe_str (pe_lc (own := [("_law_turn", 1)]) (g := gName 1) (tt := tYes) (te := (tCall (spWord K) [] E0 (tCons (tVar 0) (tCons (tLstS tNil) tNil)))) rfl sc_l_name.nd (pi_range1 (by rfl) T.b_range (pa_cons (pe_op op_add pe_int (pe_call (ok_l_draw T) (hr.mono (by decide)) rfl T.m_l_draw T.k_l_draw T.a_l_draw .nil pass0 (pa_cons (pv 0) (pa_cons pe_int pa_nil)))) pa_nil)) (blkOk_by (own := [("_law_turn", 1)]) (N := ["_law_bag_here", "_law_turn"]) (sc := defScope s_l_name) (by decide +kernel)) (fun _ _ _ _ _ => (pg_name (i := 1) sc_l_name.nd rfl (.inl rfl))) (fun _ _ _ _ _ => pts_nil) (fun _ _ _ _ _ => (pe_call (ok_l_word T) (hr.mono (by decide)) rfl T.m_l_word T.k_l_word T.a_l_word .nil pass0 (pa_cons (pv 0) (pa_cons (pe_lstS pa_nil) pa_nil)))))))), ?_⟩
    refine ⟨⟨_, rfl⟩, _, rfl, b, n, 3, rfl, hb, by omega, by decide, by decide, fun r H1 r0 r1 hb1 bt1 => ?_⟩
    refine ⟨_, _, rfl, rfl, _, rfl, by omega, by omega, fun D hD => ?_⟩
    have nD : D ≠ b := hb1.ne hD
    refine lc_range (lo := 0) (fun i H2 => ∃ ys : List Str, H2 D = some (.lst (ys.map V.str)) ∧ ys.length = i ∧ (∀ y ∈ ys, y.length ≤ 8) ∧ BagAt H2 b (n + 1 + 9 * i) ∧ ∀ q o, H1 q = some o → q ≠ b → H2 q = some o)
      ⟨[], upd_same, rfl, fun y hy => (by cases hy), hb1.new hD, fun q o e hq => by rw [upd_ne (ne_of_none e hD)]; exact e⟩ ?_ ?_
    · rintro i H2 hi ⟨ys, hD2, hlen, hall, hb2, hk⟩
      have i3 : i < 3 := by omega
      refine ⟨rfl, _, rfl, (by show 0 ≤ sizeLine; decide), fun l H3 hl sm3 hl3 => ?_⟩
      refine ⟨b, l, n + 1 + 9 * i, rfl, hb2.keep sm3, by omega, hl3, hb2.ne hl, fun u H4 hu hb4 bt4 => ?_⟩
      refine ⟨_, bt4 _ _ (sm3 _ _ hD2) nD, ?_, ys ++ [u], ?_, by rw [List.length_append, hlen]; rfl, ?_, ?_, fun q o e hq => ?_⟩
      · rw [List.length_map]
        exact Nat.lt_of_lt_of_le (show ys.length < 3 by omega) (by decide)
      · rw [upd_same, List.map_append]
        rfl
      · intro y hy
        rcases List.mem_append.mp hy with hy | hy
        · exact hall y hy
        · rw [List.mem_singleton.mp hy]
          exact hu
      · obtain ⟨d, m, c, z1, z2⟩ := hb4
        exact ⟨d, m, c, by rw [upd_ne nD.symm]; exact z1, z2⟩
      · rw [upd_ne (ne_of_none e hD)]
        exact bt4 q o (sm3 q o (hk q o e hq)) hq
    · rintro H2 ⟨ys, hD2, hlen, hall, hb2, hk⟩
      have e1 : (Str.ofString "_").length = 1 := by decide +kernel
      have l3 : ys.length ≤ 3 := by omega
      have q1 := join_sum ys hall
      refine ⟨_, D, ys, rfl, rfl, .inl (SqL.of hD2), ?_, ?_⟩
      · rw [e1]; omega
      · refine k _ H2 ?_ (hb2.mono (by omega)) (bt1.trans hk)
        rw [TL.join_eq]
        have := join_len e1 ys hall
        omega
/-- (tally, word, name) -/
def Trip (a : Ad) (H : Hp) (v : V) (u n : Str) : Prop := ∃ q t dx : Addr, v = .ref q ∧ H q = some (.tup [.ref t, .str u, .str n]) ∧ H t = some (.ins a.C_Tally dx (fl_Tally u n)) ∧ u.length ≤ 10 ∧ n.length ≤ 100
theorem Trip.keep {H H' : Hp} {v : V} {u n : Str} (h : Trip a H v u n) (s : Same H H') : Trip a H' v u n := by
  obtain ⟨q, t, dx, e, h1, h2, h3⟩ := h
  exact ⟨q, t, dx, e, s _ _ h1, s _ _ h2, h3⟩
def spRight : Sp := fun vs H Q _ => ∃ (b : Addr) (n : Nat), vs = [.ref b] ∧ BagAt H b n ∧ n < 2 ^ 27 ∧ ∀ (H' : Hp), BagAt H' b (n + 57) → But b H H' → Q (.bl true) H'
theorem sc_l_right : FnScope ["_law_bag_here", "_law_one", "_law_other", "_law_made", "_law_tally", "_law_word_here", "_law_name_here", "_law_rival", "_law_label", "_law_title"] ["_law_bag_here"] (defScope s_l_right) := ⟨rfl, rfl, rfl, by decide +kernel, rfl, by decide +kernel, by decide +kernel⟩
theorem ok_l_right (T : Txt K mg a) : FnOk P w K mg base CX0 6 a.f_l_right a.d_l_right ["_law_bag_here"] spRight := by
  refine T.F_l_right.ok sc_l_right (fun vs H Q E h => ?_) (fun cdv A outer s H vs Q E hr h => ?_)
  · obtain ⟨b, n, rfl, _⟩ := h
    rfl
  · obtain ⟨b, n, rfl, hb, hn, k⟩ := h
    refine ⟨_, (pss_cons (ps_set (i := 1) sc_l_right.nd rfl (.inl rfl) (pe_call (ok_l_name T) (hr.mono (by decide)) rfl T.m_l_name T.k_l_name T.a_l_name .nil pass0 (pa_cons (pv 0) pa_nil)))
      (pss_cons (ps_set (i := 2) sc_l_right.nd rfl (.inl rfl) (pe_ifExp (pt_cmpR op_eq (pe_call (ok_l_draw T) (hr.mono (by decide)) rfl T.m_l_draw T.k_l_draw T.a_l_draw .nil pass0 (pa_cons (pv 0) (pa_cons pe_int pa_nil))) pe_int (nomark _)) (pv 1) (pe_call (ok_l_name T) (hr.mono (by decide)) rfl T.m_l_name T.k_l_name T.a_l_name .nil pass0 (pa_cons (pv 0) pa_nil))))
      (pss_cons (ps_set (i := 3) sc_l_right.nd rfl (.inl rfl) (pe_lstS (pa_cons (pe_tupS (pa_cons (pe_make T.mk_Tally (ok_Tally__init T) (hr.mono (by decide)) rfl T.m_Tally T.a_Tally__init .nil pass0 (pa_cons pe_str (pa_cons (pv 1) pa_nil))) (pa_cons pe_str (pa_cons (pv 1) pa_nil)))) (pa_cons (pe_tupS (pa_cons (pe_make T.mk_Tally (ok_Tally__init T) (hr.mono (by decide)) rfl T.m_Tally T.a_Tally__init .nil pass0 (pa_cons pe_str (pa_cons (pv 1) pa_nil))) (pa_cons pe_str (pa_cons (pv 1) pa_nil)))) pa_nil))))
      (pss_cons (ps_set (i := 3) sc_l_right.nd rfl (.inl rfl) (pe_op op_catS (pv 3) (pe_lstS (pa_cons (pe_tupS (pa_cons (ClX.pe_cmeth (pe_glob (v := .ref a.C_Tally) rfl T.m_Tally rfl) T.r_Tally T.cm_Tally_counting ((ok_Tally_counting T).raw T.a_Tally_counting .nil) (hr.mono (by decide)) pass0 (pa_cons (pv 1) pa_nil)) (pa_cons pe_str (pa_cons (pv 1) pa_nil)))) (pa_cons (pe_tupS (pa_cons (ClX.pe_cmeth (pe_glob (v := .ref a.C_Tally) rfl T.m_Tally rfl) T.r_Tally T.cm_Tally_adding ((ok_Tally_adding T).raw T.a_Tally_adding .nil) (hr.mono (by decide)) pass0 (pa_cons (pv 1) pa_nil)) (pa_cons pe_str (pa_cons (pv 1) pa_nil)))) pa_nil)))))
      (pss_cons (ps_set (i := 3) sc_l_right.nd rfl (.inl rfl) (pe_op op_catS (pv 3) (pe_lstS (pa_cons (pe_tupS (pa_cons (ClX.pe_cmeth (pe_glob (v := .ref a.C_Tally) rfl T.m_Tally rfl) T.r_Tally T.cm_Tally_counting ((ok_Tally_counting T).raw T.a_Tally_counting .nil) (hr.mono (by decide)) pass0 (pa_cons (pv 2) pa_nil)) (pa_cons pe_str (pa_cons (pv 2) pa_nil)))) (pa_cons (pe_tupS (pa_cons (pe_make T.mk_Tally (ok_Tally__init T) (hr.mono (by decide)) rfl T.m_Tally T.a_Tally__init .nil pass0 (pa_cons pe_str (pa_cons (pv 2) pa_nil))) (pa_cons pe_str (pa_cons (pv 2) pa_nil)))) pa_nil)))))
      (pss_cons (ps_for PassesOwn.never rfl (pi_list (pv 3)) (pg_tup rfl (pgs_cons (pg_name (i := 4) sc_l_right.nd rfl (.inl rfl)) (pgs_cons (pg_name (i := 5) sc_l_right.nd rfl (.inl rfl)) (pgs_cons (pg_name (i := 6) sc_l_right.nd rfl (.inl rfl)) pgs_nil))))
      (pss_cons (ps_if (PW.pt (pw_or (pt_cmpR op_ne (pe_fld (pv 4) rfl) (pv 5) (nomark _)) (pw_or (pt_cmpR op_ne (pe_fld (pv 4) rfl) (pv 6) (nomark _)) (pw_or1 (pt_cmpR op_ne (pe_callTy (call_strOwn (C := a.C_Tally) T.f_Tally__str T.i_Tally__str ((ok_Tally__str T).raw T.a_Tally__str .nil) (hr.mono (by decide)) pass0) (by rfl) T.b_str (by decide +kernel) (pa_cons (pv 4) pa_nil)) (pe_op op_add_str (pe_op op_add_str (pv 5) pe_str) (pv 6)) (nomark _)))))) (pss_one (ps_ret pe_bl)) pss_nil)
      (pss_cons (ps_if (PW.pt (pw_or (pt_cmpR (op_ownEq (C := a.C_Tally) T.f_Tally__eq T.i_Tally__eq ((ok_Tally__eq T).raw T.a_Tally__eq .nil) (hr.mono (by decide)) pass0) (pv 4) (pe_callTy (call_strOwn (C := a.C_Tally) T.f_Tally__str T.i_Tally__str ((ok_Tally__str T).raw T.a_Tally__str .nil) (hr.mono (by decide)) pass0) (by rfl) T.b_str (by decide +kernel) (pa_cons (pv 4) pa_nil)) (nomark _)) (pw_or (pt_cmpR (op_ownEq (C := a.C_Tally) T.f_Tally__eq T.i_Tally__eq ((ok_Tally__eq T).raw T.a_Tally__eq .nil) (hr.mono (by decide)) pass0) (pv 4) (pe_tupS (pa_cons (pv 5) (pa_cons (pv 6) pa_nil))) (nomark _)) (pw_or1 (pt_cmpR (op_ownEq (C := a.C_Tally) T.f_Tally__eq T.i_Tally__eq ((ok_Tally__eq T).raw T.a_Tally__eq .nil) (hr.mono (by decide)) pass0) (pv 4) (pv 6) (nomark _)))))) (pss_one (ps_ret pe_bl)) pss_nil)
      (pss_one (ps_for PassesOwn.never rfl (pi_list (pv 3)) (pg_tup rfl (pgs_cons (pg_name (i := 7) sc_l_right.nd rfl (.inl rfl)) (pgs_cons (pg_name (i := 8) sc_l_right.nd rfl (.inl rfl)) (pgs_cons (pg_name (i := 9) sc_l_right.nd rfl (.inl rfl)) pgs_nil))))
      (pss_cons (ps_if (pt_cmpR op_ne (pe_cmpR (op_ownEq (C := a.C_Tally) T.f_Tally__eq T.i_Tally__eq ((ok_Tally__eq T).raw T.a_Tally__eq .nil) (hr.mono (by decide)) pass0) (pv 4) (pv 7) (nomark _)) (pe_and (pe_cmpR op_eq (pv 5) (pv 8) (nomark _)) (pe_one (pe_cmpR op_eq (pv 6) (pv 9) (nomark _)))) (nomark _)) (pss_one (ps_ret pe_bl)) pss_nil)
      (pss_one (ps_if (pt_cmpR op_ne (pe_cmpR (op_ownNe (C := a.C_Tally) T.o_Tally T.ne_Tally T.f_Tally__eq T.i_Tally__eq ((ok_Tally__eq T).raw T.a_Tally__eq .nil) (hr.mono (by decide)) pass0) (pv 4) (pv 7) (nomark _)) (pe_or (pe_cmpR op_ne (pv 5) (pv 8) (nomark _)) (pe_one (pe_cmpR op_ne (pv 6) (pv 9) (nomark _)))) (nomark _)) (pss_one (ps_ret pe_bl)) pss_nil))))))))
      (pss_one (ps_ret pe_bl)))))))), ?_⟩
    refine ⟨_, rfl, b, n, rfl, hb, by omega, fun u H1 hu hb1 bt1 => ?_⟩
    have cut : ∀ Q : VK, (∀ v H2, v.length ≤ 27 → BagAt H2 b (n + 57) → But b H1 H2 → Q (.str v) H2) →
        (tIf (tTest (tOp rEq (tCall spDraw [] E0 (tCons (tVar 0) (tCons (tC (.int 2)) tNil))) (tC (.int 0)))) (tVar 1) (tCall spName [] E0 (tCons (tVar 0) tNil))) [some (.ref b), some (.str u), none, none, none, none, none, none, none, none] H1 Q := by
      intro Q hQ
      refine ⟨_, rfl, b, _, 2, rfl, hb1, by omega, by decide, by decide, fun r H2 r0 r1 hb2 bt2 => ?_⟩
      refine ⟨rfl, _, rfl, ?_⟩
      refine ite2 (fun _ => ?_) (fun _ => ?_)
      · exact ⟨_, rfl, hQ u H2 hu (hb2.mono (by omega)) bt2⟩
      · refine ⟨_, rfl, b, _, rfl, hb2, by omega, fun v H3 hv hb3 bt3 => ?_⟩
        exact hQ v H3 hv (hb3.mono (by omega)) (bt2.trans bt3)
    refine cut _ fun v H2 hv hb2 bt2 => ?_
    have bt : But b H H2 := bt1.trans bt2
    have c1 : (Str.ofString "count").length = 5 := by decide +kernel
    have c2 : (Str.ofString "sum").length = 3 := by decide +kernel
    -- made = [(Tally('count', one), 'count', one), (Tally('sum', one), 'sum', one)]
    refine ⟨_, rfl, fun x1 d1 nx1 nd1 _ => ⟨x1, d1, _, u, rfl, upd_same, fun H3 h3 b3 => ⟨rfl, ?_⟩⟩⟩
    have s3 := made_same nx1 nd1 b3
    refine ⟨_, rfl, (by show 3 ≤ sizeLine; decide), fun q1 H4 nq1 s4 h4 => ?_⟩
    have t1 : Trip a H4 (.ref q1) "count" u := ⟨q1, x1, d1, rfl, h4, s4 _ _ h3, by omega, by omega⟩
    refine ⟨_, rfl, fun x2 d2 nx2 nd2 _ => ⟨x2, d2, _, u, rfl, upd_same, fun H5 h5 b5 => ⟨rfl, ?_⟩⟩⟩
    have s5 := made_same nx2 nd2 b5
    refine ⟨_, rfl, (by show 3 ≤ sizeLine; decide), fun q2 H6 nq2 s6 h6 => ?_⟩
    have t2 : Trip a H6 (.ref q2) "sum" u := ⟨q2, x2, d2, rfl, h6, s6 _ _ h5, by omega, by omega⟩
    refine ⟨(by show 2 ≤ sizeLine; decide), fun l1 H7 nl1 s7 h7 => ?_⟩
    -- made = made + [(Tally.counting(one), ..), (Tally.adding(one), ..)]
    refine ⟨_, rfl, rfl, _, rfl, u, rfl, fun x3 d3 H8 nx3 s8 h8 => ?_⟩
    refine ⟨_, rfl, (by show 3 ≤ sizeLine; decide), fun q3 H9 nq3 s9 h9 => ?_⟩
    have t3 : Trip a H9 (.ref q3) "count" u := ⟨q3, x3, d3, rfl, h9, s9 _ _ h8, by omega, by omega⟩
    refine ⟨rfl, _, rfl, u, rfl, fun x4 d4 H10 nx4 s10 h10 => ?_⟩
    refine ⟨_, rfl, (by show 3 ≤ sizeLine; decide), fun q4 H11 nq4 s11 h11 => ?_⟩
    have t4 : Trip a H11 (.ref q4) "sum" u := ⟨q4, x4, d4, rfl, h11, s11 _ _ h10, by omega, by omega⟩
    refine ⟨(by show 2 ≤ sizeLine; decide), fun l2 H12 nl2 s12 h12 => ?_⟩
    refine ⟨l1, l2, _, _, rfl, rfl, s12 _ _ (s11 _ _ (s10 _ _ (s9 _ _ (s8 _ _ h7)))), h12, (by show 2 + 2 ≤ sizeLine; decide), fun l3 H13 nl3 s13 h13 => ?_⟩
    -- made = made + [(Tally.counting(other), ..), (Tally('sum', other), ..)]
    refine ⟨_, rfl, rfl, _, rfl, v, rfl, fun x5 d5 H14 nx5 s14 h14 => ?_⟩
    refine ⟨_, rfl, (by show 3 ≤ sizeLine; decide), fun q5 H15 nq5 s15 h15 => ?_⟩
    have t5 : Trip a H15 (.ref q5) "count" v := ⟨q5, x5, d5, rfl, h15, s15 _ _ h14, by omega, by omega⟩
    refine ⟨_, rfl, fun x6 d6 nx6 nd6 _ => ⟨x6, d6, _, v, rfl, upd_same, fun H16 h16 b16 => ⟨rfl, ?_⟩⟩⟩
    have s16 := made_same nx6 nd6 b16
    refine ⟨_, rfl, (by show 3 ≤ sizeLine; decide), fun q6 H17 nq6 s17 h17 => ?_⟩
    have t6 : Trip a H17 (.ref q6) "sum" v := ⟨q6, x6, d6, rfl, h17, s17 _ _ h16, by omega, by omega⟩
    refine ⟨(by show 2 ≤ sizeLine; decide), fun l4 H18 nl4 s18 h18 => ?_⟩
    refine ⟨l3, l4, _, _, rfl, rfl, s18 _ _ (s17 _ _ (s16 _ _ (s15 _ _ (s14 _ _ h13)))), h18, (by show 4 + 2 ≤ sizeLine; decide), fun l5 H19 nl5 s19 h19 => ?_⟩
    have z18 := s18.trans s19
    have z16 := (s16.trans s17).trans z18
    have z12 := ((s12.trans s13).trans (s14.trans s15)).trans z16
    have z10 := (s10.trans s11).trans z12
    have z5 := ((s5.trans s6).trans (s7.trans s8)).trans (s9.trans z10)
    have z2 := (s3.trans s4).trans z5
    have all : ∀ x ∈ ([.ref q1, .ref q2] ++ [.ref q3, .ref q4] ++ [.ref q5, .ref q6] : List V), ∃ u n, Trip a H19 x u n := by
      intro x hx
      simp only [List.mem_append, List.mem_cons, List.not_mem_nil, or_false] at hx
      rcases hx with ((rfl | rfl) | rfl | rfl) | rfl | rfl
      · exact ⟨_, _, t1.keep z5⟩
      · exact ⟨_, _, t2.keep (((s7.trans s8).trans s9).trans z10)⟩
      · exact ⟨_, _, t3.keep z10⟩
      · exact ⟨_, _, t4.keep z12⟩
      · exact ⟨_, _, t5.keep z16⟩
      · exact ⟨_, _, t6.keep z18⟩
    generalize ([.ref q1, .ref q2] ++ [.ref q3, .ref q4] ++ [.ref q5, .ref q6] : List V) = made at h19 all
    have btF : But b H H19 := bt.trans (But.of z2)
    have hbF : BagAt H19 b (n + 57) := hb2.keep z2
    -- for tally, word, name in made
    refine ⟨_, rfl, l5, rfl, ⟨_, SqL.of h19⟩, for_list (K := K) (a := l5) (xs := made) (fun i σ H' => ∃ (v4 v5 v6 v7 v8 v9 : Option V), σ = [some (.ref b), some (.str u), some (.str v), some (.ref l5), v4, v5, v6, v7, v8, v9] ∧ Same H19 H')
      ⟨_, _, _, _, _, _, rfl, Same.refl _⟩ (fun i σ H' _ ⟨_, _, _, _, _, _, _, z⟩ => SqL.of (z _ _ h19)) ?_ ?_⟩
    · rintro i x σ Hi hi ⟨v4, v5, v6, v7, v8, v9, rfl, sI⟩
      obtain ⟨wd, nm, Ht⟩ := all x (List.mem_of_getElem? hi)
      obtain ⟨q, t, dx, rfl, hq, ht, hwd, hnm⟩ := Ht.keep sI
      refine ⟨q, _, rfl, SqT.of hq, rfl, _, _, rfl, _, _, rfl, _, _, rfl, rfl, ?_⟩
      have hsp : (Str.ofString " ").length = 1 := by decide +kernel
      -- first test
      refine ⟨_, rfl, t, a.C_Tally, dx, _, _, rfl, ht, T.c_Tally, T.n_Tally_word, lk_Tally_word _ _, _, rfl, rfl, _, rfl, iteNS rfl ?_⟩
      refine ⟨_, rfl, t, a.C_Tally, dx, _, _, rfl, ht, T.c_Tally, T.n_Tally_name, lk_Tally_name _ _, _, rfl, rfl, _, rfl, iteNS rfl ?_⟩
      refine ⟨_, rfl, t, dx, _, rfl, ht, t, dx, wd, nm, rfl, ht, by omega, by omega, _, rfl, ?_⟩
      refine ⟨_, rfl, _, _, rfl, rfl, (by rw [hsp]; exact sz1000 (by omega)), _, rfl, _, _, rfl, rfl, (by rw [Str.length_append, hsp]; exact sz1000 (by omega)), rfl, _, rfl, iteNS rfl ?_⟩
      -- second test
      refine ⟨_, rfl, _, rfl, t, dx, _, rfl, ht, t, dx, wd, nm, rfl, ht, by omega, by omega, _, rfl, ?_⟩
      refine ⟨t, dx, _, _, rfl, ht, .base (.str _), nf_ty mro_str, t, dx, wd, nm, _, rfl, ht, .inr ⟨_, .base (.str _), mro_str, _, rfl, iteF ?_⟩⟩
      refine ⟨_, rfl, _, rfl, _, rfl, (by show 2 ≤ sizeLine; decide), fun q7 Hj nq7 sj hj => ?_⟩
      have ht' := sj _ _ ht
      refine ⟨t, dx, _, _, rfl, ht', .base (.tup hj), nf_ty mro_tuple, t, dx, wd, nm, _, rfl, ht', .inr ⟨_, .base (.tup hj), mro_tuple, _, rfl, iteF ?_⟩⟩
      refine ⟨_, rfl, _, rfl, t, dx, _, _, rfl, ht', .base (.str _), nf_ty mro_str, t, dx, wd, nm, _, rfl, ht', .inr ⟨_, .base (.str _), mro_str, _, rfl, iteF ?_⟩⟩
      -- the inner loop
      have sJ : Same H19 Hj := sI.trans sj
      refine ⟨_, rfl, l5, rfl, ⟨_, SqL.of (sJ _ _ h19)⟩, for_list (K := K) (a := l5) (xs := made) (fun i σ H' => ∃ (v7 v8 v9 : Option V), σ = [some (.ref b), some (.str u), some (.str v), some (.ref l5), some (.ref t), some (.str wd), some (.str nm), v7, v8, v9] ∧ Same Hj H')
        ⟨_, _, _, rfl, Same.refl _⟩ (fun i σ H' _ ⟨_, _, _, _, z⟩ => SqL.of (z _ _ (sJ _ _ h19))) ?_ ?_⟩
      · rintro i2 x2 σ2 Hk hi2 ⟨v7, v8, v9, rfl, sK⟩
        obtain ⟨wd2, nm2, Ht2⟩ := all x2 (List.mem_of_getElem? hi2)
        obtain ⟨p, t2, dx2, rfl, hp2, ht2, hwd2, hnm2⟩ := Ht2.keep (sJ.trans sK)
        have ht3 := sK _ _ ht'
        refine ⟨p, _, rfl, SqT.of hp2, rfl, _, _, rfl, _, _, rfl, _, _, rfl, rfl, ?_⟩
        have eqs : ∀ x y : Bool, (!decide (V.bl x = V.bl y)) = (x != y) := by decide
        -- (tally == rival) != (word == label and name == title)
        refine ⟨_, rfl, _, rfl, t, dx, _, _, rfl, ht3, T.ct_Tally.ty ht2, nf_own, t, dx, wd, nm, _, rfl, ht3, .inl ⟨t2, dx2, wd2, nm2, rfl, ht2, ?_⟩⟩
        have c1 : ∀ (Q : VK), Q (.bl (decide (V.str wd = V.str wd2) && decide (V.str nm = V.str nm2))) Hk → tAndV (tOp rEq (tVar 5) (tVar 8)) (tOp rEq (tVar 6) (tVar 9)) [some (.ref b), some (.str u), some (.str v), some (.ref l5), some (.ref t), some (.str wd), some (.str nm), some (.ref t2), some (.str wd2), some (.str nm2)] Hk Q := by
          intro Q hQ
          refine ⟨_, rfl, _, rfl, rfl, _, rfl, ?_⟩
          refine ite2 (fun h => ?_) (fun h => ?_)
          · rw [h, Bool.true_and] at hQ
            exact ⟨_, rfl, _, rfl, rfl, hQ⟩
          · rw [Bool.eq_false_iff.mpr h, Bool.false_and] at hQ
            exact hQ
        refine c1 _ ⟨rfl, _, rfl, iteNS rfl ?_⟩
        -- (tally != rival) != (word != label or name != title)
        refine ⟨_, rfl, _, rfl, t, dx, _, _, rfl, ht3, T.ct_Tally.ty ht2, nf_own, t, dx, wd, nm, _, rfl, ht3, .inl ⟨t2, dx2, wd2, nm2, rfl, ht2, _, rfl, ?_⟩⟩
        have c2 : ∀ (Q : VK), Q (.bl (!(decide (V.str wd = V.str wd2) && decide (V.str nm = V.str nm2)))) Hk → tOrV (tOp rNe (tVar 5) (tVar 8)) (tOp rNe (tVar 6) (tVar 9)) [some (.ref b), some (.str u), some (.str v), some (.ref l5), some (.ref t), some (.str wd), some (.str nm), some (.ref t2), some (.str wd2), some (.str nm2)] Hk Q := by
          intro Q hQ
          refine ⟨_, rfl, _, rfl, rfl, _, rfl, ?_⟩
          cases h : decide (V.str wd = V.str wd2) with
          | true =>
            rw [h, Bool.true_and] at hQ
            exact iteF ⟨_, rfl, _, rfl, rfl, hQ⟩
          | false =>
            rw [h, Bool.false_and] at hQ
            exact iteT hQ
        refine c2 _ ⟨rfl, _, rfl, iteNS rfl ?_⟩
        exact ⟨_, _, _, rfl, sK⟩
      · rintro σ2 Hk ⟨v7, v8, v9, rfl, sK⟩
        exact ⟨_, _, _, _, _, _, rfl, sJ.trans sK⟩
    · rintro σ Hi ⟨v4, v5, v6, v7, v8, v9, rfl, sI⟩
      exact k Hi (hbF.keep sI) (btF.trans (But.of sI))
def spLaw (K : PySem.W.Frag) : Sp := fun vs H Q _ => ∃ (a : Addr) (ns : List Int), vs = [.ref a] ∧ SqL K H a (ns.map V.int) ∧ ns.length ≤ 63 ∧ ∀ H', Q (.bl true) H'
theorem sc_law : FnScope ["_law_script", "_law_at", "_law_bag_here", "_law_turn"] ["_law_script"] (defScope s_law) := ⟨rfl, rfl, rfl, by decide +kernel, rfl, by decide +kernel, by decide +kernel⟩
theorem ok_law (T : Txt K mg a) : FnOk P w K mg base CX0 7 a.f_law a.d_law ["_law_script"] (spLaw K) := by
  refine T.F_law.ok sc_law (fun vs H Q E h => ?_) (fun cdv A outer s H vs Q E hr h => ?_)
  · obtain ⟨l, ns, rfl, _⟩ := h
    rfl
  · obtain ⟨l, ns, rfl, hS, hlen, k⟩ := h
    refine ⟨_, (pss_cons (ps_for PassesOwn.never rfl (pi_range1 (by rfl) T.b_range (pa_cons (pe_callB (call_max2 rfl) (by rfl) T.b_max (by decide +kernel) (pa_cons pe_int (pa_cons (pe_callB (call_min2 rfl) (by rfl) T.b_min (by decide +kernel) (pa_cons pe_int (pa_cons (pe_callB call_len_seq (by rfl) T.b_len PySem.boot_len (pa_cons (pv 0) pa_nil)) pa_nil))) pa_nil))) pa_nil)) (pg_name (i := 1) sc_law.nd rfl (.inl rfl))
      (pss_cons (ps_set (i := 2) sc_law.nd rfl (.inl rfl) (pe_call (ok_l_bag T) (hr.mono (by decide)) rfl T.m_l_bag T.k_l_bag T.a_l_bag .nil pass0 (pa_cons (pv 0) (pa_cons (pv 1) pa_nil))))
      (pss_one (ps_for PassesOwn.never rfl (pi_range1 (by rfl) T.b_range (pa_cons pe_int pa_nil)) (pg_name (i := 3) sc_law.nd rfl (.inl rfl))
      (pss_one (ps_if (pt_not (pt_val (pe_call (ok_l_right T) (hr.mono (by decide)) rfl T.m_l_right T.k_l_right T.a_l_right .nil pass0 (pa_cons (pv 2) pa_nil)))) (pss_one (ps_ret pe_bl)) pss_nil))))))
      (pss_one (ps_ret pe_bl))), ?_⟩
    refine ⟨_, rfl, l, _, rfl, .inl hS, _, _, rfl, _, _, rfl, _, rfl, ?_, ?_, ?_⟩
    · split <;> split <;> omega
    · split <;> split <;> omega
    generalize em : Int.toNat _ = m
    have hm : m ≤ 4 := by
      rw [← em]
      split <;> split <;> omega
    refine for_range (lo := 0) (n := m) (fun i σ H' => ∃ (v1 v2 v3 : Option V), σ = [some (.ref l), v1, v2, v3] ∧ Same H H') ⟨_, _, _, rfl, Same.refl _⟩ ?_ ?_
    · rintro i σ H' hi ⟨v1, v2, v3, rfl, sm⟩
      refine ⟨_, rfl, _, rfl, l, ns, i, (by rw [Int.zero_add]; rfl), sm.seq hS, by omega, fun b d m H2 nb s2 hb d0 m0 m1 => ?_⟩
      have hb0 : BagAt H2 b 0 := ⟨d, m, 0, hb, d0, m0, m1, by decide, by decide⟩
      have nb0 : H b = none := sm.free nb
      refine ⟨4, rfl, by decide, by decide, for_range (lo := 0) (n := 4) (fun j σ H' => ∃ (v3 : Option V), σ = [some (.ref l), some (.int (0 + (i : Nat))), some (.ref b), v3] ∧ Same H H' ∧ BagAt H' b (57 * j)) ⟨_, rfl, sm.trans s2, hb0⟩ ?_ ?_⟩
      · rintro j σ H3 hj ⟨v3, rfl, s3, hb3⟩
        refine ⟨_, rfl, b, _, rfl, hb3, by omega, fun H4 hb4 bt4 => ?_⟩
        refine ⟨_, rfl, iteF ?_⟩
        exact ⟨_, rfl, fun q o e => bt4 q o (s3 q o e) (ne_of_none e nb0), hb4.mono (by omega)⟩
      · rintro σ H3 ⟨v3, rfl, s3, hb3⟩
        exact ⟨_, _, _, rfl, s3⟩
    · rintro σ H' ⟨v1, v2, v3, rfl, sm⟩
      exact k H'

end
end Toy

set_option Elab.async false
set_option linter.all false
set_option maxRecDepth 100000
set_option maxHeartbeats 4000000
namespace Toy
open PySem L2 Lf
theorem txt_mk {K : PySem.W.Frag} {h : Heap} {mg : Str → Option Value} {C_Tally : Addr} {f_Tally__init : Addr} {od_Tally__init an_Tally__init : Option Addr} {sl_Tally__init : Array (Option Value)} {oc_Tally__init kV_Tally__init dc_Tally__init pm_Tally__init cd_Tally__init ct_Tally__init : Value} {f_Tally_counting : Addr} {p_Tally_counting : Addr} {od_Tally_counting an_Tally_counting : Option Addr} {sl_Tally_counting : Array (Option Value)} {oc_Tally_counting kV_Tally_counting dc_Tally_counting pm_Tally_counting cd_Tally_counting ct_Tally_counting : Value} {rs_Tally_counting : List Value} {f_Tally_adding : Addr} {p_Tally_adding : Addr} {od_Tally_adding an_Tally_adding : Option Addr} {sl_Tally_adding : Array (Option Value)} {oc_Tally_adding kV_Tally_adding dc_Tally_adding pm_Tally_adding cd_Tally_adding ct_Tally_adding : Value} {rs_Tally_adding : List Value} {f_Tally__eq : Addr} {od_Tally__eq an_Tally__eq : Option Addr} {sl_Tally__eq : Array (Option Value)} {oc_Tally__eq kV_Tally__eq dc_Tally__eq pm_Tally__eq cd_Tally__eq ct_Tally__eq : Value} {f_Tally__str : Addr} {od_Tally__str an_Tally__str : Option Addr} {sl_Tally__str : Array (Option Value)} {oc_Tally__str kV_Tally__str dc_Tally__str pm_Tally__str cd_Tally__str ct_Tally__str : Value} {f_l_bag : Addr} {od_l_bag an_l_bag : Option Addr} {sl_l_bag : Array (Option Value)} {oc_l_bag kV_l_bag dc_l_bag pm_l_bag cd_l_bag ct_l_bag : Value} {f_l_draw : Addr} {od_l_draw an_l_draw : Option Addr} {sl_l_draw : Array (Option Value)} {oc_l_draw kV_l_draw dc_l_draw pm_l_draw cd_l_draw ct_l_draw : Value} {f_l_of : Addr} {od_l_of an_l_of : Option Addr} {sl_l_of : Array (Option Value)} {oc_l_of kV_l_of dc_l_of pm_l_of cd_l_of ct_l_of : Value} {f_l_word : Addr} {od_l_word an_l_word : Option Addr} {sl_l_word : Array (Option Value)} {oc_l_word kV_l_word dc_l_word pm_l_word cd_l_word ct_l_word : Value} {f_l_name : Addr} {od_l_name an_l_name : Option Addr} {sl_l_name : Array (Option Value)} {oc_l_name kV_l_name dc_l_name pm_l_name cd_l_name ct_l_name : Value} {f_l_right : Addr} {od_l_right an_l_right : Option Addr} {sl_l_right : Array (Option Value)} {oc_l_right kV_l_right dc_l_right pm_l_right cd_l_right ct_l_right : Value} {f_law : Addr} {od_law an_law : Option Addr} {sl_law : Array (Option Value)} {oc_law kV_law dc_law pm_law cd_law ct_law : Value} (X : K.In h) (Gm : h.Ns mainGlobals mg)
    (aC_Tally : PySem.W.nsIn K mainGlobals "Tally" = some (some (.ref C_Tally)))
    (a_Tally__init : PySem.W.findIn K (.ref C_Tally) "__init__" = some (some (.ref f_Tally__init)))
    (i_Tally__init : PySem.W.isFn K (.ref f_Tally__init) = true)
    (l_Tally__init : K.lookup f_Tally__init = some ⟨oc_Tally__init, od_Tally__init, .func (PySem.W.fnOf "__init__" "Tally.__init__" (defArgs s_Tally__init) (defBody s_Tally__init) (defScope s_Tally__init) .none kV_Tally__init dc_Tally__init pm_Tally__init an_Tally__init cd_Tally__init ct_Tally__init), sl_Tally__init⟩)
    (c_Tally__init : PySem.W.codeIn K cd_Tally__init "Tally.__init__" = true)
    (k_Tally__init : PySem.W.keepIn K (.ref f_Tally__init) = true)
    (at_Tally_counting : PySem.W.findCls K (.ref C_Tally) (.type "type") "counting" = some (.get (.builtin "classmethod.__get__") (.ref p_Tally_counting) .none (.ref C_Tally)))
    (rc_Tally_counting : PySem.W.recIn K p_Tally_counting "classmethod" = some (.ref f_Tally_counting :: rs_Tally_counting))
    (fi_Tally_counting : PySem.W.fnIn K f_Tally_counting = true)
    (l_Tally_counting : K.lookup f_Tally_counting = some ⟨oc_Tally_counting, od_Tally_counting, .func (PySem.W.fnOf "counting" "Tally.counting" (defArgs s_Tally_counting) (defBody s_Tally_counting) (defScope s_Tally_counting) .none kV_Tally_counting dc_Tally_counting pm_Tally_counting an_Tally_counting cd_Tally_counting ct_Tally_counting), sl_Tally_counting⟩)
    (c_Tally_counting : PySem.W.codeIn K cd_Tally_counting "Tally.counting" = true)
    (k_Tally_counting : PySem.W.keepIn K (.ref f_Tally_counting) = true)
    (at_Tally_adding : PySem.W.findCls K (.ref C_Tally) (.type "type") "adding" = some (.get (.builtin "classmethod.__get__") (.ref p_Tally_adding) .none (.ref C_Tally)))
    (rc_Tally_adding : PySem.W.recIn K p_Tally_adding "classmethod" = some (.ref f_Tally_adding :: rs_Tally_adding))
    (fi_Tally_adding : PySem.W.fnIn K f_Tally_adding = true)
    (l_Tally_adding : K.lookup f_Tally_adding = some ⟨oc_Tally_adding, od_Tally_adding, .func (PySem.W.fnOf "adding" "Tally.adding" (defArgs s_Tally_adding) (defBody s_Tally_adding) (defScope s_Tally_adding) .none kV_Tally_adding dc_Tally_adding pm_Tally_adding an_Tally_adding cd_Tally_adding ct_Tally_adding), sl_Tally_adding⟩)
    (c_Tally_adding : PySem.W.codeIn K cd_Tally_adding "Tally.adding" = true)
    (k_Tally_adding : PySem.W.keepIn K (.ref f_Tally_adding) = true)
    (a_Tally__eq : PySem.W.findIn K (.ref C_Tally) "__eq__" = some (some (.ref f_Tally__eq)))
    (i_Tally__eq : PySem.W.isFn K (.ref f_Tally__eq) = true)
    (l_Tally__eq : K.lookup f_Tally__eq = some ⟨oc_Tally__eq, od_Tally__eq, .func (PySem.W.fnOf "__eq__" "Tally.__eq__" (defArgs s_Tally__eq) (defBody s_Tally__eq) (defScope s_Tally__eq) .none kV_Tally__eq dc_Tally__eq pm_Tally__eq an_Tally__eq cd_Tally__eq ct_Tally__eq), sl_Tally__eq⟩)
    (c_Tally__eq : PySem.W.codeIn K cd_Tally__eq "Tally.__eq__" = true)
    (k_Tally__eq : PySem.W.keepIn K (.ref f_Tally__eq) = true)
    (a_Tally__str : PySem.W.findIn K (.ref C_Tally) "__str__" = some (some (.ref f_Tally__str)))
    (i_Tally__str : PySem.W.isFn K (.ref f_Tally__str) = true)
    (l_Tally__str : K.lookup f_Tally__str = some ⟨oc_Tally__str, od_Tally__str, .func (PySem.W.fnOf "__str__" "Tally.__str__" (defArgs s_Tally__str) (defBody s_Tally__str) (defScope s_Tally__str) .none kV_Tally__str dc_Tally__str pm_Tally__str an_Tally__str cd_Tally__str ct_Tally__str), sl_Tally__str⟩)
    (c_Tally__str : PySem.W.codeIn K cd_Tally__str "Tally.__str__" = true)
    (k_Tally__str : PySem.W.keepIn K (.ref f_Tally__str) = true)
    (a_l_bag : PySem.W.nsIn K mainGlobals "_law_bag" = some (some (.ref f_l_bag)))
    (l_l_bag : K.lookup f_l_bag = some ⟨oc_l_bag, od_l_bag, .func (PySem.W.fnOf "_law_bag" "_law_bag" (defArgs s_l_bag) (defBody s_l_bag) (defScope s_l_bag) .none kV_l_bag dc_l_bag pm_l_bag an_l_bag cd_l_bag ct_l_bag), sl_l_bag⟩)
    (c_l_bag : PySem.W.codeIn K cd_l_bag "_law_bag" = true)
    (k_l_bag : PySem.W.keepIn K (.ref f_l_bag) = true)
    (a_l_draw : PySem.W.nsIn K mainGlobals "_law_draw" = some (some (.ref f_l_draw)))
    (l_l_draw : K.lookup f_l_draw = some ⟨oc_l_draw, od_l_draw, .func (PySem.W.fnOf "_law_draw" "_law_draw" (defArgs s_l_draw) (defBody s_l_draw) (defScope s_l_draw) .none kV_l_draw dc_l_draw pm_l_draw an_l_draw cd_l_draw ct_l_draw), sl_l_draw⟩)
    (c_l_draw : PySem.W.codeIn K cd_l_draw "_law_draw" = true)
    (k_l_draw : PySem.W.keepIn K (.ref f_l_draw) = true)
    (a_l_of : PySem.W.nsIn K mainGlobals "_law_of" = some (some (.ref f_l_of)))
    (l_l_of : K.lookup f_l_of = some ⟨oc_l_of, od_l_of, .func (PySem.W.fnOf "_law_of" "_law_of" (defArgs s_l_of) (defBody s_l_of) (defScope s_l_of) .none kV_l_of dc_l_of pm_l_of an_l_of cd_l_of ct_l_of), sl_l_of⟩)
    (c_l_of : PySem.W.codeIn K cd_l_of "_law_of" = true)
    (k_l_of : PySem.W.keepIn K (.ref f_l_of) = true)
    (a_l_word : PySem.W.nsIn K mainGlobals "_law_word" = some (some (.ref f_l_word)))
    (l_l_word : K.lookup f_l_word = some ⟨oc_l_word, od_l_word, .func (PySem.W.fnOf "_law_word" "_law_word" (defArgs s_l_word) (defBody s_l_word) (defScope s_l_word) .none kV_l_word dc_l_word pm_l_word an_l_word cd_l_word ct_l_word), sl_l_word⟩)
    (c_l_word : PySem.W.codeIn K cd_l_word "_law_word" = true)
    (k_l_word : PySem.W.keepIn K (.ref f_l_word) = true)
    (a_l_name : PySem.W.nsIn K mainGlobals "_law_name" = some (some (.ref f_l_name)))
    (l_l_name : K.lookup f_l_name = some ⟨oc_l_name, od_l_name, .func (PySem.W.fnOf "_law_name" "_law_name" (defArgs s_l_name) (defBody s_l_name) (defScope s_l_name) .none kV_l_name dc_l_name pm_l_name an_l_name cd_l_name ct_l_name), sl_l_name⟩)
    (c_l_name : PySem.W.codeIn K cd_l_name "_law_name" = true)
    (k_l_name : PySem.W.keepIn K (.ref f_l_name) = true)
    (a_l_right : PySem.W.nsIn K mainGlobals "_law_right" = some (some (.ref f_l_right)))
    (l_l_right : K.lookup f_l_right = some ⟨oc_l_right, od_l_right, .func (PySem.W.fnOf "_law_right" "_law_right" (defArgs s_l_right) (defBody s_l_right) (defScope s_l_right) .none kV_l_right dc_l_right pm_l_right an_l_right cd_l_right ct_l_right), sl_l_right⟩)
    (c_l_right : PySem.W.codeIn K cd_l_right "_law_right" = true)
    (k_l_right : PySem.W.keepIn K (.ref f_l_right) = true)
    (a_law : PySem.W.nsIn K mainGlobals "law" = some (some (.ref f_law)))
    (l_law : K.lookup f_law = some ⟨oc_law, od_law, .func (PySem.W.fnOf "law" "law" (defArgs s_law) (defBody s_law) (defScope s_law) .none kV_law dc_law pm_law an_law cd_law ct_law), sl_law⟩)
    (c_law : PySem.W.codeIn K cd_law "law" = true)
    (k_law : PySem.W.keepIn K (.ref f_law) = true)
    (pg_Tally : PySem.W.plainGet K C_Tally Str.empty = true)
    (hd_Tally : PySem.W.hasDictIn K C_Tally = true)
    (po_Tally : PySem.W.plainOver K C_Tally = true)
    (sa_Tally : PySem.W.findIn K (.ref C_Tally) "__setattr__" = some (some (.builtin "object.__setattr__")))
    (kc_Tally : PySem.W.keepIn K (.ref C_Tally) = true)
    (ca_Tally : PySem.W.findIn K (.ref C_Tally) "__class__" = some (some (.builtin "object.__class__")))
    (cn_Tally : PySem.W.specialIn K (.builtin "object.__class__") "__get__" = some (some (.builtin "getset_descriptor.__get__")))
    (ctk_Tally : PySem.W.takesIn K (.builtin "object.__class__") = some true)
    (cm_Tally : PySem.W.mroIn K C_Tally (.type "object") = some true)
    (ic_Tally : PySem.W.isClsIn K C_Tally = true)
    (tc_Tally : PySem.W.typeIn K (.ref C_Tally) = some (.type "type"))
    (ne_Tally : PySem.W.findIn K (.ref C_Tally) "__ne__" = some (some (.builtin "object.__ne__")))
    (mk_Tally : PySem.W.makesIn K C_Tally = true)
    (rd_Tally : PySem.W.readsIn K C_Tally (.type "type") = true)
    (ga_Tally : PySem.W.specialIn K (.ref C_Tally) "__getattribute__" = some (some (.builtin "type.__getattribute__")))
    (n_Tally_word : PySem.W.findIn K (.ref C_Tally) "word" = some none)
    (n_Tally_name : PySem.W.findIn K (.ref C_Tally) "name" = some none)
    (b_len : PySem.W.nsIn K mainGlobals "len" = some none)
    (b_abs : PySem.W.nsIn K mainGlobals "abs" = some none)
    (b_int : PySem.W.nsIn K mainGlobals "int" = some none)
    (b_range : PySem.W.nsIn K mainGlobals "range" = some none)
    (b_isinstance : PySem.W.nsIn K mainGlobals "isinstance" = some none)
    (b_str : PySem.W.nsIn K mainGlobals "str" = some none)
    (b_max : PySem.W.nsIn K mainGlobals "max" = some none)
    (b_min : PySem.W.nsIn K mainGlobals "min" = some none) :
    Txt K mg ⟨f_Tally__init, PySem.W.fnOf "__init__" "Tally.__init__" (defArgs s_Tally__init) (defBody s_Tally__init) (defScope s_Tally__init) .none kV_Tally__init dc_Tally__init pm_Tally__init an_Tally__init cd_Tally__init ct_Tally__init, f_Tally_counting, PySem.W.fnOf "counting" "Tally.counting" (defArgs s_Tally_counting) (defBody s_Tally_counting) (defScope s_Tally_counting) .none kV_Tally_counting dc_Tally_counting pm_Tally_counting an_Tally_counting cd_Tally_counting ct_Tally_counting, p_Tally_counting, f_Tally_adding, PySem.W.fnOf "adding" "Tally.adding" (defArgs s_Tally_adding) (defBody s_Tally_adding) (defScope s_Tally_adding) .none kV_Tally_adding dc_Tally_adding pm_Tally_adding an_Tally_adding cd_Tally_adding ct_Tally_adding, p_Tally_adding, f_Tally__eq, PySem.W.fnOf "__eq__" "Tally.__eq__" (defArgs s_Tally__eq) (defBody s_Tally__eq) (defScope s_Tally__eq) .none kV_Tally__eq dc_Tally__eq pm_Tally__eq an_Tally__eq cd_Tally__eq ct_Tally__eq, f_Tally__str, PySem.W.fnOf "__str__" "Tally.__str__" (defArgs s_Tally__str) (defBody s_Tally__str) (defScope s_Tally__str) .none kV_Tally__str dc_Tally__str pm_Tally__str an_Tally__str cd_Tally__str ct_Tally__str, f_l_bag, PySem.W.fnOf "_law_bag" "_law_bag" (defArgs s_l_bag) (defBody s_l_bag) (defScope s_l_bag) .none kV_l_bag dc_l_bag pm_l_bag an_l_bag cd_l_bag ct_l_bag, f_l_draw, PySem.W.fnOf "_law_draw" "_law_draw" (defArgs s_l_draw) (defBody s_l_draw) (defScope s_l_draw) .none kV_l_draw dc_l_draw pm_l_draw an_l_draw cd_l_draw ct_l_draw, f_l_of, PySem.W.fnOf "_law_of" "_law_of" (defArgs s_l_of) (defBody s_l_of) (defScope s_l_of) .none kV_l_of dc_l_of pm_l_of an_l_of cd_l_of ct_l_of, f_l_word, PySem.W.fnOf "_law_word" "_law_word" (defArgs s_l_word) (defBody s_l_word) (defScope s_l_word) .none kV_l_word dc_l_word pm_l_word an_l_word cd_l_word ct_l_word, f_l_name, PySem.W.fnOf "_law_name" "_law_name" (defArgs s_l_name) (defBody s_l_name) (defScope s_l_name) .none kV_l_name dc_l_name pm_l_name an_l_name cd_l_name ct_l_name, f_l_right, PySem.W.fnOf "_law_right" "_law_right" (defArgs s_l_right) (defBody s_l_right) (defScope s_l_right) .none kV_l_right dc_l_right pm_l_right an_l_right cd_l_right ct_l_right, f_law, PySem.W.fnOf "law" "law" (defArgs s_law) (defBody s_law) (defScope s_law) .none kV_law dc_law pm_law an_law cd_law ct_law, C_Tally⟩ where
  F_Tally__init := fun_mk (st := s_Tally__init) l_Tally__init c_Tally__init k_Tally__init
  k_Tally__init := k_Tally__init
  a_Tally__init := (fun_mk (st := s_Tally__init) l_Tally__init c_Tally__init k_Tally__init).binds (ps := ["self", "word", "name"]) fun _ _ _ _ _ _ us hl => match us, hl with | [_, _, _], _ => rfl
  t_Tally__init := ⟨a_Tally__init, i_Tally__init, k_Tally__init⟩
  f_Tally__init := a_Tally__init
  i_Tally__init := i_Tally__init
  F_Tally_counting := fun_mk (st := s_Tally_counting) l_Tally_counting c_Tally_counting k_Tally_counting
  k_Tally_counting := k_Tally_counting
  a_Tally_counting := (fun_mk (st := s_Tally_counting) l_Tally_counting c_Tally_counting k_Tally_counting).binds (ps := ["cls", "name"]) fun _ _ _ _ _ _ us hl => match us, hl with | [_, _], _ => rfl
  cm_Tally_counting := ⟨at_Tally_counting, ⟨_, rc_Tally_counting⟩, fi_Tally_counting⟩
  F_Tally_adding := fun_mk (st := s_Tally_adding) l_Tally_adding c_Tally_adding k_Tally_adding
  k_Tally_adding := k_Tally_adding
  a_Tally_adding := (fun_mk (st := s_Tally_adding) l_Tally_adding c_Tally_adding k_Tally_adding).binds (ps := ["cls", "name"]) fun _ _ _ _ _ _ us hl => match us, hl with | [_, _], _ => rfl
  cm_Tally_adding := ⟨at_Tally_adding, ⟨_, rc_Tally_adding⟩, fi_Tally_adding⟩
  F_Tally__eq := fun_mk (st := s_Tally__eq) l_Tally__eq c_Tally__eq k_Tally__eq
  k_Tally__eq := k_Tally__eq
  a_Tally__eq := (fun_mk (st := s_Tally__eq) l_Tally__eq c_Tally__eq k_Tally__eq).binds (ps := ["self", "other"]) fun _ _ _ _ _ _ us hl => match us, hl with | [_, _], _ => rfl
  t_Tally__eq := ⟨a_Tally__eq, i_Tally__eq, k_Tally__eq⟩
  f_Tally__eq := a_Tally__eq
  i_Tally__eq := i_Tally__eq
  F_Tally__str := fun_mk (st := s_Tally__str) l_Tally__str c_Tally__str k_Tally__str
  k_Tally__str := k_Tally__str
  a_Tally__str := (fun_mk (st := s_Tally__str) l_Tally__str c_Tally__str k_Tally__str).binds (ps := ["self"]) fun _ _ _ _ _ _ us hl => match us, hl with | [_], _ => rfl
  t_Tally__str := ⟨a_Tally__str, i_Tally__str, k_Tally__str⟩
  f_Tally__str := a_Tally__str
  i_Tally__str := i_Tally__str
  F_l_bag := fun_mk (st := s_l_bag) l_l_bag c_l_bag k_l_bag
  k_l_bag := k_l_bag
  a_l_bag := (fun_mk (st := s_l_bag) l_l_bag c_l_bag k_l_bag).binds (ps := ["_law_script", "_law_at"]) fun _ _ _ _ _ _ us hl => match us, hl with | [_, _], _ => rfl
  m_l_bag := PySem.W.mg_of X Gm a_l_bag
  F_l_draw := fun_mk (st := s_l_draw) l_l_draw c_l_draw k_l_draw
  k_l_draw := k_l_draw
  a_l_draw := (fun_mk (st := s_l_draw) l_l_draw c_l_draw k_l_draw).binds (ps := ["_law_bag_here", "_law_many"]) fun _ _ _ _ _ _ us hl => match us, hl with | [_, _], _ => rfl
  m_l_draw := PySem.W.mg_of X Gm a_l_draw
  F_l_of := fun_mk (st := s_l_of) l_l_of c_l_of k_l_of
  k_l_of := k_l_of
  a_l_of := (fun_mk (st := s_l_of) l_l_of c_l_of k_l_of).binds (ps := ["_law_bag_here", "_law_some"]) fun _ _ _ _ _ _ us hl => match us, hl with | [_, _], _ => rfl
  m_l_of := PySem.W.mg_of X Gm a_l_of
  F_l_word := fun_mk (st := s_l_word) l_l_word c_l_word k_l_word
  k_l_word := k_l_word
  a_l_word := (fun_mk (st := s_l_word) l_l_word c_l_word k_l_word).binds (ps := ["_law_bag_here", "_law_taken"]) fun _ _ _ _ _ _ us hl => match us, hl with | [_, _], _ => rfl
  m_l_word := PySem.W.mg_of X Gm a_l_word
  F_l_name := fun_mk (st := s_l_name) l_l_name c_l_name k_l_name
  k_l_name := k_l_name
  a_l_name := (fun_mk (st := s_l_name) l_l_name c_l_name k_l_name).binds (ps := ["_law_bag_here"]) fun _ _ _ _ _ _ us hl => match us, hl with | [_], _ => rfl
  m_l_name := PySem.W.mg_of X Gm a_l_name
  F_l_right := fun_mk (st := s_l_right) l_l_right c_l_right k_l_right
  k_l_right := k_l_right
  a_l_right := (fun_mk (st := s_l_right) l_l_right c_l_right k_l_right).binds (ps := ["_law_bag_here"]) fun _ _ _ _ _ _ us hl => match us, hl with | [_], _ => rfl
  m_l_right := PySem.W.mg_of X Gm a_l_right
  F_law := fun_mk (st := s_law) l_law c_law k_law
  k_law := k_law
  a_law := (fun_mk (st := s_law) l_law c_law k_law).binds (ps := ["_law_script"]) fun _ _ _ _ _ _ us hl => match us, hl with | [_], _ => rfl
  m_law := PySem.W.mg_of X Gm a_law
  ct_Tally := ⟨⟨pg_Tally, hd_Tally, po_Tally, sa_Tally⟩, ca_Tally, cn_Tally, ctk_Tally, cm_Tally, isc_mk ic_Tally tc_Tally, ne_Tally⟩
  m_Tally := PySem.W.mg_of X Gm aC_Tally
  mk_Tally := ⟨mk_Tally, a_Tally__init, i_Tally__init, kc_Tally⟩
  r_Tally := ⟨rd_Tally, ga_Tally⟩
  n_Tally_word := n_Tally_word
  n_Tally_name := n_Tally_name
  b_len := PySem.W.mg_none_of X Gm b_len
  b_abs := PySem.W.mg_none_of X Gm b_abs
  b_int := PySem.W.mg_none_of X Gm b_int
  b_range := PySem.W.mg_none_of X Gm b_range
  b_isinstance := PySem.W.mg_none_of X Gm b_isinstance
  b_str := PySem.W.mg_none_of X Gm b_str
  b_max := PySem.W.mg_none_of X Gm b_max
  b_min := PySem.W.mg_none_of X Gm b_min
theorem all_mk {l : PySem.W.OpenLaw} {w : World} {K : PySem.W.Frag} {h : Heap} {mg : Str → Option Value} {fa : Addr} {a : Ad} {kV' dc pm cd ct : Value} {an : Option Addr} (hfa : mg "law" = some (.ref fa)) (T : Txt K mg a) (e0 : a.d_law = PySem.W.fnOf "law" "law" (defArgs s_law) (defBody s_law) (defScope s_law) .none kV' dc pm an cd ct) :
    ∃ fd : FuncData, (∀ (s : Shared) (v : Value), BindsTo s fd ⟨[v], []⟩ [("_law_script", v)]) ∧ ∀ base : Heap, K.In base → base.Ns mainGlobals mg → FnOk l.prog w K mg base CX0 7 fa fd ["_law_script"] (spLaw K) := by
  have e := hfa.symm.trans T.m_law
  cases e
  refine ⟨a.d_law, fun s v => by rw [e0]; exact .of_eq rfl, fun base _ _ => ok_law T⟩
theorem walk {l : PySem.W.OpenLaw} {q : Program} {loose : List Str} {XP : (Str → Option Value) → Heap → Prop} {YP : World → Heap → Prop} {d : DefRec} {K : Params → PySem.W.Frag} (hn : l.most = some 63) (hdf : d.params.defaults = [])
    (hY : ∀ (w : World) (h : Heap), YP w h → (K w.params).In h)
    (F : ∀ (w : World) (mg : Str → Option Value) (fa : Addr) (h : Heap), (K w.params).In h → h.Ns mainGlobals mg → mg d.name = some (.ref fa) →
      ∃ fd : FuncData, (∀ (s : Shared) (u : Value), BindsTo s fd ⟨[u], []⟩ [("_law_script", u)]) ∧ ∀ base : Heap, (K w.params).In base → base.Ns mainGlobals mg → FnOk l.prog w (K w.params) mg base CX0 7 fa fd ["_law_script"] (spLaw (K w.params))) :
    PySem.W.WalkO q loose XP YP l.row.toRowW d [] (fun f vs => PySem.call f vs) :=
  L2.walk_of (n := 63) (k := 7) (x := "_law_script") (CX := fun _ => CX0) (sp := fun w => spLaw (K w.params)) hn (by decide) hdf ⟨rfl, by decide, by decide⟩ hY F (fun _ _ a ns hl _ hS => ⟨a, ns, rfl, hS, hl, fun _ => rfl⟩) fun _ _ _ _ _ z => z
end Toy
open PySem PySem.W PyProof.Rows
set_option maxRecDepth 100000 in
set_option maxHeartbeats 0 in
theorem PySem.Challenge.cw_linkedfilters_k66_tallies_as_values_holds : PySem.Challenge.rw_linkedfilters_k66_tallies_as_values.Holds := by
  w_on; o_law; k_head; (case hw => w_witness2)
  k_fill
  refine Toy.walk (l := PySem.Challenge.rw_linkedfilters_k66_tallies_as_values) rfl rfl (fun w h Y => PySem.W.kIn_of Y) ?F
  case F =>
    intro w mg fa h KX G hmg
    refine' Toy.all_mk (h := h) hmg (Toy.txt_mk KX G ?h_aC_Tally ?h_a_Tally__init ?h_i_Tally__init ?h_l_Tally__init ?h_c_Tally__init ?h_k_Tally__init ?h_at_Tally_counting ?h_rc_Tally_counting ?h_fi_Tally_counting ?h_l_Tally_counting ?h_c_Tally_counting ?h_k_Tally_counting ?h_at_Tally_adding ?h_rc_Tally_adding ?h_fi_Tally_adding ?h_l_Tally_adding ?h_c_Tally_adding ?h_k_Tally_adding ?h_a_Tally__eq ?h_i_Tally__eq ?h_l_Tally__eq ?h_c_Tally__eq ?h_k_Tally__eq ?h_a_Tally__str ?h_i_Tally__str ?h_l_Tally__str ?h_c_Tally__str ?h_k_Tally__str ?h_a_l_bag ?h_l_l_bag ?h_c_l_bag ?h_k_l_bag ?h_a_l_draw ?h_l_l_draw ?h_c_l_draw ?h_k_l_draw ?h_a_l_of ?h_l_l_of ?h_c_l_of ?h_k_l_of ?h_a_l_word ?h_l_l_word ?h_c_l_word ?h_k_l_word ?h_a_l_name ?h_l_l_name ?h_c_l_name ?h_k_l_name ?h_a_l_right ?h_l_l_right ?h_c_l_right ?h_k_l_right ?h_a_law ?h_l_law ?h_c_law ?h_k_law ?h_pg_Tally ?h_hd_Tally ?h_po_Tally ?h_sa_Tally ?h_kc_Tally ?h_ca_Tally ?h_cn_Tally ?h_ctk_Tally ?h_cm_Tally ?h_ic_Tally ?h_tc_Tally ?h_ne_Tally ?h_mk_Tally ?h_rd_Tally ?h_ga_Tally ?h_n_Tally_word ?h_n_Tally_name ?h_b_len ?h_b_abs ?h_b_int ?h_b_range ?h_b_isinstance ?h_b_str ?h_b_max ?h_b_min) rfl
    (case h_aC_Tally => k_is); (case h_a_Tally__init => k_is); (case h_i_Tally__init => k_is); (case h_l_Tally__init => k_is); (case h_c_Tally__init => k_is); (case h_k_Tally__init => k_is)
    (case h_at_Tally_counting => k_is); (case h_rc_Tally_counting => k_is); (case h_fi_Tally_counting => k_is); (case h_l_Tally_counting => k_is); (case h_c_Tally_counting => k_is); (case h_k_Tally_counting => k_is)
    (case h_at_Tally_adding => k_is); (case h_rc_Tally_adding => k_is); (case h_fi_Tally_adding => k_is); (case h_l_Tally_adding => k_is); (case h_c_Tally_adding => k_is); (case h_k_Tally_adding => k_is)
    (case h_a_Tally__eq => k_is); (case h_i_Tally__eq => k_is); (case h_l_Tally__eq => k_is); (case h_c_Tally__eq => k_is); (case h_k_Tally__eq => k_is); (case h_a_Tally__str => k_is)
    (case h_i_Tally__str => k_is); (case h_l_Tally__str => k_is); (case h_c_Tally__str => k_is); (case h_k_Tally__str => k_is); (case h_a_l_bag => k_is); (case h_l_l_bag => k_is)
    (case h_c_l_bag => k_is); (case h_k_l_bag => k_is); (case h_a_l_draw => k_is); (case h_l_l_draw => k_is); (case h_c_l_draw => k_is); (case h_k_l_draw => k_is)
    (case h_a_l_of => k_is); (case h_l_l_of => k_is); (case h_c_l_of => k_is); (case h_k_l_of => k_is); (case h_a_l_word => k_is); (case h_l_l_word => k_is)
    (case h_c_l_word => k_is); (case h_k_l_word => k_is); (case h_a_l_name => k_is); (case h_l_l_name => k_is); (case h_c_l_name => k_is); (case h_k_l_name => k_is)
    (case h_a_l_right => k_is); (case h_l_l_right => k_is); (case h_c_l_right => k_is); (case h_k_l_right => k_is); (case h_a_law => k_is); (case h_l_law => k_is)
    (case h_c_law => k_is); (case h_k_law => k_is); (case h_pg_Tally => k_is); (case h_hd_Tally => k_is); (case h_po_Tally => k_is); (case h_sa_Tally => k_is)
    (case h_kc_Tally => k_is); (case h_ca_Tally => k_is); (case h_cn_Tally => k_is); (case h_ctk_Tally => k_is); (case h_cm_Tally => k_is); (case h_ic_Tally => k_is)
    (case h_tc_Tally => k_is); (case h_ne_Tally => k_is); (case h_mk_Tally => k_is); (case h_rd_Tally => k_is); (case h_ga_Tally => k_is); (case h_n_Tally_word => k_is)
    (case h_n_Tally_name => k_is); (case h_b_len => k_is); (case h_b_abs => k_is); (case h_b_int => k_is); (case h_b_range => k_is); (case h_b_isinstance => k_is)
    (case h_b_str => k_is); (case h_b_max => k_is); (case h_b_min => k_is)

