import PyProof.Rows.All
import Wide.All
import OpenK.AllK
import Wide.FinOn
import HandS.ForMost
import HandS.More
import HandS.IsInst
import HandS.ClsMeth
import HandS.FStr
import KE.KCallOwn
import KE.KFmtOwn
import HandS.TupAny
import HandS.SetFor
import HandS.Conv
import HandS.Defaults
import HandS.MakeKwOnly
import HandS.Strs
import HandS.SortInts
import HandS.Star
import HandS.SortKw
import KE.KStar
import KE.KOpsOwn
import HandS.Comp
import HandS.Walk
import HandS.Style
import HandS.TryOnly
import HandS.Text
import PyProof.Rows.RegStrFacts
import PySem.Challenge.RW_linkedfilters_k02_choices_combined
set_option Elab.async false
set_option linter.all false
set_option maxRecDepth 100000
set_option maxHeartbeats 4000000
/-! Rules of our own: ==, != and str by own methods of a plain class, a class called from a slot. -/
namespace Lf
open PySem PySem.Spec PyProof.Rows L2

section
variable {prog : Program} {w : World} {A : Around} {E : Value → Shared → Prop} {s : Shared} {K : PySem.W.Frag} {x C f : Addr} {ox : Obj} {od : Option Obj} {b tb : Value}
theorem ifBound_objNe {M : Model} {args : List Value} {Q : Option Value → Shared → Prop} (X : K.In s.heap) (I : PySem.W.InstAt s.heap x ox C od)
    (hs : PySem.W.findIn K (.ref C) "__ne__" = some (some (.builtin "object.__ne__")))
    (h : wpAny M A (call (.builtin "object.__ne__") (.ref x :: args)) (fun v => Q (some v)) E s) : wpAny M A (callSpecialIfBound? (.ref x) "__ne__" args) Q E s := by
  simp only [callSpecialIfBound?, bindSpecialIfBound?]
  refine wpAny_holding (wpAny_bind (wpAny_bind (wpAny_bind (I.type.here ((PySem.W.looks_findIn X hs).here ?_)))))
  refine wpAny_bind (wpAny_askSetting (wpAny_ite ?_))
  have fin : wpAny M A (call (.builtin "object.__ne__") ([.ref x] ++ args) >>= fun v => pure (some v)) Q E s :=
    wpAny_bind (wpAny_mono h (fun v s' h' => wpAny_pure h') fun _ _ h' => h')
  split
  · exact wpAny_bind (wpAny_of_eq (F.cmp_object.ne.bind _) (wpAny_pure (by exact fin)))
  · exact wpAny_tryCatch (wpAny_bind (wpAny_of_eq (F.cmp_object.ne.bind _) (wpAny_pure (by exact fin))))
theorem call_objNe {Q : Value → Shared → Prop} (hu : A.in1.units < cLine) (X : K.In s.heap) (I : PySem.W.InstAt s.heap x ox C od) (hm : PySem.W.mroIn K C (.type "object") = some true)
    (hs : PySem.W.findIn K (.ref C) "__eq__" = some (some (.ref f))) (hf : PySem.W.isFn K (.ref f) = true)
    (h : wpAny (model prog w) A.in1 (call (.ref f) [.ref x, b]) (fun v s' => ∃ k, v = .bool k ∧ Q (.bool (!k)) s') E s) :
    wpAny (model prog w) A (call (.builtin "object.__ne__") [.ref x, b]) Q E s := by
  refine wpAny_call (codeAny_call_builtin F.cmp_object.ne.plain F.cmpEntry_ne (PySem.W.check_slot F.cmpKind_ne F.cmpSplit_ne (I.type.andThen (PySem.W.looks_mroIn X hm)) (F.cmpArgs_ne _ _) ?_))
  unfold Builtin.«object.__ne__»
  refine wpAny_bind (m := slotArgs "__ne__" 1 _) (wpAny_pure ?_)
  refine wpAny_bind (m := cRoomFor _ _) (wpAny_cRoomFor hu ?_)
  refine wpAny_bind (m := callSpecialIfBound? (.ref x) (Str.ofString "__eq__") _) (PySem.W.ifBound_K X I hs hf (wpAny_mono h (fun r s' hq => ?_) fun _ _ y => y))
  obtain ⟨k, rfl, hq⟩ := hq
  exact wpAny_bind (wpAny_truthy_bool (wpAny_pure hq))
/-- x != b by an own __eq__ that answers a bool -/
theorem cmp_ne_K {Q : Value → Shared → Prop} (hu : A.units < cLine) (hu1 : A.in1.units < cLine) (X : K.In s.heap) (I : PySem.W.InstAt s.heap x ox C od)
    (hb : PySem.W.Looks (model prog w) s.heap (typeOf b) tb) (hn : PySem.W.notFirst K C tb = true) (hm : PySem.W.mroIn K C (.type "object") = some true)
    (hne : PySem.W.findIn K (.ref C) "__ne__" = some (some (.builtin "object.__ne__"))) (hs : PySem.W.findIn K (.ref C) "__eq__" = some (some (.ref f))) (hf : PySem.W.isFn K (.ref f) = true)
    (h : wpAny (model prog w) A.in1 (call (.ref f) [.ref x, b]) (fun v s' => ∃ k, v = .bool k ∧ Q (.bool (!k)) s') E s) :
    wpAny (model prog w) A (richCompare .NotEq (.ref x) b) Q E s := by
  have one : wpAny (model prog w) A (tryCompare (.ref x) "__ne__" b) (fun r s' => ∃ v, r = some v ∧ Q v s') E s := by
    unfold tryCompare
    refine wpAny_bind (ifBound_objNe X I hne (call_objNe hu1 X I hm hs hf (wpAny_mono h (fun v s' hv => ?_) fun _ _ e => e)))
    obtain ⟨k, rfl, hq⟩ := hv
    exact ⟨k, rfl, wpAny_pure ⟨_, rfl, hq⟩⟩
  unfold richCompare
  simp only [oneThing_ref]
  refine wpAny_holding (wpAny_bind (wpAny_cRoomFor hu ?_))
  refine wpAny_bind (I.type.here (wpAny_bind (hb.here ?_)))
  split
  · rename_i q
    have e : PySem.W.subIn K tb (.ref C) = some false := by
      rcases Bool.or_eq_true_iff.mp hn with e | e
      · rw [beq_iff_eq.mp e] at q; simp at q
      · exact beq_iff_eq.mp e
    refine wpAny_bind ((PySem.W.looks_subIn X e).here ?_)
    simp only [Bool.false_eq_true, if_false]
    refine wpAny_bind (wpAny_mono one (fun r s' z => ?_) fun _ _ e => e)
    obtain ⟨v, rfl, hq⟩ := z
    exact wpAny_pure hq
  · refine wpAny_bind (wpAny_pure ?_)
    simp only [Bool.false_eq_true, if_false]
    refine wpAny_bind (wpAny_mono one (fun r s' z => ?_) fun _ _ e => e)
    obtain ⟨v, rfl, hq⟩ := z
    exact wpAny_pure hq
end

theorem cmpback {P : Value → Shared → Prop} {z : V} {v : Value} {s' : Shared} (r : RelV z v) (h : P v s') : PySem.W.CmpBack P v s' := by
  cases z with
  | non => cases (show v = Value.none from r); exact h
  | bl b => cases (show v = Value.bool b from r); exact h
  | int i => obtain ⟨t, e⟩ := (show ∃ t, v = Value.int i t from r); cases e; exact h
  | str x => obtain ⟨t, e⟩ := (show ∃ t, v = Value.str x t from r); cases e; exact h
  | byt b => obtain ⟨t, e⟩ := (show ∃ t, v = Value.bytes b t from r); cases e; exact h
  | flt b => obtain ⟨t, e⟩ := (show ∃ t, v = Value.float b t from r); cases e; exact h
  | ref a => cases (show v = Value.ref a from r); exact h
  | ty n => cases (show v = Value.type n from r); exact h

section
variable {X : Cx} {CX : CXT} {pins : List (Addr × Obj)} {σ : L2.St} {H : Hp} {s : Shared} {a C dx p g : Addr} {fs : List (Str × V)} {n : Nat} {sp : Sp} {E : XK}
theorem run_atR {A : Around} {Q : VK} {us : List Value} {ws : List V} (F : FnR X.prog X.w X.K X.mg X.base CX n g sp) (hr : Room n A) (e0 : Env0 X.prog X.w X.K X.mg X.base A X.stack s H) (hx : Passes CX X E)
    (I : Inv X pins σ H s) (r : Vals ws us) (h : sp ws H Q E) :
    codeAny (model X.prog X.w) A (.call (.ref g) ⟨us, []⟩) (fun r s' => match r with | .ok (.ret v) => EP X pins σ Q v s' | .ok _ => False | .error e => X.xe e s') s := by
  refine codeAny_mono (F A X.stack s H us ws Q E hr e0 r h) fun r s' hq => ?_
  cases r with
  | error e => exact hx pins σ H s e s' I hq
  | ok fl =>
    cases fl with
    | ret u => exact I.after hq
    | next => exact False.elim hq
    | brk => exact False.elim hq
    | cont => exact False.elim hq
/-- x == y, x an instance of C with an own __eq__ -/
def rOwnEq (K : PySem.W.Frag) (C : Addr) (sp : Sp) (E : XK) : R2 := fun x y H Q => ∃ (a dx : Addr) (fs : List (Str × V)) (t : Value), x = .ref a ∧ H a = some (.ins C dx fs) ∧ TyX K H y t ∧ PySem.W.notFirst K C t = true ∧ sp [x, y] H Q E
def rOwnNe (K : PySem.W.Frag) (C : Addr) (sp : Sp) (E : XK) : R2 := fun x y H Q => ∃ (a dx : Addr) (fs : List (Str × V)) (t : Value), x = .ref a ∧ H a = some (.ins C dx fs) ∧ TyX K H y t ∧ PySem.W.notFirst K C t = true ∧
  sp [x, y] H (fun v H' => ∃ k, v = .bl k ∧ Q (.bl (!k)) H') E
theorem op_ownEq (hs : PySem.W.findIn X.K (.ref C) "__eq__" = some (some (.ref g))) (hf : PySem.W.isFn X.K (.ref g) = true) (F : FnR X.prog X.w X.K X.mg X.base CX n g sp) (hr : Room n X.A) (hx : Passes CX X E) :
    OpR X (compareOp .Eq) (rOwnEq X.K C sp E) := by
  intro pins s σ H x y v u Q I rx ry h
  obtain ⟨a, dx, fs, t, rfl, ha, ty, hn, q⟩ := h
  cases (show v = Value.ref a from rx)
  obtain ⟨mA, O, _⟩ := ins_get I.hok ha
  obtain ⟨od, J, _⟩ := O.look
  obtain ⟨P, Z, hp, _⟩ := kit_of I ry ty
  obtain ⟨m, hF⟩ := I.fr
  show wpAny _ _ (richCompare .Eq (.ref a) u) _ _ _
  refine PySem.W.cmp_K (op := .Eq) (tb := t) hr.units0 hF I.ok.mod.kin J (Z.ty _ _ I.kIn hp) hn hs hf ?_
  refine wpAny_mono (wpAny_call (run_fnR (us := [.ref a, u]) (vs := [.ref a, y]) F hr hx I (.cons rfl (.cons ry .nil)) q)) (fun w s' z => ?_) fun _ _ x => x
  obtain ⟨z', H', I', rz, qz⟩ := z
  exact cmpback rz ⟨z', H', I', rz, qz⟩
theorem op_ownNe (hm : PySem.W.mroIn X.K C (.type "object") = some true) (hne : PySem.W.findIn X.K (.ref C) "__ne__" = some (some (.builtin "object.__ne__")))
    (hs : PySem.W.findIn X.K (.ref C) "__eq__" = some (some (.ref g))) (hf : PySem.W.isFn X.K (.ref g) = true) (F : FnR X.prog X.w X.K X.mg X.base CX n g sp) (hr : Room (n + 1) X.A) (hx : Passes CX X E) :
    OpR X (compareOp .NotEq) (rOwnNe X.K C sp E) := by
  intro pins s σ H x y v u Q I rx ry h
  obtain ⟨a, dx, fs, t, rfl, ha, ty, hn, q⟩ := h
  cases (show v = Value.ref a from rx)
  obtain ⟨mA, O, _⟩ := ins_get I.hok ha
  obtain ⟨od, J, _⟩ := O.look
  obtain ⟨P, Z, hp, _⟩ := kit_of I ry ty
  show wpAny _ _ (richCompare .NotEq (.ref a) u) _ _ _
  refine cmp_ne_K (tb := t) hr.units0 hr.in1.units0 I.kIn J (Z.ty _ _ I.kIn hp) hn hm hne hs hf ?_
  refine wpAny_mono (wpAny_call (run_atR (us := [.ref a, u]) (ws := [.ref a, y]) F hr.in1 I.env0.in1 hx I (.cons rfl (.cons ry .nil)) q)) (fun w s' z => ?_) fun _ _ x => x
  obtain ⟨z', H', I', rz, k, ek, qz⟩ := z
  subst ek
  exact ⟨k, rz, .bl (!k), H', I', rfl, qz⟩
/-- str(x) by an own __str__ -/
def rStrOwn (C : Addr) (sp : Sp) (E : XK) : List V → Hp → VK → Prop := fun xs H Q => ∃ (a dx : Addr) (fs : List (Str × V)), xs = [V.ref a] ∧ H a = some (.ins C dx fs) ∧ sp [.ref a] H (fun z H' => ∃ y, z = .str y ∧ Q z H') E
theorem call_strOwn (hs : PySem.W.findIn X.K (.ref C) "__str__" = some (some (.ref g))) (hf : PySem.W.isFn X.K (.ref g) = true) (F : FnR X.prog X.w X.K X.mg X.base CX n g sp) (hr : Room (n + 2) X.A) (hx : Passes CX X E) :
    CallR X (.type "str") (rStrOwn C sp E) := by
  intro pins s σ H xs us Q I r h
  obtain ⟨a, dx, fs, rfl, ha, q⟩ := h
  obtain ⟨u, rfl, ru⟩ := vals1 r
  cases (show u = Value.ref a from ru)
  obtain ⟨mA, O, _⟩ := ins_get I.hok ha
  obtain ⟨od, J, _⟩ := O.look
  have hr2 : Room n X.A.in1.in1 := (show Room (n + 1) X.A.in1 from Room.in1 hr).in1
  refine PySem.W.kso_call hr2.units0 I.kIn J hs hf (wpAny_mono (wpAny_call (run_atR (us := [.ref a]) (ws := [.ref a]) F hr2 I.env0.in1.in1 hx I (.cons rfl .nil) q)) (fun w s' z => ?_) fun _ _ x => x)
  obtain ⟨z', H', I', rz, y, ey, qz⟩ := z
  subst ey
  obtain ⟨t, e⟩ := (show ∃ t, w = Value.str y t from rz)
  cases e
  exact ⟨.str y, H', I', ⟨t, rfl⟩, qz⟩
end

/-- cls(..), the class at C in the i-th slot -/
def tMakeL (i : Nat) (C : Addr) (sp : Sp) (dvs : List V) (E : XK) (t : TA) : TE := fun σ H Q => σ[i]? = some (some (.ref C)) ∧ t σ H fun vs H1 => ∀ x dx, H1 x = none → H1 dx = none → dx ≠ x →
  sp (.ref x :: (vs ++ dvs)) (upd (upd H1 dx (.own x)) x (.ins C dx [])) (fun v H2 => v = .non ∧ Q (.ref x) H2) E
section
variable {X : Cx} {CX : CXT} {k i : Nat} {f C : Addr} {fd : FuncData} {ps : List Str} {sp : Sp} {dvs : List V} {ds : List Value} {E : XK} {x : Str} {p pos : Pos} {e : Expr} {es : List Expr} {t : TA}
theorem pe_makeL (M : Mk X.K C f) (F : FnOk X.prog X.w X.K X.mg X.base CX k f fd ps sp) (hr : Room (k + 1) X.A) (hN : X.N[i]? = some x) (hv : Vis X.env.scope x) (hb : Binds X.K fd ps ds) (hd : Vals dvs ds) (hx : Passes CX X E)
    (ha : PA X (e :: es) t) (hdb : (x == ("__debug__" : Str)) = false := by decide) (hcd : (x == ("__classdict__" : Str)) = false := by decide)
    (he : starEach (e :: es) X.env = (false, eval e X.env) :: starEach es X.env := by rfl) (hpl : (backTo pos (starEach es X.env)).any (·.1) = false := by rfl) :
    PE X (.Call (.Name x p) (e :: es) [] pos) (tMakeL i C sp dvs E t) := by
  refine ⟨fun pins s σ H Q I h => ?_⟩
  obtain ⟨hs, ht⟩ := h
  refine wpAny_Call_Name_kw (thn ((pe_var (pos := p) hN hv hdb hcd).run pins s σ H (fun v H1 => v = .ref C ∧ H1 = H) I ⟨.ref C, hs, rfl, rfl⟩) fun u s1 ⟨v, H1, I1, r1, q1⟩ => ?_)
  obtain ⟨rfl, rfl⟩ := q1
  cases r1
  refine PySem.W.callWith_K (h₀ := X.base) I.ok.mod.kin M.kp (thn (ha.run pos pins s1 σ _ _ I1 ht) fun us s2 ⟨vs, H2, I2, r, q⟩ => ⟨I2.kIn, ?_⟩) he hpl
  exact run_make M F hr hb hd hx I2 r q
end

/-! ### types of values, classes -/
def notRef : Value → Bool
  | .ref _ => false
  | _ => true
def noRefs (l : List Value) : Bool := l.all notRef
theorem noRefs_of {l : List Value} {C : Addr} (h : noRefs l = true) : l.contains (.ref C) = false := by
  induction l with
  | nil => rfl
  | cons v l ih =>
    unfold noRefs at h
    rw [List.all_cons, Bool.and_eq_true] at h
    have h2 : l.contains (.ref C) = false := ih h.2
    rw [List.contains_cons, h2, Bool.or_false]
    cases v with
    | ref a => exact absurd h.1 (by show ¬ (false = true); decide)
    | _ => rfl
theorem sub_ty {K : PySem.W.Frag} {T : String} {C : Addr} (h : (fastBuiltinMro T).any noRefs = true) : PySem.W.subIn K (.type T) (.ref C) = some false := by
  show (fastBuiltinMro T).map (·.contains (.ref C)) = some false
  cases e : fastBuiltinMro T with
  | none => rw [e] at h; cases h
  | some l =>
    rw [e] at h
    exact congrArg some (noRefs_of h)
theorem nf_ty {K : PySem.W.Frag} {T : String} {C : Addr} (h : (fastBuiltinMro T).any noRefs = true) : PySem.W.notFirst K C (.type T) = true := by
  unfold PySem.W.notFirst
  rw [sub_ty h]
  exact Bool.or_true _
theorem nf_own {K : PySem.W.Frag} {C : Addr} : PySem.W.notFirst K C (.ref C) = true := by
  unfold PySem.W.notFirst
  rw [beq_self_eq_true]
  exact Bool.true_or _
theorem mro_str : (fastBuiltinMro "str").any noRefs = true := by decide +kernel
theorem mro_int : (fastBuiltinMro "int").any noRefs = true := by decide +kernel
theorem mro_bool : (fastBuiltinMro "bool").any noRefs = true := by decide +kernel
theorem mro_none : (fastBuiltinMro "NoneType").any noRefs = true := by decide +kernel
theorem mro_tuple : (fastBuiltinMro "tuple").any noRefs = true := by decide +kernel
theorem mro_list : (fastBuiltinMro "list").any noRefs = true := by decide +kernel
/-- what of the text a class must have: its instances are read, compared, asked for their class -/
structure ClsT (K : PySem.W.Frag) (C : Addr) : Prop where
  cl : Cls K C
  ca : PySem.W.findIn K (.ref C) "__class__" = some (some (.builtin "object.__class__"))
  cn : PySem.W.specialIn K (.builtin "object.__class__") "__get__" = some (some (.builtin "getset_descriptor.__get__"))
  ct : PySem.W.takesIn K (.builtin "object.__class__") = some true
  cm : PySem.W.mroIn K C (.type "object") = some true
  isc : ((PySem.W.clsIn K C).isSome && PySem.W.typeIn K (.ref C) == some (.type "type")) = true
  ne : PySem.W.findIn K (.ref C) "__ne__" = some (some (.builtin "object.__ne__"))
theorem isc_mk {K : PySem.W.Frag} {C : Addr} (a : PySem.W.isClsIn K C = true) (b : PySem.W.typeIn K (.ref C) = some (.type "type")) : ((PySem.W.clsIn K C).isSome && PySem.W.typeIn K (.ref C) == some (.type "type")) = true := by
  rw [b, show (PySem.W.clsIn K C).isSome = true from a]
  rfl
theorem ClsT.ty {K : PySem.W.Frag} {C : Addr} (c : ClsT K C) {H : Hp} {a dx : Addr} {fs : List (Str × V)} (h : H a = some (.ins C dx fs)) : TyX K H (.ref a) (.ref C) := .base (.ins h c.cl c.ca c.cn c.ct c.cm)
theorem kit_own {K : PySem.W.Frag} {C : Addr} : PySem.W.kitOne K (.ref C) (.ref C) = some true := by
  unfold PySem.W.kitOne
  rw [beq_self_eq_true]
  exact if_pos rfl
theorem ClsT.kitTy {K : PySem.W.Frag} {C : Addr} (c : ClsT K C) {T : String} (h : (fastBuiltinMro T).any noRefs = true) : PySem.W.kitOne K (.type T) (.ref C) = some false := by
  unfold PySem.W.kitOne
  rw [if_neg (by show ¬ ((Value.type T == Value.ref C) = true); exact fun q => nomatch (beq_iff_eq.mp q))]
  show (if ((PySem.W.clsIn K C).isSome && PySem.W.typeIn K (.ref C) == some (.type "type")) = true then PySem.W.subIn K (.type T) (.ref C) else none) = some false
  rw [if_pos c.isc]
  exact sub_ty h

/-! ### heaps: all but one address stays -/
/-- what stood at another address than b stands -/
def But (b : Addr) (H H' : Hp) : Prop := ∀ q o, H q = some o → q ≠ b → H' q = some o
theorem But.refl {b : Addr} {H : Hp} : But b H H := fun _ _ h _ => h
theorem But.trans {b : Addr} {H H1 H2 : Hp} (x : But b H H1) (y : But b H1 H2) : But b H H2 := fun q o h n => y q o (x q o h n) n
theorem But.of {b : Addr} {H H' : Hp} (s : Same H H') : But b H H' := fun q o h _ => s q o h
theorem But.upd {b : Addr} {H : Hp} {o : HO} : But b H (upd H b o) := fun q u h n => by rw [upd_ne n]; exact h
theorem But.same {b : Addr} {H H' : Hp} (x : But b H H') (h : H b = none) : Same H H' := fun q o e => x q o e (ne_of_none e h)
theorem But.free {b q : Addr} {H H' : Hp} (x : But b H H') (n : q ≠ b) (h : H' q = none) : H q = none := by
  cases e : H q with
  | none => rfl
  | some o => rw [x q o e n] at h; cases h
theorem But.seq {K : PySem.W.Frag} {b a : Addr} {xs : List V} {H H' : Hp} (x : But b H H') (n : a ≠ b) (h : SqL K H a xs) : SqL K H' a xs := by
  rcases h with (h | ⟨o, h⟩) | h
  · exact .inl (.inl (x _ _ h n))
  · exact .inl (.inr ⟨o, x _ _ h n⟩)
  · exact .inr h
theorem Same.new {H : Hp} {p : Addr} {o : HO} (h : H p = none) : Same H (upd H p o) := fun q u e => by
  rw [upd_ne (ne_of_none e h)]; exact e
/-- a new instance is laid -/
theorem Same.make {H : Hp} {x dx C : Addr} {fs : List (Str × V)} (nx : H x = none) (nd : H dx = none) : Same H (L2.upd (L2.upd H dx (.own x)) x (.ins C dx fs)) := fun b o e => by
  rw [upd_ne (ne_of_none e nx), upd_ne (ne_of_none e nd)]; exact e
theorem two_upd {H : Hp} {a : Addr} {o u : HO} : L2.upd (L2.upd H a o) a u = L2.upd H a u := upd_upd

/-! ### attributes -/
theorem lk0 {f : Str} {v : V} {fs : List (Str × V)} : List.lookup f ((f, v) :: fs) = some v := by
  rw [List.lookup_cons]; simp
theorem lk1 {f g : Str} {v : V} {fs : List (Str × V)} (h : (f == g) = false) : List.lookup f ((g, v) :: fs) = List.lookup f fs := by
  rw [List.lookup_cons, h]
theorem pf0 {f : Str} {v : V} : putF f v [] = [(f, v)] := rfl
theorem pf1 {f g : Str} {v u : V} {fs : List (Str × V)} (h : ¬ g = f) : putF f v ((g, u) :: fs) = (g, u) :: putF f v fs := by
  show (if g = f then (g, v) :: fs else (g, u) :: putF f v fs) = _
  rw [if_neg h]

/-! ### readings by short names -/
abbrev rAddI : R2 := rI0 fun i j => .int (i + j)
abbrev rSubI : R2 := rI0 fun i j => .int (i - j)
abbrev rMulI : R2 := rI CMul fun i j => .int (i * j)
abbrev rFdivI : R2 := rI CDiv fun i j => .int (i / j)
abbrev rModI : R2 := rI (fun _ j => 0 < j) fun i j => .int (i % j)
abbrev rPowI : R2 := rI CPow fun i j => .int (i ^ j.toNat)
abbrev rLtI : R2 := rI0 fun i j => .bl (decide (i < j))
abbrev rLeI : R2 := rI0 fun i j => .bl (decide (i ≤ j))
abbrev rGtI : R2 := rI0 fun i j => .bl (decide (j < i))
abbrev rGeI : R2 := rI0 fun i j => .bl (decide (j ≤ i))
abbrev rNegI : V → Hp → VK → Prop := rU fun i => .int (-i)
abbrev rAddS : R2 := fun x y H Q => ∃ i j, x = .str i ∧ y = .str j ∧ i.length + j.length ≤ sizeLine ∧ Q (.str (i ++ j)) H
abbrev rIsNn : R2 := fun x y H Q => y = .non ∧ Q (.bl (decide (x = .non))) H
abbrev rNotNn : R2 := fun x y H Q => y = .non ∧ Q (.bl (!decide (x = .non))) H
abbrev rLenSq (K : PySem.W.Frag) : List V → Hp → VK → Prop := fun xs H Q => ∃ p ys, xs = [.ref p] ∧ (SqL K H p ys ∨ SqT K H p ys) ∧ Q (.int ys.length) H
abbrev rStrI : List V → Hp → VK → Prop := fun xs H Q => ∃ i, xs = [.int i] ∧ i.natAbs.log2 < 1920 ∧ Q (.str (toString i)) H

/-! ### new objects, by what is true of the heap behind them -/
section
variable {X : Cx} {e : Expr} {es : List Expr} {t t' : TE} {ta : TA} {pos : Pos}
theorem PE.weak (h : PE X e t) (k : ∀ σ H Q, t' σ H Q → t σ H Q) : PE X e t' := ⟨fun pins s σ H Q I q => h.run pins s σ H Q I (k σ H Q q)⟩
def tTupS (t : TA) : TE := fun σ H Q => t σ H fun xs H1 => xs.length ≤ sizeLine ∧ ∀ p H', H1 p = none → Same H1 H' → H' p = some (.tup xs) → Q (.ref p) H'
def tLstS (t : TA) : TE := fun σ H Q => t σ H fun xs H1 => xs.length ≤ sizeLine ∧ ∀ p H', H1 p = none → Same H1 H' → H' p = some (.lst xs) → Q (.ref p) H'
theorem pe_tupS {x1} (h : PA X es ta) : PE X (.Tuple es x1 pos) (tTupS ta) := by
  refine ⟨fun pins s σ H Q I hq => ?_⟩
  refine wpAny_Tuple_spliced (thn (h.run pos pins s σ H _ I hq) fun us s1 ⟨xs, H1, I1, r, z, q⟩ => ⟨by rw [← r.length]; exact z, ?_⟩)
  have hf : H1 s1.heap.objs.size = none := I1.hok.fresh (Nat.le_refl _)
  refine ⟨.ref s1.heap.objs.size, L2.upd H1 s1.heap.objs.size (.tup xs), I1.laid (t' := s1.toks) (fun b u e => Heap.get?_push_of_some _ e) (Nat.le_refl _) ?_, rfl, q _ _ hf (Same.new hf) upd_same⟩
  exact ⟨z, us, r, ⟨_, Heap.get?_push_size _ rfl, rfl, _, rfl⟩⟩
theorem pe_lstS (h : PA X es ta) : PE X (.List es pos) (tLstS ta) := by
  refine ⟨fun pins s σ H Q I hq => ?_⟩
  refine wpAny_List_spliced (thn (h.run pos pins s σ H _ I hq) fun us s1 ⟨xs, H1, I1, r, z, q⟩ => ⟨by rw [← r.length]; exact z, ?_⟩)
  have hf : H1 s1.heap.objs.size = none := I1.hok.fresh (Nat.le_refl _)
  refine ⟨.ref s1.heap.objs.size, L2.upd H1 s1.heap.objs.size (.lst xs), I1.laid (t' := s1.toks) (fun b u e => Heap.get?_push_of_some _ e) (Nat.le_refl _) ?_, rfl, q _ _ hf (Same.new hf) upd_same⟩
  exact ⟨z, us, 0, r, Heap.get?_push_size _ rfl⟩
def rCatS : R2 := fun x y H Q => ∃ l b xs zs, x = .ref l ∧ y = .ref b ∧ H l = some (.lst xs) ∧ H b = some (.lst zs) ∧ xs.length + zs.length ≤ sizeLine ∧ ∀ p H', H p = none → Same H H' → H' p = some (.lst (xs ++ zs)) → Q (.ref p) H'
theorem op_catS : OpR X (binaryOp .Add) rCatS := by
  intro pins s σ H x y v u Q I rx ry h
  obtain ⟨l, b, xs, zs, h1, h2, h3, h4, h5, h6⟩ := h
  exact op_cat pins s σ H x y v u Q I rx ry ⟨l, b, xs, zs, h1, h2, h3, h4, h5, fun p hp => h6 p _ hp (Same.new hp) upd_same⟩
def rSlLS (K : PySem.W.Frag) : V → Option Int → Option Int → Hp → VK → Prop := fun x lo hi H Q => ∃ a xs, x = .ref a ∧ SqL K H a xs ∧ ∀ p H', H p = none → Same H H' → H' p = some (.lst (cutV xs lo hi)) → Q (.ref p) H'
theorem sl_listS : SlR X (rSlLS X.K) := by
  intro pins s σ H x v vl vu lo hi sl Q I rx hs pl pu h
  obtain ⟨a, xs, h1, h2, h3⟩ := h
  exact sl_list pins s σ H x v vl vu lo hi sl Q I rx hs pl pu ⟨a, xs, h1, h2, fun p hp => h3 p _ hp (Same.new hp) upd_same⟩
def rListOfS (K : PySem.W.Frag) : List V → Hp → VK → Prop := fun xs H Q => ∃ p ys, xs = [.ref p] ∧ (SqL K H p ys ∨ SqT K H p ys) ∧ ∀ l H', H l = none → Same H H' → H' l = some (.lst ys) → Q (.ref l) H'
theorem call_list_ofS : CallR X (.type "list") (rListOfS X.K) := by
  intro pins s σ H xs us Q I r h
  obtain ⟨p, ys, h1, h2, h3⟩ := h
  exact call_list_of pins s σ H xs us Q I r ⟨p, ys, h1, h2, fun l hl => h3 l _ hl (Same.new hl) upd_same⟩
end
/-- a new object at x, whatever its attributes: what stood before stands -/
theorem made_same {H H' : Hp} {x dx C : Addr} {fs : List (Str × V)} (nx : H x = none) (nd : H dx = none) (b : But x (L2.upd (L2.upd H dx (.own x)) x (.ins C dx fs)) H') : Same H H' := fun q o e =>
  b q o (by rw [upd_ne (ne_of_none e nx), upd_ne (ne_of_none e nd)]; exact e) (ne_of_none e nx)
end Lf

set_option Elab.async false
set_option linter.all false
set_option maxRecDepth 100000
set_option maxHeartbeats 4000000
/-! len, in, subscripts and slices by own methods; count of tuples. -/
namespace Lf
open PySem PySem.Spec PyProof.Rows L2
section
variable {X : Cx} {CX : CXT} {pins : List (Addr × Obj)} {σ : L2.St} {H : Hp} {s : Shared} {C g : Addr} {n : Nat} {sp : Sp} {E : XK}
/-- len(x) by an own __len__ -/
def rLenOwn (C : Addr) (sp : Sp) (E : XK) : List V → Hp → VK → Prop := fun xs H Q => ∃ (a dx : Addr) (fs : List (Str × V)), xs = [V.ref a] ∧ H a = some (.ins C dx fs) ∧ sp [.ref a] H (fun z H' => ∃ i : Int, z = .int i ∧ 0 ≤ i ∧ i < 2 ^ 63 ∧ Q z H') E
theorem call_lenOwn (hs : PySem.W.findIn X.K (.ref C) "__len__" = some (some (.ref g))) (hf : PySem.W.isFn X.K (.ref g) = true) (F : FnR X.prog X.w X.K X.mg X.base CX n g sp) (hr : Room (n + 1) X.A) (hx : Passes CX X E) :
    CallR X (.builtin "len") (rLenOwn C sp E) := by
  intro pins s σ H xs us Q I r h
  obtain ⟨a, dx, fs, rfl, ha, q⟩ := h
  obtain ⟨u, rfl, ru⟩ := vals1 r
  cases (show u = Value.ref a from ru)
  obtain ⟨mA, O, _⟩ := ins_get I.hok ha
  obtain ⟨od, J, _⟩ := O.look
  obtain ⟨m, hF⟩ := I.fr
  refine PySem.W.len_K hF I.ok.mod.kin J hs hf (wpAny_mono (wpAny_call (run_atR (us := [.ref a]) (ws := [.ref a]) F hr.in1 I.env0.in1 hx I (.cons rfl .nil) q)) (fun w s' z => ?_) fun _ _ x => x)
  obtain ⟨z', H', I', rz, i, ei, i0, i1, qz⟩ := z
  subst ei
  obtain ⟨t, e⟩ := (show ∃ t, w = Value.int i t from rz)
  cases e
  exact ⟨⟨i0, i1⟩, .int i, H', I'.tok _, ⟨_, rfl⟩, qz⟩
/-- v in x by an own __contains__ that answers a bool -/
def rInOwn (C : Addr) (sp : Sp) (E : XK) (neg : Bool) : R2 := fun x y H Q => ∃ (a dx : Addr) (fs : List (Str × V)), y = .ref a ∧ H a = some (.ins C dx fs) ∧ sp [y, x] H (fun z H' => ∃ b, z = .bl b ∧ Q (.bl (if neg then !b else b)) H') E
theorem op_inOwn (hs : PySem.W.findIn X.K (.ref C) "__contains__" = some (some (.ref g))) (hf : PySem.W.isFn X.K (.ref g) = true) (F : FnR X.prog X.w X.K X.mg X.base CX n g sp) (hr : Room n X.A) (hx : Passes CX X E) :
    OpR X (compareOp .In) (rInOwn C sp E false) := by
  intro pins s σ H x y v u Q I rx ry h
  obtain ⟨a, dx, fs, rfl, ha, q⟩ := h
  cases (show u = Value.ref a from ry)
  obtain ⟨mA, O, _⟩ := ins_get I.hok ha
  obtain ⟨od, J, _⟩ := O.look
  obtain ⟨m, hF⟩ := I.fr
  refine PySem.W.in_K hF I.ok.mod.kin J hs hf (wpAny_mono (wpAny_call (run_fnR (us := [.ref a, v]) (vs := [.ref a, x]) F hr hx I (.cons rfl (.cons rx .nil)) q)) (fun w s' z => ?_) fun _ _ x => x)
  obtain ⟨z', H', I', rz, b, eb, qz⟩ := z
  subst eb
  cases (show w = Value.bool b from rz)
  exact wpAny_truthy_bool ⟨.bl b, H', I', rfl, qz⟩
theorem op_notInOwn (hs : PySem.W.findIn X.K (.ref C) "__contains__" = some (some (.ref g))) (hf : PySem.W.isFn X.K (.ref g) = true) (F : FnR X.prog X.w X.K X.mg X.base CX n g sp) (hr : Room n X.A) (hx : Passes CX X E) :
    OpR X (compareOp .NotIn) (rInOwn C sp E true) := by
  intro pins s σ H x y v u Q I rx ry h
  obtain ⟨a, dx, fs, rfl, ha, q⟩ := h
  cases (show u = Value.ref a from ry)
  obtain ⟨mA, O, _⟩ := ins_get I.hok ha
  obtain ⟨od, J, _⟩ := O.look
  obtain ⟨m, hF⟩ := I.fr
  refine PySem.W.notIn_K hF I.ok.mod.kin J hs hf (wpAny_mono (wpAny_call (run_fnR (us := [.ref a, v]) (vs := [.ref a, x]) F hr hx I (.cons rfl (.cons rx .nil)) q)) (fun w s' z => ?_) fun _ _ x => x)
  obtain ⟨z', H', I', rz, b, eb, qz⟩ := z
  subst eb
  cases (show w = Value.bool b from rz)
  exact wpAny_truthy_bool ⟨.bl (!b), H', I', rfl, qz⟩
/-! ### subscripts -/
/-- x[i] by an own __getitem__ -/
def rIxOwn (C : Addr) (sp : Sp) (E : XK) : R2 := fun x y H Q => ∃ (a dx : Addr) (fs : List (Str × V)), x = .ref a ∧ H a = some (.ins C dx fs) ∧ sp [x, y] H Q E
theorem pe_ixOwn {a b : Expr} {ta tb : TE} {pos : Pos} (hs : PySem.W.findIn X.K (.ref C) "__getitem__" = some (some (.ref g))) (hfi : PySem.W.fnIn X.K g = true) (hf : PySem.W.isFn X.K (.ref g) = true)
    (F : FnR X.prog X.w X.K X.mg X.base CX n g sp) (hr : Room (n + 1) X.A) (hx : Passes CX X E) (ha : PE X a ta) (hb : PE X b tb)
    (hsl : ∀ (x : Addr) (i : Value), subscripted b true (.ref x) i = runValue (.builtin "lifetime.subscript" ⟨[.ref x, i], []⟩)) : PE X (.Subscript a b pos) (tOp (rIxOwn C sp E) ta tb) := by
  refine ⟨fun pins s σ H Q I h => ?_⟩
  refine Subscript_ (binT ha hb I h fun v u s2 x y H2 I2 rx ry q => ?_)
  obtain ⟨p, dx, fs, rfl, hp, q⟩ := q
  cases (show v = Value.ref p from rx)
  obtain ⟨mA, O, _⟩ := ins_get I2.hok hp
  obtain ⟨od, J, _⟩ := O.look
  obtain ⟨m, hF⟩ := I2.fr
  exact PySem.W.sub_K hF I2.ok.mod.kin J hs hfi hf (wpAny_mono (wpAny_call (run_atR (us := [.ref p, u]) (ws := [.ref p, y]) F hr.in1 I2.env0.in1 hx I2 (.cons rfl (.cons ry .nil)) q)) (fun _ _ z => z) fun _ _ x => x) (hsl p u)
/-- a slice object -/
def SliceO (sl : Addr) (lo hi : Option Int) : HO := .ext fun h => ∃ vl vu, h.IsSliceOf sl vl vu .none ∧ IsPart vl lo ∧ IsPart vu hi
def tSlOwn (C : Addr) (sp : Sp) (E : XK) (te : TE) (tl th : TO) : TE := fun σ H Q => te σ H fun x H1 => tl σ H1 fun l H2 => th σ H2 fun u H3 => ∃ (a dx : Addr) (fs : List (Str × V)), x = .ref a ∧ H3 a = some (.ins C dx fs) ∧
  ∀ p H', H3 p = none → Same H3 H' → H' p = some (SliceO p l u) → sp [x, .ref p] H' Q E
theorem sub_sliceK {prog : Program} {w : World} {A : Around} {E : Value → Shared → Prop} {s : Shared} {K : PySem.W.Frag} {x C L f : Addr} {h₀ : Heap} {m : Str → Option Value} {ox : Obj} {od : Option Obj} {value : Expr} {lo hi : Option Expr} {p2 : Pos} {i : Value} {Q : Value → Shared → Prop} (F : Fr h₀ L s.heap m) (X₀ : K.In h₀) (I : PySem.W.InstAt s.heap x ox C od)
    (hq : PySem.W.noSeq K C = true) (hs : PySem.W.findIn K (.ref C) "__getitem__" = some (some (.ref f))) (hf : PySem.W.fnIn K f = true) (hfn : PySem.W.isFn K (.ref f) = true)
    (h : wpAny (model prog w) A (call (.ref f) [.ref x, i]) Q E s) : wpAny (model prog w) A (subscriptTail value (.Slice lo hi none p2) (.ref x) i) Q E s := by
  have X := X₀.keeps F.keep
  unfold PySem.W.fnIn at hf
  split at hf
  · rename_i e
    unfold subscriptTail getitemInPython
    refine wpAny_bind (wpAny_bind (wpAny_bind (I.type.here ((PySem.W.looks_findIn X hs).here ?_))))
    dsimp only
    refine wpAny_bind (wpAny_load (X _ _ e) (wpAny_pure ?_))
    dsimp only
    show wpAny (model prog w) A (operate [i, .ref x] (getItem (.ref x) i) >>= _) Q E s
    refine wpAny_bind (wpAny_operateT (PySem.W.getItem_K F X₀ I hq hs hfn (wpAny_mono h (fun v s' z => ?_) fun _ _ z => z)))
    exact wpAny_bind (wpAny_letTemporaryGo (wpAny_pure z))
  · cases hf
theorem pe_sliceOwn {e : Expr} {te : TE} {lo hi : Option Expr} {tl th : TO} {pos p2 : Pos} (hq : PySem.W.noSeq X.K C = true) (hs : PySem.W.findIn X.K (.ref C) "__getitem__" = some (some (.ref g))) (hfi : PySem.W.fnIn X.K g = true) (hf : PySem.W.isFn X.K (.ref g) = true)
    (F : FnR X.prog X.w X.K X.mg X.base CX n g sp) (hr : Room n X.A) (hx : Passes CX X E) (he : PE X e te) (hl : PO X lo tl) (hu : PO X hi th) :
    PE X (.Subscript e (.Slice lo hi none p2) pos) (tSlOwn C sp E te tl th) := by
  refine ⟨fun pins s σ H Q I h => ?_⟩
  refine Subscript_ (thn (he.run pins s σ H _ I h) fun v s1 ⟨x, H1, I1, r1, q1⟩ => ?_)
  refine wpAny_Slice (thn (hl.run pins s1 σ H1 _ I1 q1) fun vl s2 ⟨l, H2, I2, pl, q2⟩ => thn (hu.run pins s2 σ H2 _ I2 q2) fun vu s3 ⟨u, H3, I3, pu, q3⟩ => ?_)
  rw [evalPart_none]
  refine wpAny_pure ?_
  have hn : H3 s3.heap.objs.size = none := I3.hok.fresh (Nat.le_refl _)
  have kp : ∀ b ob, s3.heap.get? b = some ob → (s3.heap.push { cls := .type "slice", data := .fields #[vl, vu, .none] }).get? b = some ob := fun b ob q => Heap.get?_push_of_some _ q
  have new : ObjOk X.prog X.w (L2.upd H3 s3.heap.objs.size (SliceO s3.heap.objs.size l u)) (s3.heap.push { cls := .type "slice", data := .fields #[vl, vu, .none] }) s3.heap.objs.size (SliceO s3.heap.objs.size l u) := by
    refine ⟨⟨vl, vu, Heap.IsSliceOf.new .., pl, pu⟩, ⟨_, Heap.get?_push_size _ rfl⟩, fun h1 h2 z k => ?_⟩
    obtain ⟨a1, a2, ⟨o, z1, z2⟩, z3⟩ := z
    exact ⟨a1, a2, ⟨o, k o z1, z2⟩, z3⟩
  have I4 := I3.laid (t' := s3.toks) kp (Nat.le_refl _) new
  obtain ⟨p, dx, fs, rfl, hp, q⟩ := q3
  cases (show v = Value.ref p from r1)
  have hp4 := Same.new (o := SliceO s3.heap.objs.size l u) hn p _ hp
  obtain ⟨mA, O, _⟩ := ins_get I4.hok hp4
  obtain ⟨od, J, _⟩ := O.look
  obtain ⟨m, hF⟩ := I4.fr
  show wpAny (model X.prog X.w) X.A (subscriptTail e (.Slice lo hi none p2) (.ref p) (.ref s3.heap.objs.size)) (EP X pins σ Q) X.xe { s3 with heap := s3.heap.push { cls := .type "slice", data := .fields #[vl, vu, .none] } }
  refine sub_sliceK hF I4.ok.mod.kin J hq hs hfi hf ?_
  exact wpAny_mono (wpAny_call (run_fnR (us := [.ref p, .ref s3.heap.objs.size]) (vs := [.ref p, .ref s3.heap.objs.size]) F hr hx I4 (.cons rfl (.cons rfl .nil)) (q _ _ hn (Same.new hn) upd_same))) (fun _ _ z => z) fun _ _ x => x
/-- t[i], t a tuple, i an int or a slice object -/
def rIxTS (K : PySem.W.Frag) : R2 := fun x y H Q => rIxT K x y H Q ∨ ∃ (sl : Addr) (lo hi : Option Int), y = .ref sl ∧ H sl = some (SliceO sl lo hi) ∧ rSlA K x lo hi H Q
theorem ix_tupS : IxR X (rIxTS X.K) := by
  intro value slice pins s σ H x y v u Q I rx ry h hs
  rcases h with h | ⟨sl, lo, hi, rfl, hsl, q⟩
  · exact ix_tup value slice pins s σ H x y v u Q I rx ry h hs
  · cases (show u = Value.ref sl from ry)
    obtain ⟨⟨vl, vu, z1, z2, z3⟩, _⟩ := (show ObjOk X.prog X.w H s.heap sl (SliceO sl lo hi) from I.hok sl _ hsl)
    obtain ⟨T, id, hT, ht, hg⟩ := sl_tupA pins s σ H x v vl vu lo hi sl Q I rx z1 z2 z3 q
    exact tail_any (ops := [v, .ref sl]) ht hT hg hs
/-! ### tuples of which the object is known: their methods -/
/-- a tuple of xs at a, of the built-in class itself -/
def TupD (H : Hp) (a : Addr) (xs : List V) : Prop := ∃ o : Obj, H a = some (.frz o (.tup xs)) ∧ o.dict = none ∧ o.cls = .type "tuple"
theorem TupD.keep {H H' : Hp} {a : Addr} {xs : List V} (h : TupD H a xs) (s : Same H H') : TupD H' a xs := by
  obtain ⟨o, h1, h2⟩ := h
  exact ⟨o, s _ _ h1, h2⟩
theorem TupD.but {H H' : Hp} {a b : Addr} {xs : List V} (h : TupD H a xs) (s : But b H H') (n : a ≠ b) : TupD H' a xs := by
  obtain ⟨o, h1, h2⟩ := h
  exact ⟨o, s _ _ h1 n, h2⟩
theorem TupD.ne {H : Hp} {a b : Addr} {xs : List V} (h : TupD H a xs) (n : H b = none) : a ≠ b := by
  obtain ⟨o, h1, h2⟩ := h
  exact ne_of_none h1 n
theorem TupD.seq {K : PySem.W.Frag} {H : Hp} {a : Addr} {xs : List V} (h : TupD H a xs) : SqT K H a xs := by
  obtain ⟨o, h1, _⟩ := h
  exact .inl (.inr ⟨o, h1⟩)
theorem TupD.ty {K : PySem.W.Frag} {H : Hp} {a : Addr} {xs : List V} (h : TupD H a xs) : TyX K H (.ref a) (.type "tuple") := by
  obtain ⟨o, h1, _⟩ := h
  exact .fTuple h1
/-- tuple(list): a new one, known -/
def rTupleD (K : PySem.W.Frag) : List V → Hp → VK → Prop := fun xs H Q => ∃ p ys, xs = [.ref p] ∧ SqL K H p ys ∧ ∀ l H', H l = none → Same H H' → TupD H' l ys → Q (.ref l) H'
theorem call_tupleD : CallR X (.type "tuple") (rTupleD X.K) := by
  intro pins s σ H xs us Q I r h
  obtain ⟨p, ys, rfl, hq, q⟩ := h
  obtain ⟨u, rfl, rx⟩ := vals1 r
  cases rx
  obtain ⟨its, r', pl, hz⟩ := I.list hq
  have hlen := r'.length
  refine call_tuple_list pl.isList (fun h' kp => ?_) (by simp only [List.size_toArray] <;> omega)
  have I1 : L2.Inv X pins σ H { s with heap := h' } := I.kept (t' := s.toks) kp
  have hn := I1.hok.fresh (Nat.le_refl h'.objs.size)
  have I2 : L2.Inv X pins σ (L2.upd H h'.objs.size (.frz { cls := .type "tuple", data := .seq its.toArray } (.tup ys))) { s with heap := h'.push { cls := .type "tuple", data := .seq its.toArray } } :=
    I1.laid (t' := s.toks) (fun b o e => Heap.get?_push_of_some _ e) (Nat.le_refl _) (show ObjOk X.prog X.w _ _ _ (.frz _ (.tup ys)) from ⟨Heap.get?_push_size _ rfl, hz, its, r', IsTup.new _ _⟩)
  exact ⟨.ref h'.objs.size, _, I2, rfl, q _ _ hn (Same.new hn) ⟨_, upd_same, rfl, rfl⟩⟩
/-- a method of such a tuple -/
def tBMT (r : V → List V → Hp → VK → Prop) (to : TE) (t : TA) : TE := fun σ H Q => to σ H fun x H1 => (∃ p xs, x = .ref p ∧ TupD H1 p xs) ∧ t σ H1 fun xs H2 => r x xs H2 Q
theorem pe_bmT {o e : Expr} {es : List Expr} {to : TE} {t : TA} {name : Str} {apos cpos : Pos} {id : String} {r : V → List V → Hp → VK → Prop} (pa : PlainAttrs "tuple") (slot : Slot "tuple" name id) (hty : typeOf (.builtin id) = pure (.type "method_descriptor")) (hm : MtR X id r) (ho : PE X o to) (ha : PA X (e :: es) t)
    (hbase : attributeBase o name X.env (eval o X.env) = eval o X.env := by rfl)
    (hfew : ((backTo cpos (starEach (e :: es) X.env)).all (fun x => !x.1) && (backToKw cpos (keywordEach [] X.env)).all (fun x => x.1.isSome)
      && decide ((e :: es).length + ([] : List Keyword).length + (if ([] : List Keyword).isEmpty then 0 else 1) < 30)) = true := by rfl)
    (hline : (apos.endLine == cpos.line) = true := by rfl) (hs : starEach (e :: es) X.env = (false, eval e X.env) :: starEach es X.env := by rfl) (hplain : (backTo cpos (starEach es X.env)).any (·.1) = false := by rfl) :
    PE X (.Call (.Attribute o name apos) (e :: es) [] cpos) (tBMT r to t) := by
  refine ⟨fun pins s σ H Q I h => ?_⟩
  refine wpAny_Call_method_late hbase hfew hline rfl (thn (ho.run pins s σ H _ I h) fun v s1 ⟨x, H1, I1, r1, ty, q1⟩ => ?_)
  obtain ⟨p, xs, rfl, ob, hp, hd, hc⟩ := ty
  cases (show v = Value.ref p from r1)
  obtain ⟨hg, _⟩ := (show ObjOk X.prog X.w H1 s1.heap p (.frz ob (.tup xs)) from I1.hok p _ hp)
  refine ⟨"tuple", id, pa, slot, hty, ⟨ob, hg, hc⟩, fun b eb => by cases eb; exact ⟨ob, hg, hd⟩, ?_⟩
  have hA := ha.run cpos pins s1 σ H1 _ I1 q1
  rw [hs] at hA ⊢
  refine Calls.callWith_builtin (by show (false || (backTo cpos (starEach es X.env)).any (·.1)) = false; rw [hplain] <;> rfl) (Calls.evalArgs_plain ?_)
  exact thn hA fun us s2 ⟨vs, H2, I2, r2, q2⟩ => hm pins s2 σ H2 (.ref p) vs (.ref p) us Q I2 rfl r2 q2
def rCntT (K : PySem.W.Frag) : V → List V → Hp → VK → Prop := fun x xs H Q => ∃ (p : Addr) (ns : List Int) (k : Int), x = .ref p ∧ xs = [.int k] ∧ SqT K H p (ns.map V.int) ∧ Q (.int (ns.count k : Nat)) H
theorem mt_tcount : MtR X "tuple.count" (rCntT X.K) := by
  intro pins s σ H x xs v us Q I rx rxs h
  obtain ⟨p, ns, k, rfl, rfl, hs, q⟩ := h
  cases rx
  obtain ⟨u, rfl, ru⟩ := vals1 rxs
  obtain ⟨t, rfl⟩ := ru
  obtain ⟨its, rv, ⟨⟨cls, dd, data, sl⟩, ho, hc, n, hd⟩, hlen⟩ := I.tuple hs
  simp only at hc hd
  subst hc hd
  have hi := ints_of_vals rv
  refine call_meets PySem.F.slot_tuple_count ⟨_, ho, rfl⟩ PySem.F.entry_tuple_count (PySem.F.args_tuple_count_2 _ _)
    (SeqAt.tuple_countAt p its.toArray n dd sl (.int k t) (eqk k)) ⟨ho, fun y hy => (eqk_gives hi y (by simpa using hy)).at _ _, ?_⟩
  have ec : its.toArray.toList.countP (eqk k) = ns.count k := eqk_count hi
  refine ⟨.int (ns.count k : Nat), H, I.tok _, ⟨s.toks, ?_⟩, q⟩
  show Value.int ((its.toArray.toList.countP (eqk k) : Nat) : Int) s.toks = Value.int ((ns.count k : Nat) : Int) s.toks
  rw [ec]
end
/-! ### data: lists and tuples of ints compared -/
theorem dp_ints {K : PySem.W.Frag} {H : Hp} : ∀ ns : List Int, DpAll K H (ns.map V.int) (ns.map PyData.int)
  | [] => .nil
  | n :: ns => .cons (.int n) (dp_ints ns)
theorem eqv_ints : ∀ ns ms : List Int, PyData.eqvAll (ns.map PyData.int) (ms.map PyData.int) = decide (ns = ms)
  | [], [] => rfl
  | [], m :: ms => by rw [decide_eq_false (by simp)]; rfl
  | n :: ns, [] => by rw [decide_eq_false (by simp)]; rfl
  | n :: ns, m :: ms => by
    show (n == m && PyData.eqvAll (ns.map PyData.int) (ms.map PyData.int)) = decide (n :: ns = m :: ms)
    rw [eqv_ints ns ms]
    by_cases h1 : n = m
    · by_cases h2 : ns = ms
      · rw [h1, h2]; simp
      · rw [h1]; simp [h2]
    · simp [h1]
theorem lay_ints : ∀ ns : List Int, PyData.canLayAll0 (ns.map PyData.int) = true
  | [] => by simp only [List.map_nil, PyData.canLayAll0]
  | n :: ns => by simp only [List.map_cons, PyData.canLayAll0, PyData.canLay0, lay_ints ns, Bool.and_self]
theorem deep_ints : ∀ ns : List Int, PyData.depthAll (ns.map PyData.int) = 0
  | [] => by simp only [List.map_nil, PyData.depthAll]
  | n :: ns => by simp only [List.map_cons, PyData.depthAll, PyData.depth, deep_ints ns, Nat.max_self]
theorem shaped_intsL (ns : List Int) : SeqAt.shaped (.list (ns.map PyData.int)) = true := by
  unfold SeqAt.shaped
  simp only [PyData.canLay0, lay_ints, PyData.depth, deep_ints]
  decide
theorem shaped_intsT (ns : List Int) : SeqAt.shaped (.tuple (ns.map PyData.int)) = true := by
  unfold SeqAt.shaped
  simp only [PyData.canLay0, lay_ints, PyData.depth, deep_ints]
  decide
section
variable {X : Cx}
def rEqIL (K : PySem.W.Frag) : R2 := fun x y H Q => ∃ (p q : Addr) (ns ms : List Int), x = .ref p ∧ y = .ref q ∧ SqL K H p (ns.map V.int) ∧ SqL K H q (ms.map V.int) ∧ Q (.bl (decide (ns = ms))) H
def rNeIL (K : PySem.W.Frag) : R2 := fun x y H Q => ∃ (p q : Addr) (ns ms : List Int), x = .ref p ∧ y = .ref q ∧ SqL K H p (ns.map V.int) ∧ SqL K H q (ms.map V.int) ∧ Q (.bl (!decide (ns = ms))) H
def rEqIT (K : PySem.W.Frag) : R2 := fun x y H Q => ∃ (p q : Addr) (ns ms : List Int), x = .ref p ∧ y = .ref q ∧ SqT K H p (ns.map V.int) ∧ SqT K H q (ms.map V.int) ∧ Q (.bl (decide (ns = ms))) H
def rNeIT (K : PySem.W.Frag) : R2 := fun x y H Q => ∃ (p q : Addr) (ns ms : List Int), x = .ref p ∧ y = .ref q ∧ SqT K H p (ns.map V.int) ∧ SqT K H q (ms.map V.int) ∧ Q (.bl (!decide (ns = ms))) H
theorem op_eqIL (hu : X.A.units + 64 < cLine) : OpR X (compareOp .Eq) (rEqIL X.K) := by
  intro pins s σ H x y v u Q I rx ry h
  obtain ⟨p, q, ns, ms, rfl, rfl, h1, h2, h3⟩ := h
  refine op_eqD hu pins s σ H _ _ v u Q I rx ry ⟨_, _, .lst h1 (dp_ints ns), .lst h2 (dp_ints ms), shaped_intsL ns, shaped_intsL ms, ?_⟩
  show Q (.bl (PyData.eqvAll (ns.map PyData.int) (ms.map PyData.int))) H
  rw [eqv_ints]
  exact h3
theorem op_neIL (hu : X.A.units + 64 < cLine) : OpR X (compareOp .NotEq) (rNeIL X.K) := by
  intro pins s σ H x y v u Q I rx ry h
  obtain ⟨p, q, ns, ms, rfl, rfl, h1, h2, h3⟩ := h
  refine op_neD hu pins s σ H _ _ v u Q I rx ry ⟨_, _, .lst h1 (dp_ints ns), .lst h2 (dp_ints ms), shaped_intsL ns, shaped_intsL ms, ?_⟩
  show Q (.bl (!PyData.eqvAll (ns.map PyData.int) (ms.map PyData.int))) H
  rw [eqv_ints]
  exact h3
theorem op_eqIT (hu : X.A.units + 64 < cLine) : OpR X (compareOp .Eq) (rEqIT X.K) := by
  intro pins s σ H x y v u Q I rx ry h
  obtain ⟨p, q, ns, ms, rfl, rfl, h1, h2, h3⟩ := h
  refine op_eqD hu pins s σ H _ _ v u Q I rx ry ⟨_, _, .tup h1 (dp_ints ns), .tup h2 (dp_ints ms), shaped_intsT ns, shaped_intsT ms, ?_⟩
  show Q (.bl (PyData.eqvAll (ns.map PyData.int) (ms.map PyData.int))) H
  rw [eqv_ints]
  exact h3
theorem op_neIT (hu : X.A.units + 64 < cLine) : OpR X (compareOp .NotEq) (rNeIT X.K) := by
  intro pins s σ H x y v u Q I rx ry h
  obtain ⟨p, q, ns, ms, rfl, rfl, h1, h2, h3⟩ := h
  refine op_neD hu pins s σ H _ _ v u Q I rx ry ⟨_, _, .tup h1 (dp_ints ns), .tup h2 (dp_ints ms), shaped_intsT ns, shaped_intsT ms, ?_⟩
  show Q (.bl (!PyData.eqvAll (ns.map PyData.int) (ms.map PyData.int))) H
  rw [eqv_ints]
  exact h3
end

section
variable {X : Cx}
def rRepS : R2 := fun x y H Q => ∃ l k xs, x = .ref l ∧ y = .int k ∧ H l = some (.lst xs) ∧ -(2 ^ 63) ≤ k ∧ k < 2 ^ 63 ∧ xs.length * k.toNat ≤ sizeLine ∧
  ∀ p H', H p = none → Same H H' → H' p = some (.lst (List.replicate k.toNat xs).flatten) → Q (.ref p) H'
theorem op_repS : OpR X (binaryOp .Mult) rRepS := by
  intro pins s σ H x y v u Q I rx ry h
  obtain ⟨l, k, xs, h1, h2, h3, h4, h5, h6, h7⟩ := h
  exact op_rep pins s σ H x y v u Q I rx ry ⟨l, k, xs, h1, h2, h3, h4, h5, h6, fun p hp => h7 p _ hp (Same.new hp) upd_same⟩
end
theorem flat1 {α : Type} (x : α) : ∀ n : Nat, (List.replicate n [x]).flatten = List.replicate n x
  | 0 => rfl
  | n + 1 => by rw [List.replicate_succ, List.flatten_cons, flat1 x n, List.replicate_succ]; rfl
def tLstRgS (te : L2.St → Hp → (Int → Int → Hp → Prop) → Prop) : TE := fun σ H Q => te σ H fun a b H1 => RgOk a b ∧ ∀ q H', H1 q = none → Same H1 H' → H' q = some (.lst (rgV a b)) → Q (.ref q) H'
/-- is_integer's answer -/
def isIntV : V → Bool
  | .int _ => true
  | _ => false
/-- the attributes of a new object: what an __init__ leaves -/
theorem sz_of {n : Nat} (h : n ≤ 100000) : n ≤ sizeLine := Nat.le_trans h (by decide)
theorem sz_lt {n : Nat} (h : n < 100000) : n < sizeLine := Nat.lt_of_lt_of_le h (by decide)

theorem atI_some {α : Type} {rs : List α} {i : Int} (h1 : -(rs.length : Int) ≤ i) (h2 : i < rs.length) : ∃ v, v ∈ rs ∧ atI rs i = some v := by
  unfold atI ixN
  by_cases h0 : 0 ≤ i
  · rw [if_pos h0, if_pos h2]
    have hj : i.toNat < rs.length := by omega
    exact ⟨rs[i.toNat], List.getElem_mem hj, by show rs[i.toNat]? = _; exact List.getElem?_eq_getElem hj⟩
  · rw [if_neg h0, if_pos h1]
    have hj : ((rs.length : Int) + i).toNat < rs.length := by omega
    refine ⟨rs[((rs.length : Int) + i).toNat], List.getElem_mem hj, ?_⟩
    first
      | exact List.getElem?_eq_getElem hj
      | (show rs[(i + rs.length).toNat]? = _; rw [Int.add_comm]; exact List.getElem?_eq_getElem hj)
theorem cutV_tail (x : V) (xs : List V) : cutV (x :: xs) (some 1) none = xs := by
  unfold cutV
  have e : HT.sIx (x :: xs).length 0 (some 1) = 1 := by
    unfold HT.sIx
    simp
  have e2 : HT.sIx (x :: xs).length (x :: xs).length none = (x :: xs).length := rfl
  rw [e, e2, List.drop_one, List.tail_cons, List.length_cons, Nat.add_sub_cancel, List.take_length]
/-- a rule's own words: the promise of a def without defaults -/
abbrev rawS (sp : Sp) : Sp := fun vs H Q E => sp (vs ++ []) H Q E
end Lf

set_option Elab.async false
set_option linter.all false
set_option maxRecDepth 100000
set_option maxHeartbeats 4000000
/-! set of a tuple of ints, sorted of a set of ints of any number, sorted of a list of ints. -/
namespace Lf
open PySem PySem.Spec PyProof.Rows L2
section
variable {P : Program} {w : World} {A : Around} {E : Value → Shared → Prop} {s : Shared} {a : Addr}
theorem sorted_setA {S : Int → Bool} {n : Nat} {Q : Value → Shared → Prop} (R : SetR w s.heap a S n) (hh : A.handled = none)
    (hQ : ∀ s' p (out : Array Value) (c : Nat) (ns : List Int), (∀ b o, s.heap.get? b = some o → s'.heap.get? b = some o) → s'.gens = s.gens → s'.os = s.os → s.heap.objs.size ≤ p →
      s'.heap.get? p = some (seqObj "list" out c) → IntsAre out.toList ns → ns.Pairwise (· < ·) → (∀ k, k ∈ ns ↔ S k = true) → ns.length = n → Q (.ref p) s') :
    wpAny (model P w) A (call (.builtin "sorted") [.ref a]) Q E s := by
  obtain ⟨o, es, ep, t, ho, hex, hd, g, nd, hm, hb, hf, hn, hr, hl⟩ := R
  refine Calls.call_function_entry kind_sorted plain_sorted entry_sorted (args_sorted1 _) ?_
  unfold Builtin.«sorted»
  refine wpAny_bind (m := checkCount "sorted" 1 1 _) (wpAny_pure ?_)
  refine wpAny_bind (collect_set (A := A.in1) hh ⟨o, ho, hex.1, hd⟩ hf hb hr hl fun s1 vs k1 hz g1 o1 pm => ?_)
  have hvl : vs.length = n := by rw [pm.length_eq, List.length_map, Array.length_toList]; exact hn
  have hI : IntsAre vs (vs.map Builtin.Re.reRawOf) := ints_of vs fun v hv => by
    obtain ⟨e, he, q⟩ := List.mem_map.mp (pm.mem_iff.mp hv)
    obtain ⟨k, tk, h1, _⟩ := g e he
    exact ⟨k, tk, by rw [← q]; exact h1⟩
  have pk : (vs.map Builtin.Re.reRawOf).Perm (es.toList.map keyOf) := by
    have q := pm.map Builtin.Re.reRawOf
    rw [List.map_map] at q
    exact q
  have hbn : n < 4096 := by rw [← hn]; exact hb
  refine wpAny_bind (wpAny_newList ?_ (by rw [hvl, sizeLine_eq]; omega))
  have hoL : (s1.heap.push (seqObj "list" vs.toArray 0)).get? s1.heap.objs.size = some (seqObj "list" vs.toArray 0) := Heap.get?_push_size _ rfl
  refine wpAny_bind (wpAny_holding (wpAny_call_entry slot_list_sort ⟨_, hoL, rfl⟩ entry_list_sort
    (SrtO.list_sort_ord SrtO.swo_int hoL (by rw [hvl, sizeLine_eq]; omega) (fun h2 => SrtO.ints_sortable hI h2) fun out b1 b2 => ⟨_, rfl, ?_⟩) (args_list_sort _)))
  obtain ⟨a1, a2, a3⟩ := SrtO.ints_out hI b1 b2
  obtain ⟨c, hc⟩ := sortedHeap_at (vs := vs) (out := out.toArray) hoL
  have pn : (out.map SrtO.iv).Perm (es.toList.map keyOf) := a2.trans pk
  refine wpAny_pure ⟨_, rfl, hQ _ s1.heap.objs.size out.toArray c (out.map SrtO.iv) (fun b u e => ?_) g1 o1 hz hc (by simpa using a1) (lt_of_le_nodup _ a3 (pn.nodup_iff.mpr nd)) (fun k => by rw [pn.mem_iff, ← hm k]) ?_⟩
  · have q := k1 b u e
    have hlt := Heap.lt_size q
    show (sortedHeap (s1.heap.push (seqObj "list" vs.toArray 0)) s1.heap.objs.size vs out.toArray).get? b = some u
    rw [sortedHeap_old (Nat.ne_of_lt hlt) (by rw [size_push']; exact Nat.lt_succ_of_lt hlt)]
    exact Heap.get?_push_of_some _ q
  · rw [pn.length_eq, List.length_map, Array.length_toList]; exact hn
end
section
variable {X : Cx}
/-- sorted(set) -/
def rSortedSetA (w : World) : List V → Hp → VK → Prop := fun vs H Q => ∃ (a : Addr) (S : Int → Bool) (n : Nat), vs = [V.ref a] ∧ H a = some (SetO w a S n) ∧
  ∀ (ns : List Int) (p : Addr) (H' : Hp), ns.Pairwise (· < ·) → (∀ k : Int, k ∈ ns ↔ S k = true) → ns.length = n → H p = none → Same H H' → H' p = some (.lst (ns.map V.int)) → Q (.ref p) H'
theorem cr_sortedSetA (hc : X.calm = true) : CallR X (.builtin "sorted") (rSortedSetA X.w) := by
  intro pins s σ H vs us Q I r h
  obtain ⟨a, S, n, rfl, ha, q⟩ := h
  have R := setO_get I ha
  have hbn : n < 4096 := by
    obtain ⟨o, es, ep, t, ho, hex, hd, g, nd, hm, hb, hf, hn, hr, hl⟩ := R
    rw [← hn]; exact hb
  rw [Vals.ref1 r]
  refine sorted_setA R (I.ok.hd hc) fun s' p out c ns k g o hp hg hi hs hm hl => ?_
  have hlen : (ns.map V.int).length ≤ sizeLine := by rw [List.length_map, hl, sizeLine_eq]; omega
  have hn : H p = none := I.hok.fresh hp
  have J : L2.Inv X pins σ (upd H p (.lst (ns.map V.int))) { s with heap := s'.heap, gens := s'.gens, drawn := s'.drawn, toks := s'.toks } :=
    I.call (ch := []) (Un.laid k hp hn) (I.hok.laid k hp ⟨hlen, out.toList, c, vals_of_ints hi, hg⟩) (by rw [g]; exact I.bare) (fun _ z => nomatch z)
  have e : s' = { s with heap := s'.heap, gens := s'.gens, drawn := s'.drawn, toks := s'.toks } := by
    cases s'
    cases s
    cases o
    rfl
  rw [e]
  exact ⟨.ref p, _, J, rfl, q ns p _ hs hm hl hn (Same.new hn) upd_same⟩
/-- set(tuple of ints) -/
def rSetTI (K : PySem.W.Frag) (w : World) : List V → Hp → VK → Prop := fun xs H Q => ∃ (p : Addr) (ns : List Int), xs = [V.ref p] ∧ SqT K H p (ns.map V.int) ∧ ns.length ≤ 4000 ∧
  ∀ (q : Addr) (c : Nat) (H' : Hp), H q = none → Same H H' → H' q = some (SetO w q (fun j => decide (j ∈ ns)) c) → c ≤ ns.length → Q (.ref q) H'
theorem cr_setTI (hc : X.calm = true) : CallR X (.type "set") (rSetTI X.K X.w) := by
  intro pins s σ H xs us Q I r h
  obtain ⟨p, ns, rfl, hp, hl, q⟩ := h
  rw [Vals.ref1 r]
  obtain ⟨its, rv, ht, hz⟩ := I.tuple hp
  have hi : IntsAre its.toArray.toList ns := ints_of_vals rv
  refine call_set_tupI ns (I.ok.hd hc) (show s.heap.IsTuple p its.toArray from ht) hi (by unfold scanBound; omega) fun h' tk c R1 hcn k => ?_
  have hn : H s.heap.objs.size = none := I.hok.fresh (Nat.le_refl _)
  refine ⟨.ref s.heap.objs.size, _, I.laid (t' := tk) k (Nat.le_refl _) (setO_new R1), rfl, q _ c _ hn (Same.new hn) upd_same hcn⟩
end
/-! set(list of ints): few different ones -/
theorem sub_len : ∀ (ks ns : List Int), ks.Nodup → (∀ k ∈ ks, k ∈ ns) → ks.length ≤ ns.length
  | [], _, _, _ => Nat.zero_le _
  | k :: ks, ns, nd, h => by
    obtain ⟨h1, h2⟩ := List.nodup_cons.mp nd
    have m := h k (List.mem_cons_self ..)
    have l := sub_len ks (ns.erase k) h2 fun x hx => (List.mem_erase_of_ne (fun (e : x = k) => h1 (by rw [← e]; exact hx))).mpr (h x (List.mem_cons_of_mem _ hx))
    rw [List.length_erase_of_mem m] at l
    have := List.length_pos_of_mem m
    rw [List.length_cons]
    omega
def FewI (ns : List Int) : Prop := ∀ ks : List Int, ks.Nodup → (∀ k ∈ ks, k ∈ ns) → ks.length + 1 < scanBound
theorem FewI.of_len {ns : List Int} (h : ns.length ≤ 4000) : FewI ns := fun ks nd hk => by
  have := sub_len ks ns nd hk
  unfold scanBound
  omega
theorem FewI.of_lt {ns : List Int} (h : ∀ k ∈ ns, 0 ≤ k ∧ k < 4000) : FewI ns := fun ks nd hk => by
  have := sub_len ks ((List.range 4000).map fun (i : Nat) => (i : Int)) nd fun k hx => by
    obtain ⟨a, b⟩ := h k (hk k hx)
    exact List.mem_map.mpr ⟨k.toNat, List.mem_range.mpr (by omega), by omega⟩
  rw [List.length_map, List.length_range] at this
  unfold scanBound
  omega
theorem SetR.few {w : World} {h : Heap} {a : Addr} {S : Int → Bool} {n : Nat} {ns : List Int} (R : SetR w h a S n) (hS : ∀ k, S k = true → k ∈ ns) (f : FewI ns) : n + 1 < scanBound := by
  obtain ⟨o, es, ep, t, ho, hex, hd, g, nd, hm, hb, hf, hn, hr, hl⟩ := R
  have := f _ nd fun k hk => hS k ((hm k).mpr hk)
  rw [List.length_map, Array.length_toList, hn] at this
  exact this
section
variable {P : Program} {w : World} {A : Around} {E : Value → Shared → Prop} {s : Shared}
theorem set_fill {I : Addr} {fp wr : List Addr} {G : Array GenState → Array GenState → Prop} {n : Nat} {Pv : Nat → Value → Prop} {St : Nat → Shared → Prop} {R : Result → Shared → Prop}
    (W : WalksS P w A.in1 I fp wr G n Pv St) (S : Addr) (hSf : S ∉ fp) (ns : List Int) (hn : n = ns.length) (few : FewI ns) (hval : ∀ i v, Pv i v → ∃ k t, ns[i]? = some k ∧ v = .int k t) :
    ∀ (k i : Nat) (s : Shared), n - i = k → i ≤ n → St i s → (∃ c, c ≤ i ∧ SetR w s.heap S (fun j => decide (j ∈ ns.take i)) c) →
      (∀ s' c, Moved (S :: wr) G s s' → c ≤ n → SetR w s'.heap S (fun j => decide (j ∈ ns)) c → R (.ok (.ret .none)) s') →
      codeAny (model P w) A (.builtin "set.update.loop" ⟨[.ref S, .ref I], []⟩) R s := by
  have hSw : S ∉ wr := fun h => hSf (W.sub _ h)
  have up : ∀ b ∈ wr, b ∈ S :: wr := fun b hb => List.mem_cons_of_mem _ hb
  intro k
  induction k with
  | zero =>
    intro i s hk' hi hst ⟨c, hc, hS⟩ hR
    obtain rfl : i = n := by omega
    refine codeAny_builtin F.entry_set_update_loop ?_; rw [Around.under_plainId F.plain_set_update_loop _]
    refine wpAny_bind (m := pyNext (.ref I)) (W.done s _ _ hst fun s' hm => wpAny_pure (hR s' c (hm.mono up) hc ?_))
    have e : ns.take i = ns := List.take_of_length_le (by omega)
    rw [e] at hS
    exact hS.at fun o z => hm.heap S o hSw z
  | succ k ih =>
    intro i s hk' hi hst ⟨c, hc, hS⟩ hR
    have hlt : i < n := by omega
    refine codeAny_builtin F.entry_set_update_loop ?_; rw [Around.under_plainId F.plain_set_update_loop _]
    refine wpAny_bind (m := pyNext (.ref I)) (W.item i s _ _ hlt hst fun v s' hP hst' hm => ?_)
    obtain ⟨z, t, hz, rfl⟩ := hval i v hP
    have hS1 : SetR w s'.heap S (fun j => decide (j ∈ ns.take i)) c := hS.at fun o e => hm.heap S o hSw e
    refine wpAny_bind (m := holding [Value.int z t] (setAdd S (.int z t))) (wpAny_holding ?_); unfold setAdd; refine wpAny_holding ?_
    refine wpAny_bind ((intKind P w).pyHash (k := z) (intKind_is _ _ _ _) (setR_add_hashed (s := { s' with toks := s'.toks + 1 }) hS1 ?_ fun h' hsb hS2 => ?_))
    · exact SetR.few hS1 (fun k hk => List.mem_of_mem_take (of_decide_eq_true hk)) few
    have hS3 : SetR w h' S (fun j => decide (j ∈ ns.take (i + 1))) (if decide (z ∈ ns.take i) = true then c else c + 1) := hS2.congr fun j => by
      rw [List.take_add_one, hz] <;> simp [List.mem_append]
    refine wpAny_pure ⟨plainId_quiet F.plain_set_update_loop _, ih (i + 1) _ (by omega) hlt (W.frame _ s' _ _ hst' (Nat.le_succ _) fun b hb o e => ?_) ⟨_, by split <;> omega, hS3⟩ fun s2 c2 hm2 hc2 hS4 => ?_⟩
    · rw [hsb.2 b (fun q : b = S => hSf (q ▸ hb))]; exact e
    · refine hR s2 c2 (Moved.trans W.gtrans ((hm.mono up).then_heap (Nat.le_succ _) fun b o hb e => ?_) hm2) hc2 hS4
      rw [hsb.2 b (fun q : b = S => hb (q ▸ List.mem_cons_self))]; exact e
/-- a new set, empty -/
def set0 (w : World) : Obj := { cls := .type "set", dict := none, data := .set #[] 0 (.fresh 0 0 (!w.params.followText "set-order")) }
theorem call_setL {l : Addr} {items : Array Value} (ns : List Int) {Q : Value → Shared → Prop} (hh : A.handled = none) (hl : s.heap.IsList l items) (hit : IntsAre items.toList ns) (few : FewI ns)
    (h : ∀ (h' : Heap) (tk c : Nat), SetR w h' s.heap.objs.size (fun j => decide (j ∈ ns)) c → c ≤ ns.length → (∀ b o, s.heap.get? b = some o → h'.get? b = some o) → Q (.ref s.heap.objs.size) { s with heap := h', toks := tk }) :
    wpAny (model P w) A (call (.type "set") [.ref l]) Q E s := by
  have isz : items.size = ns.length := Array.length_toList ▸ IntsAre.length hit
  obtain ⟨c, tl, hmro⟩ := F.called_set.mro
  have hmade := F.called_set.made; have hsub := F.called_set.sub
  refine wpAny_call (codeAny_of_tree (show wpAny _ _ (callAny (.type "set") _) _ _ _ from ?_))
  refine wpAny_pure ⟨Code.quiet_builtin _ (by decide +kernel), codeAny_builtin F.entry_type_call ?_⟩; rw [Around.under_plain (weight_type_call_type "set" [.ref l] []) rfl]
  have h1 := F.called_set.notType; have h2 := F.called_set.canCreate; have hct := F.typeCall_set_1 (.ref l)
  (repeat (any_goals (first | assumption | wp_step)))
  refine codeAny_mono (code_set_led1 (.ref l) (E := E) (Q₁ := fun obj s₁ => obj = .ref s.heap.objs.size ∧ s₁ = { s with heap := s.heap.push (set0 w) }) ⟨rfl, rfl⟩) fun r s₁ hr => ?_
  cases r with
  | error e => exact hr
  | ok fl =>
    cases fl with
    | next => exact hr
    | brk => exact hr
    | cont => exact hr
    | ret obj =>
      obtain ⟨rfl, rfl⟩ := hr
      have hS : (s.heap.push (set0 w)).get? s.heap.objs.size = some (set0 w) := Heap.get?_push_size _ rfl
      have hT : Shared.TypeIs { s with heap := s.heap.push (set0 w) } (.ref s.heap.objs.size) "set" := ⟨_, hS, rfl⟩
      have hli := F.called_set.init.lookup; have hbi := F.called_set.init.bind (.ref s.heap.objs.size)
      (repeat (any_goals (first | assumption | wp_step)))
      refine codeAny_mono (codeAny_call_builtin (R := wants (fun r s₂ => r = .none ∧ ∃ h' tk c, s₂ = { s with heap := h', toks := tk } ∧ SetR w h' s.heap.objs.size (fun j => decide (j ∈ ns)) c ∧ c ≤ ns.length ∧
          (∀ b o, s.heap.get? b = some o → h'.get? b = some o)) E) F.called_set.init.plain F.entry_set_init (check_set_init_1 hT ?_)) fun r₂ s₂ hr₂ => ?_
      · obtain ⟨ol, hol, hcl, nl, hdl⟩ := hl
        obtain ⟨ocls, odict, odata, oslots⟩ := ol
        simp only at hcl hdl
        subst hcl; subst hdl
        have hol' : (s.heap.push (set0 w)).get? l = some { cls := .type "list", dict := odict, data := .seq items nl, slots := oslots } := Heap.get?_push_of_some _ hol
        have hsls := F.sub_list_set; have hslf := F.sub_list_frozenset
        have hne : (Value.type "list" == Value.type "dict") = false := by decide
        have hl1 : (s.heap.push (set0 w)).IsList l items := ⟨_, hol', rfl, nl, rfl⟩
        unfold Builtin.«set.__init__» noKeywords Builtin.Frozenset.updateFrom; generalize hPI : pyIter = PI
        wp_walk
        subst hPI
        refine wpAny_pyIter_list hl1 (wpAny_bind (wpAny_runValue ?_))
        have hlS : l < s.heap.objs.size := Heap.lt_size hol
        have h3 : A.in1.in1.in1.handled = none := by simp [hh]
        have hneI : l ≠ (s.heap.push (set0 w)).objs.size := fun e => Nat.ne_of_lt (Nat.lt_succ_of_lt hlS) (e.trans (Heap.size_push _ _))
        have hSf : s.heap.objs.size ∉ [(s.heap.push (set0 w)).objs.size, l] := by
          rw [Heap.size_push, List.mem_cons, List.mem_singleton]
          exact fun e => e.elim (fun e => Nat.ne_of_lt (Nat.lt_succ_self _) e) fun e => Nat.ne_of_gt hlS e
        have hval : ∀ (i : Nat) (v : Value), items[i]? = some v → ∃ k t, ns[i]? = some k ∧ v = .int k t := fun i v hv => by
          have hi : i < ns.length := isz ▸ (Array.getElem?_eq_some_iff.mp hv).1
          obtain ⟨t, e⟩ := PyProof.Rows.IntsAre.int_at hit i v (by rw [Array.getElem?_toList, hv])
          refine ⟨ns[i], t, List.getElem?_eq_getElem hi, ?_⟩
          rw [e, List.getD_eq_getElem?_getD, List.getElem?_eq_getElem hi, Option.getD_some]
        refine set_fill ((Walks.list h3 _ l hneI items).toS) s.heap.objs.size hSf ns isz few hval (items.size - 0) 0 _ (by omega) (Nat.zero_le _) ⟨⟨_, Heap.get?_push_size _ rfl, rfl, rfl⟩, (hl1.push _)⟩ ?z1 ?z2
        case z1 => exact ⟨0, Nat.le_refl 0, setR_new_at (Heap.get?_push_of_some _ hS)⟩
        case z2 =>
          intro s' c' hm hc' hS'
          obtain ⟨h', g2, d', tk', os'⟩ := s'
          have eg : g2 = s.gens := hm.gens; have ed : d' = s.drawn := hm.drawn; have eo : os' = s.os := hm.os
          subst eg; subst ed; subst eo
          rw [isz] at hc'
          refine wpAny_pure (show wpAny _ _ (ret Value.none) _ _ _ from wpAny_pure ⟨rfl, h', tk', c', rfl, hS', hc', fun b o e => ?_⟩)
          have hb0 : b < s.heap.objs.size := Heap.lt_size e
          refine hm.heap b o ?_ (Heap.get?_push_of_some _ (Heap.get?_push_of_some _ e))
          rw [Heap.size_push, List.mem_cons, List.mem_singleton]
          exact fun e => e.elim (fun e => Nat.ne_of_lt hb0 e) fun e => Nat.ne_of_lt (Nat.lt_succ_of_lt hb0) e
      · cases r₂ with
        | error e => exact hr₂
        | ok fl₂ =>
          cases fl₂ with
          | next => exact hr₂.elim
          | brk => exact hr₂.elim
          | cont => exact hr₂.elim
          | ret r =>
            obtain ⟨rfl, h', tk, c', rfl, hS', hc', hk'⟩ := hr₂
            (repeat (any_goals (first | assumption | wp_step)))
            exact h h' tk c' hS' hc' hk'
end
section
variable {X : Cx}
def rSetLI (K : PySem.W.Frag) (w : World) : List V → Hp → VK → Prop := fun xs H Q => ∃ (p : Addr) (ns : List Int), xs = [V.ref p] ∧ SqL K H p (ns.map V.int) ∧ FewI ns ∧
  ∀ (q : Addr) (c : Nat) (H' : Hp), H q = none → Same H H' → H' q = some (SetO w q (fun j => decide (j ∈ ns)) c) → c ≤ ns.length → Q (.ref q) H'
theorem cr_setLI (hc : X.calm = true) : CallR X (.type "set") (rSetLI X.K X.w) := by
  intro pins s σ H xs us Q I r h
  obtain ⟨p, ns, rfl, hp, hl, q⟩ := h
  rw [Vals.ref1 r]
  obtain ⟨its, rv, ht, hz⟩ := I.list hp
  have hi : IntsAre its.toArray.toList ns := ints_of_vals rv
  refine call_setL ns (I.ok.hd hc) ht.isList hi hl fun h' tk c R1 hcn k => ?_
  have hn : H s.heap.objs.size = none := I.hok.fresh (Nat.le_refl _)
  refine ⟨.ref s.heap.objs.size, _, I.laid (t' := tk) k (Nat.le_refl _) (setO_new R1), rfl, q _ c _ hn (Same.new hn) upd_same hcn⟩
end
section
variable {X : Cx}
/-- sorted(list of ints) -/
def rSortedIS (K : PySem.W.Frag) : List V → Hp → VK → Prop := fun vs H Q => ∃ (a : Addr) (ns : List Int), vs = [V.ref a] ∧ SqL K H a (ns.map V.int) ∧
  ∀ (ns' : List Int) (p : Addr) (H' : Hp), ns'.Perm ns → ns'.Pairwise (· ≤ ·) → H p = none → Same H H' → H' p = some (.lst (ns'.map V.int)) → Q (.ref p) H'
theorem cr_sortedIS : CallR X (.builtin "sorted") (rSortedIS X.K) := by
  intro pins s σ H vs us Q I r h
  obtain ⟨a, ns, h1, h2, h3⟩ := h
  exact cr_sortedI pins s σ H vs us Q I r ⟨a, ns, h1, h2, fun ns' p b1 b2 b3 => h3 ns' p _ b1 b2 b3 (Same.new b3) upd_same⟩
end
/-! ### lists that rise: one for each set -/
theorem rise_eq : ∀ {xs ys : List Int}, xs.Pairwise (· < ·) → ys.Pairwise (· < ·) → (∀ k, k ∈ xs ↔ k ∈ ys) → xs = ys
  | [], [], _, _, _ => rfl
  | [], y :: ys, _, _, h => absurd ((h y).mpr (List.mem_cons_self ..)) (by simp)
  | x :: xs, [], _, _, h => absurd ((h x).mp (List.mem_cons_self ..)) (by simp)
  | x :: xs, y :: ys, h1, h2, h => by
    obtain ⟨a1, a2⟩ := List.pairwise_cons.mp h1
    obtain ⟨b1, b2⟩ := List.pairwise_cons.mp h2
    have exy : x = y := by
      rcases List.mem_cons.mp ((h x).mp (List.mem_cons_self ..)) with e | e
      · exact e
      · rcases List.mem_cons.mp ((h y).mpr (List.mem_cons_self ..)) with e' | e'
        · exact e'.symm
        · have := b1 x e
          have := a1 y e'
          omega
    subst exy
    have ht : ∀ k, k ∈ xs ↔ k ∈ ys := fun k => by
      constructor
      · intro hk
        rcases List.mem_cons.mp ((h k).mp (List.mem_cons_of_mem _ hk)) with e | e
        · have := a1 k hk
          omega
        · exact e
      · intro hk
        rcases List.mem_cons.mp ((h k).mpr (List.mem_cons_of_mem _ hk)) with e | e
        · have := b1 k hk
          omega
        · exact e
    rw [rise_eq a2 b2 ht]
end Lf

set_option Elab.async false
set_option linter.all false
set_option maxRecDepth 100000
set_option maxHeartbeats 4000000
/-! Rules of our own: a def with *values and one keyword-only default; classes called with a star and a keyword; own operators. -/
namespace Lf
open PySem PySem.Spec PyProof.Rows L2 StX

/-! ### f(*e, k = v) -/
section
variable {M : Model} {A : Around} {E : Value → Shared → Prop} {s : Shared}
theorem ks_loneKw {f : Value} {x : Sem Value} {pos : Pos} {kws : List (Option Str × Sem Value)} {Q : Args → Shared → Prop} (hall : kws.all (·.1.isSome) = true)
    (h : wpAny M A x (fun v s₁ => wpAny M A (evalAll (kws.map (·.2))) (fun ks s₂ => PySem.W.StarOf M A E v (fun vs s₃ => Q ⟨vs, (kws.filterMap (·.1)).zip ks⟩ s₃) s₂) E s₁) E s) :
    wpAny M A (evalArgs f true [(true, (do let v ← x; standAt pos; pure v))] kws) Q E s := by
  unfold evalArgs
  refine wpAny_bind (wpAny_bind (wpAny_mono h (fun v s₁ h₁ => wpAny_bind (wpAny_standAt (wpAny_pure ?_))) fun _ _ x => x))
  refine wpAny_holding ?_
  simp only [hall, if_true]
  refine wpAny_bind (wpAny_mono h₁ (fun ks s₂ h₂ => ?_) fun _ _ x => x)
  unfold PySem.W.StarOf at h₂
  refine wpAny_bind (wpAny_bind (wpAny_mono h₂ (fun b s₃ h₃ => ?_) fun _ _ x => x))
  obtain ⟨rfl, h₃⟩ := h₃
  simp only [Bool.false_eq_true, if_false]
  exact wpAny_holding (wpAny_mono h₃ (fun vs s₄ h₄ => (wpAny_pure h₄ : wpAny M A (pure (⟨vs, (kws.filterMap (·.1)).zip ks⟩ : Args)) Q E s₄)) fun _ _ x => x)
theorem ks_callKw {f : Value} {first : List Value} {pos : Pos} {Q : Value → Shared → Prop} {P : Heap → Prop} {args : List (Bool × Sem Value)} {kws : List (Option Str × Sem Value)} (hst : args.any (·.1) = true)
    (hk : ∀ h, P h → ∃ k, (k = Keeper.frame ∨ k = Keeper.machine ∨ k = Keeper.boundFrame) ∧ PySem.W.Looks M h (keeperOf f) k)
    (h : wpAny M A (evalArgs f true args kws) (fun a s₁ => P s₁.heap ∧ wpAny M A (call f (first ++ a.pos) a.kw) Q E s₁) E s) : wpAny M A (callWith pos f first args kws) Q E s := by
  unfold callWith
  refine wpAny_bind (wpAny_holding (wpAny_mono h (fun a s₁ h₁ => wpAny_bind (wpAny_standAt ?_)) fun _ _ x => x))
  obtain ⟨k, hk', L⟩ := hk _ h₁.1
  simp only [hst, Bool.true_or]
  refine wpAny_bind (L.here ?_)
  have tail : ∀ {t : Sem Value}, wpAny M A t Q E s₁ → wpAny M A (t >>= fun r => holding [r] point >>= fun _ => pure r) Q E s₁ :=
    fun ht => wpAny_bind (wpAny_mono ht (fun r s₂ hr => wpAny_bind (wpAny_holding (wpAny_point (wpAny_pure hr)))) fun _ _ x => x)
  have marked (mk : Value) : wpAny M A (callMarked mk f (first ++ a.pos) a.kw) Q E s₁ := by unfold callMarked; exact Calls.wpAny_keep h₁.2
  rcases hk' with rfl | rfl | rfl <;> dsimp only <;> first | exact tail (marked _) | exact tail (wpAny_operating h₁.2)
end

/-! ### a def with a star parameter and a keyword-only one -/
def BV1 (x qual : Str) (params : Arguments) (body : List Stmt) (scope : Scope) (p1 kn pv : Str) : Prop :=
  (∀ (D : Addr) (doc pm : Value) (an : Option Addr) (cdv ct u kv : Value) (rest : List Value), ∃ (β γ : Type) (k1 : Option Value → Sem β) (k2 : β → Sem γ) (k3 : γ → Sem (List (Str × Value))) (a : β),
    bindArgs (PySem.W.fnOf x qual params body scope .none (.ref D) doc pm an cdv ct) ⟨u :: rest, []⟩ = ((nsGet D kn >>= k1) >>= k2) >>= k3 ∧ k1 (some kv) = pure a ∧ (k2 a >>= k3) = (newTuple rest >>= fun t => pure [(p1, u), (kn, kv), (pv, t)])) ∧
  ∀ (D : Addr) (doc pm : Value) (an : Option Addr) (cdv ct u b : Value) (rest : List Value),
    bindArgs (PySem.W.fnOf x qual params body scope .none (.ref D) doc pm an cdv ct) ⟨u :: rest, [(kn, b)]⟩ = (newTuple rest >>= fun t => pure [(p1, u), (kn, b), (pv, t)])
/-- a promise of a call with one keyword -/
def FnRK (P : Program) (w : World) (K : PySem.W.Frag) (mg : Str → Option Value) (base : Heap) (CX : CXT) (k : Nat) (f : Addr) (kn : Str) (sp : V → Sp) : Prop :=
  ∀ (A : Around) (outer : List Env) (s : Shared) (H : Hp) (us : List Value) (vs : List V) (z : V) (u : Value) (Q : VK) (E : XK), Room k A → Env0 P w K mg base A outer s H → Vals vs us → RelV z u → sp z vs H Q E →
    codeAny (model P w) A (.call (.ref f) ⟨us, [(kn, u)]⟩) (CR CX outer P w H s Q E) s
/-- the promise of such a def from that of its body: the first value, the keyword's, the tuple of the others -/
def stS (sp : Sp) (z : V) : Sp := fun vs H Q E => ∃ v rest, vs = v :: rest ∧ rest.length ≤ sizeLine ∧ ∀ p H', H p = none → Same H H' → H' p = some (.tup rest) → sp [v, z, .ref p] H' Q E
section
variable {CX : CXT} {P : Program} {w : World} {K : PySem.W.Frag} {mg : Str → Option Value} {base : Heap} {k : Nat} {f : Addr} {x qual p1 kn pv : Str} {params : Arguments} {body : List Stmt} {scope : Scope} {fd : FuncData} {N : List Str} {sp : Sp} {dk : V}
theorem newTup_run {A A' : Around} {outer : List Env} {s : Shared} {H : Hp} {E : XK} {G : List V → Hp → Prop} {Ex : Value → Shared → Prop} {Q : List (Str × Value) → Shared → Prop} {v z : V} {u kv : Value} {u2 : List Value} {rest : List V} (hCX : CXUp CX) (e0 : Env0 P w K mg base A outer s H)
    (h : ∀ (s2 : Shared) (H2 : Hp) (vs : List V) (us : List Value), Env0 P w K mg base A outer s2 H2 → Un (frs outer) [] H H2 s.heap s2.heap → s2.os = s.os → (∀ e s', CX outer H2 s2 E e s' → CX outer H s E e s') → Vals vs us → vs.length = [p1, kn, pv].length → G vs H2 → Q ([p1, kn, pv].zip us) s2)
    (ru : RelV v u) (rk : RelV z kv) (r2 : Vals rest u2) (hz : rest.length ≤ sizeLine) (hG : ∀ p, H p = none → G [v, z, .ref p] (upd H p (.tup rest))) :
    wpAny (model P w) A' (newTuple u2 >>= fun t => pure [(p1, u), (kn, kv), (pv, t)]) Q Ex s := by
  have hn : H s.heap.objs.size = Option.none := e0.hok.fresh (Nat.le_refl _)
  have hl2 : u2.length ≤ sizeLine := by rw [← r2.length]; exact hz
  refine wpAny_bind (wpAny_newTuple (wpAny_pure ?_) hl2)
  have new : ObjOk P w (upd H s.heap.objs.size (.tup rest)) (s.heap.push ({ cls := .type "tuple", data := .seq u2.toArray } : Obj)) s.heap.objs.size (.tup rest) := ⟨hz, u2, r2, ⟨_, Heap.get?_push_size _ rfl, rfl, _, rfl⟩⟩
  have un := un_laid (fs := frs outer) (s := s) (o := ({ cls := .type "tuple", data := .seq u2.toArray } : Obj)) (u := .tup rest) hn
  exact h _ _ [v, z, V.ref s.heap.objs.size] [u, kv, Value.ref s.heap.objs.size] (env0_laid e0 new) un rfl (fun e s' => hCX outer s H _ _ E e s' un (fun b o q => Heap.get?_push_of_some _ q) rfl) (.cons ru (.cons rk (.cons rfl .nil))) rfl (hG _ hn)
theorem fn_starK (F : FunD K x qual params body scope [] [(kn, dk)] f fd) (B : BV1 x qual params body scope p1 kn pv) (S : FnScope N [p1, kn, pv] scope) (hCX : CXUp CX)
    (hbody : ∀ (cdv : Value) (A : Around) (outer : List Env) (s : Shared) (H : Hp) (vs : List V) (Q : VK) (E : XK), Room k (A.deeper (envOfC qual scope s.heap.objs.size f cdv)) → sp vs H Q E →
      ∃ t, PSs (cxOf CX P w K mg base N qual scope f cdv A outer s H E) body t ∧ t { nx := fun _ H' => Q .non H', rt := Q } (start N vs) H) :
    FnR P w K mg base CX (k + 1) f (stS sp dk) ∧ FnRK P w K mg base CX (k + 1) f kn (stS sp) := by
  obtain ⟨oc, od, dV, kV, doc, pm, an, cdv, ct, osl, rfl, lk, hcd, hD, hK⟩ := F.ex
  obtain rfl : dV = .none := by
    rcases hD with ⟨_, e⟩ | ⟨e, _⟩
    · exact e
    · exact absurd rfl e
  obtain ⟨D, rfl, hq⟩ : ∃ D : Addr, kV = .ref D ∧ ∀ q ∈ [(kn, dk)], ∃ u, PySem.W.nsIn K D q.1 = some (some u) ∧ RelV q.2 u := by
    rcases hK with e | e
    · exact absurd e (by simp)
    · exact e
  obtain ⟨kv, hkv, rkv⟩ := hq (kn, dk) (List.mem_cons_self ..)
  constructor
  · intro A outer s H us vs Q E hr e0 r hsp
    obtain ⟨v, rest, rfl, hz, hq⟩ := hsp
    cases r with
    | cons ru r2 =>
      rename_i u u2
      refine run_bnd lk hcd S hr e0 (G := fun xs H2 => sp xs H2 Q E) (fun A' Ex Q' h => ?_) fun s2 H2 xs hs hr' => hbody cdv A outer s2 H2 xs Q E hr' hs
      obtain ⟨β, γ, k1, k2, k3, a, e1, e2, e3⟩ := B.1 D doc pm an cdv ct u kv u2
      have KX : K.In s.heap := e0.mod.kin.keeps fun b o e => (e0.bs b o e).1
      rw [e1, bind_assoc]
      have goal : wpAny (model P w) A' (k2 a >>= k3) Q' Ex s := by
        rw [e3]
        exact newTup_run (p1 := p1) (kn := kn) (pv := pv) hCX e0 h ru rkv r2 hz fun p hp => hq p _ hp (Same.new hp) upd_same
      refine wpAny_bind (wpAny_bind ((PySem.W.looks_nsIn KX hkv).here ?_))
      rw [e2]
      exact wpAny_pure goal
  · intro A outer s H us vs z zu Q E hr e0 r rz hsp
    obtain ⟨v, rest, rfl, hz, hq⟩ := hsp
    cases r with
    | cons ru r2 =>
      rename_i u u2
      refine run_bnd lk hcd S hr e0 (G := fun xs H2 => sp xs H2 Q E) (fun A' Ex Q' h => ?_) fun s2 H2 xs hs hr' => hbody cdv A outer s2 H2 xs Q E hr' hs
      rw [B.2 D doc pm an cdv ct u zu u2]
      exact newTup_run (p1 := p1) (kn := kn) (pv := pv) hCX e0 h ru rz r2 hz fun p hp => hq p _ hp (Same.new hp) upd_same
end

/-! ### a class called: CallR of it; with a star; with a star and keywords; from a slot -/
section
variable {X : Cx} {CX : CXT} {k i : Nat} {f C : Addr} {sp : Sp} {spk : V → Sp} {E : XK} {x kn : Str} {e fe : Expr} {es : List Expr} {te tf : TE} {t tk : TA} {p pos sp_ : Pos} {kws : List Keyword} {ks : List Str} {r : List V → Hp → VK → Prop} {rk : List V → List V → Hp → VK → Prop}
theorem mk_call (M : Mk X.K C f) (F : FnR X.prog X.w X.K X.mg X.base CX k f sp) (hr : Room (k + 1) X.A) (hx : Passes CX X E) :
    CallR X (.ref C) (fun vs H Q => ∀ x dx, H x = none → H dx = none → dx ≠ x → sp (V.ref x :: vs) (upd (upd H dx (.own x)) x (.ins C dx [])) (fun v H2 => v = .non ∧ Q (.ref x) H2) E) :=
  fun pins s σ H vs us Q I r h => run_makeR M F hr hx I r h
theorem mk_callK (M : Mk X.K C f) (F : FnRK X.prog X.w X.K X.mg X.base CX k f kn spk) (hr : Room (k + 1) X.A) (hx : Passes CX X E) :
    CallRK X (.ref C) [kn] (fun vs zs H Q => ∃ z, zs = [z] ∧ ∀ x dx, H x = none → H dx = none → dx ≠ x → spk z (V.ref x :: vs) (upd (upd H dx (.own x)) x (.ins C dx [])) (fun v H2 => v = .non ∧ Q (.ref x) H2) E) := by
  intro pins s σ H vs zs us ws Q I r rz h
  obtain ⟨z, rfl, h⟩ := h
  obtain ⟨u, rfl, ru⟩ : ∃ u, ws = [u] ∧ RelV z u := by
    cases rz with
    | cons a b => cases b; exact ⟨_, rfl, a⟩
  have hq := h (s.heap.objs.size + 1) s.heap.objs.size (I.hok.fresh (Nat.le_succ _)) (I.hok.fresh (Nat.le_refl _)) (Nat.ne_of_lt (Nat.lt_succ_self _))
  have I2 := Inv.made (C := C) I
  have r2 : Vals (V.ref (s.heap.objs.size + 1) :: vs) (Value.ref (s.heap.objs.size + 1) :: us) := .cons rfl r
  refine wpAny_call (make_map (f := f) I.kIn M.makes M.init (beq_iff_eq.mp M.fn) (codeAny_mono (F _ X.stack _ _ (Value.ref (s.heap.objs.size + 1) :: us) _ z u _ E (hr.make C us [(kn, u)]) (I2.env0.make C us [(kn, u)]) r2 ru hq) fun r s' hq' => ?_))
  cases r with
  | error e => exact hx pins σ _ _ e s' I2 hq'
  | ok fl =>
    cases fl with
    | ret u =>
      obtain ⟨v, H', I3, rv, ev, q3⟩ := I2.after hq'
      subst ev
      exact ⟨rv, ⟨V.ref (s.heap.objs.size + 1), H', I3, rfl, q3⟩⟩
    | next => exact False.elim hq'
    | brk => exact False.elim hq'
    | cont => exact False.elim hq'
/-- C(e, ..) -/
theorem pe_mkC (hc : CallR X (.ref C) r) (hk : PySem.W.keepIn X.K (.ref C) = true) (hg : Gl X x) (hm : X.mg x = some (.ref C)) (ha : PA X (e :: es) t) (hdb : (x == ("__debug__" : Str)) = false := by decide)
    (he : starEach (e :: es) X.env = (false, eval e X.env) :: starEach es X.env := by rfl) (hpl : (backTo pos (starEach es X.env)).any (·.1) = false := by rfl) : PE X (.Call (.Name x p) (e :: es) [] pos) (tCB r t) := by
  refine ⟨fun pins s σ H Q I h => ?_⟩
  refine wpAny_Call_Name_kw (ld_glob I hg hm ?_ hdb)
  exact PySem.W.callWith_K (h₀ := X.base) I.ok.mod.kin hk (thn (ha.run pos pins s σ H _ I h) fun us s1 ⟨vs, H1, I1, r, q⟩ => ⟨I1.kIn, hc pins s1 σ H1 vs us Q I1 r q⟩) he hpl
theorem pe_mkC0 (hc : CallR X (.ref C) r) (hk : PySem.W.keepIn X.K (.ref C) = true) (hg : Gl X x) (hm : X.mg x = some (.ref C)) (hdb : (x == ("__debug__" : Str)) = false := by decide) : PE X (.Call (.Name x p) [] [] pos) (tCB r tNil) := by
  refine ⟨fun pins s σ H Q I h => ?_⟩
  refine wpAny_Call_Name_kw (ld_glob I hg hm ?_ hdb)
  exact PySem.W.callWith_K0 I.kIn hk (hc pins s σ H [] [] Q I .nil h)
/-- C(*e) -/
def tSt (K : PySem.W.Frag) (r : List V → Hp → VK → Prop) (te : TE) : TE := fun σ H Q => te σ H fun y H1 => ∃ a xs, y = V.ref a ∧ (SqT K H1 a xs ∨ SqL K H1 a xs) ∧ r xs H1 Q
theorem pe_mkS (hc : CallR X (.ref C) r) (hk : PySem.W.keepIn X.K (.ref C) = true) (hg : Gl X x) (hm : X.mg x = some (.ref C)) (he : PE X e te) (hd : (x == ("__debug__" : Str)) = false := by decide)
    (hst : starEach [.Starred e sp_] X.env = [(true, eval e X.env)] := by rfl) : PE X (.Call (.Name x p) [.Starred e sp_] [] pos) (tSt X.K r te) := by
  refine ⟨fun pins s σ H Q I h => ?_⟩
  refine wpAny_Call_Name_kw (ld_glob I hg hm ?_ hd)
  refine PySem.W.callWith_S (h₀ := X.base) I.ok.mod.kin hk (thn (he.run pins s σ H _ I h) fun v s1 ⟨y, H1, I1, ry, a, xs, ey, hxs, q⟩ => ?_) hst
  subst ey
  obtain rfl : v = Value.ref a := ry
  exact star_any I1 hxs fun us s2 I2 rv => ⟨I2.kIn, hc pins s2 σ H1 xs us Q I2 rv q⟩
/-- x(*e), x a slot that holds C -/
def tStL (K : PySem.W.Frag) (i : Nat) (C : Addr) (r : List V → Hp → VK → Prop) (te : TE) : TE := fun σ H Q => σ[i]? = some (some (.ref C)) ∧ te σ H fun y H1 => ∃ a xs, y = V.ref a ∧ (SqT K H1 a xs ∨ SqL K H1 a xs) ∧ r xs H1 Q
theorem pe_mkSL (hc : CallR X (.ref C) r) (hk : PySem.W.keepIn X.K (.ref C) = true) (hN : X.N[i]? = some x) (hv : Vis X.env.scope x) (he : PE X e te) (hdb : (x == ("__debug__" : Str)) = false := by decide) (hcd : (x == ("__classdict__" : Str)) = false := by decide)
    (hst : starEach [.Starred e sp_] X.env = [(true, eval e X.env)] := by rfl) : PE X (.Call (.Name x p) [.Starred e sp_] [] pos) (tStL X.K i C r te) := by
  refine ⟨fun pins s σ H Q I h => ?_⟩
  obtain ⟨hs, ht⟩ := h
  refine wpAny_Call_Name_kw (thn ((pe_var (pos := p) hN hv hdb hcd).run pins s σ H (fun v H1 => v = .ref C ∧ H1 = H) I ⟨.ref C, hs, rfl, rfl⟩) fun u s1 ⟨v, H1, I1, r1, q1⟩ => ?_)
  obtain ⟨rfl, rfl⟩ := q1
  cases r1
  refine PySem.W.callWith_S (h₀ := X.base) I.ok.mod.kin hk (thn (he.run pins s1 σ _ _ I1 ht) fun v s1 ⟨y, H1, I1, ry, a, xs, ey, hxs, q⟩ => ?_) hst
  subst ey
  obtain rfl : v = Value.ref a := ry
  exact star_any I1 hxs fun us s2 I2 rv => ⟨I2.kIn, hc pins s2 σ H1 xs us Q I2 rv q⟩
/-- C(*e, k = v) -/
def tStK (K : PySem.W.Frag) (r : List V → List V → Hp → VK → Prop) (te : TE) (tk : TA) : TE := fun σ H Q => te σ H fun y H1 => tk σ H1 fun zs H2 => ∃ a xs, y = V.ref a ∧ (SqT K H2 a xs ∨ SqL K H2 a xs) ∧ r xs zs H2 Q
theorem pe_mkSK (hc : CallRK X (.ref C) ks rk) (hk : PySem.W.keepIn X.K (.ref C) = true) (hg : Gl X x) (hm : X.mg x = some (.ref C)) (he : PE X e te) (hkw : PK X kws tk) (hd : (x == ("__debug__" : Str)) = false := by decide)
    (hall : (backToKw pos (keywordEach kws X.env)).all (·.1.isSome) = true := by rfl) (hks : (backToKw pos (keywordEach kws X.env)).filterMap (·.1) = ks := by rfl)
    (hst : starEach [.Starred e sp_] X.env = [(true, eval e X.env)] := by rfl) : PE X (.Call (.Name x p) [.Starred e sp_] kws pos) (tStK X.K rk te tk) := by
  refine ⟨fun pins s σ H Q I h => ?_⟩
  refine wpAny_Call_Name_kw (ld_glob I hg hm ?_ hd)
  rw [hst]
  refine ks_callKw rfl (PySem.W.keeps_K hk) (ks_loneKw hall (thn (he.run pins s σ H _ I h) fun v s1 ⟨y, H1, I1, ry, q1⟩ => ?_))
  refine thn (hkw.run pos pins s1 σ H1 _ I1 q1) fun ws s2 ⟨zs, H2, I2, rz, a, xs, ey, hxs, q⟩ => ?_
  subst ey
  obtain rfl : v = Value.ref a := ry
  refine star_any I2 hxs fun us s3 I3 rv => ⟨I3.kIn, ?_⟩
  rw [hks]
  exact hc pins s3 σ H2 xs zs us ws Q I3 rv rz q
end

theorem kit_refTy {K : PySem.W.Frag} {C : Addr} {T : String} (hm : PySem.W.kitMeta T = true) (h : PySem.W.mroIn K C (.type T) = some false) : PySem.W.kitOne K (.ref C) (.type T) = some false := by
  unfold PySem.W.kitOne
  rw [if_neg (by show ¬ ((Value.ref C == Value.type T) = true); exact fun q => nomatch (beq_iff_eq.mp q))]
  show (if PySem.W.kitMeta T = true then PySem.W.mroIn K C (.type T) else none) = some false
  rw [if_pos hm, h]
/-! ### own operators -/
section
variable {X : Cx} {CX : CXT} {C g : Addr} {n : Nat} {sp : Sp} {E : XK}
/-- x op y by an own method, both instances of C -/
def rOwnBin (C : Addr) (sp : Sp) (E : XK) : R2 := fun x y H Q => ∃ (a b dx dy : Addr) (fs fs' : List (Str × V)), x = .ref a ∧ y = .ref b ∧ H a = some (.ins C dx fs) ∧ H b = some (.ins C dy fs') ∧ sp [x, y] H Q E
theorem op_ownBin {op : Operator} (hc : PySem.W.selfFirst X.K C = true) (hs : PySem.W.findIn X.K (.ref C) (PySem.dunder op.info.2) = some (some (.ref g))) (hf : PySem.W.isFn X.K (.ref g) = true) (F : FnR X.prog X.w X.K X.mg X.base CX n g sp) (hr : Room n X.A) (hx : Passes CX X E) :
    OpR X (binaryOp op) (rOwnBin C sp E) := by
  intro pins s σ H x y v u Q I rx ry h
  obtain ⟨a, b, dx, dy, fs, fs', rfl, rfl, ha, hb, q⟩ := h
  cases (show v = Value.ref a from rx)
  cases (show u = Value.ref b from ry)
  obtain ⟨mA, O, _⟩ := ins_get I.hok ha
  obtain ⟨od, J, _⟩ := O.look
  obtain ⟨mB, O2, _⟩ := ins_get I.hok hb
  obtain ⟨od2, J2, _⟩ := O2.look
  obtain ⟨m, hF⟩ := I.fr
  refine PySem.W.binop_K hF I.ok.mod.kin J J2.type hc hs hf ?_
  refine wpAny_mono (wpAny_call (run_fnR (us := [.ref a, .ref b]) (vs := [.ref a, .ref b]) F hr hx I (.cons rfl (.cons rfl .nil)) q)) (fun w s' z => ?_) fun _ _ x => x
  obtain ⟨z', H', I', rz, qz⟩ := z
  exact cmpback rz ⟨z', H', I', rz, qz⟩
/-- ~x by an own method -/
def rOwnInv (C : Addr) (sp : Sp) (E : XK) : V → Hp → VK → Prop := fun x H Q => ∃ (a dx : Addr) (fs : List (Str × V)), x = .ref a ∧ H a = some (.ins C dx fs) ∧ sp [x] H Q E
theorem un_ownInv (hs : PySem.W.findIn X.K (.ref C) "__invert__" = some (some (.ref g))) (hf : PySem.W.isFn X.K (.ref g) = true) (F : FnR X.prog X.w X.K X.mg X.base CX n g sp) (hr : Room n X.A) (hx : Passes CX X E) :
    UnR X (unaryOp .Invert) (rOwnInv C sp E) := by
  intro pins s σ H x v Q I rx h
  obtain ⟨a, dx, fs, rfl, ha, q⟩ := h
  cases (show v = Value.ref a from rx)
  obtain ⟨mA, O, _⟩ := ins_get I.hok ha
  obtain ⟨od, J, _⟩ := O.look
  obtain ⟨m, hF⟩ := I.fr
  refine PySem.W.ksp_inv hF I.ok.mod.kin J hs hf ?_
  exact wpAny_call (run_fnR (us := [.ref a]) (vs := [.ref a]) F hr hx I (.cons rfl .nil) q)
end
end Lf

set_option Elab.async false
set_option linter.all false
set_option maxRecDepth 100000
set_option maxHeartbeats 4000000
/-! Comprehensions over a tuple or a list that only add objects: each item told by a function. -/
namespace Lf
open PySem PySem.Spec PyProof.Rows L2
/-- what one turn does: F tells what is added, if anything -/
def Turn1 (g : TG) (tt : TT) (te : TE) (vs : List Nat) (σ : L2.St) (H1 : Hp) (x : V) (r : Option V) : Prop :=
  ∀ (H' : Hp) (N : Option V → Hp → Prop), Same H1 H' → (∀ H4, Same H' H4 → N r H4) →
    g x (wipe σ vs) H' fun σ2 H2 => wipe σ2 vs = wipe σ vs ∧ tt σ2 H2 fun b H3 => if b = true then te σ2 H3 fun y H4 => N (some y) H4 else N none H3
theorem lc_tupF {K : PySem.W.Frag} {a : Addr} {xs : List V} {g : TG} {tt : TT} {te : TE} {vs : List Nat} {σ : L2.St} {H1 : Hp} {D : Addr} {Qd : Hp → Prop} (F : V → Option V) (nD : H1 D = none) (hz : xs.length < 100000)
    (hl : ∀ H', Same H1 H' → SqT K H' a xs) (hs : ∀ x ∈ xs, Turn1 g tt te vs σ H1 x (F x)) (hd : ∀ H', Same H1 H' → H' D = some (.lst (xs.filterMap F)) → Qd H') :
    ∃ W : Nat → Nat → Hp → Prop, (∃ m, W 0 m (upd H1 D (.lst []))) ∧ ∀ i m H, W i m H →
      ((Itt K a).stop i H ∧ Qd H) ∨ ((Itt K a).go i H ∧ ∃ Nx : Hp → Prop, (∀ H', Nx H' → ∃ m', m' < m ∧ W (i + 1) m' H') ∧ ∀ x H', (Itt K a).yld i H x H' → g x (wipe σ vs) H' fun σ2 H2 => wipe σ2 vs = wipe σ vs ∧ tt σ2 H2 fun b H3 =>
        if b = true then te σ2 H3 fun y H4 => ∃ acc, H4 D = some (.lst acc) ∧ acc.length < sizeLine ∧ Nx (upd H4 D (.lst (acc ++ [y]))) else Nx H3) := by
  refine lc_tup (K := K) (a := a) (xs := xs) (fun i H' => Same H1 H' ∧ H' D = some (.lst ((xs.take i).filterMap F))) ⟨Same.new nD, upd_same⟩ (fun i H' _ z => hl H' z.1) ?_ ?_
  · rintro i x H' hx ⟨s1, hD⟩
    have tk : (xs.take (i + 1)).filterMap F = (xs.take i).filterMap F ++ (F x).toList := by
      rw [List.take_add_one, hx, Option.toList_some, List.filterMap_append]
      cases e : F x <;> simp [e]
    have z := hs x (List.mem_of_getElem? hx) H' (fun r H4 => match r with
      | some y => ∃ acc, H4 D = some (.lst acc) ∧ acc.length < sizeLine ∧ (Same H1 (upd H4 D (.lst (acc ++ [y]))) ∧ upd H4 D (.lst (acc ++ [y])) D = some (.lst ((xs.take (i + 1)).filterMap F)))
      | none => Same H1 H4 ∧ H4 D = some (.lst ((xs.take (i + 1)).filterMap F))) s1 fun H4 s4 => ?_
    · exact z
    · cases e : F x with
      | none =>
        rw [e] at tk
        refine ⟨s1.trans s4, ?_⟩
        rw [tk, Option.toList_none, List.append_nil]
        exact s4 _ _ hD
      | some y =>
        rw [e] at tk
        refine ⟨_, s4 _ _ hD, ?_, fun q o h => ?_, ?_⟩
        · refine Nat.lt_of_lt_of_le ?_ (show 100000 ≤ sizeLine by decide)
          refine Nat.lt_of_le_of_lt (List.length_filterMap_le ..) (Nat.lt_of_le_of_lt ?_ hz)
          rw [List.length_take]
          exact Nat.min_le_right ..
        · rw [upd_ne (ne_of_none h nD)]
          exact s4 _ _ (s1 _ _ h)
        · rw [upd_same, tk]
          rfl
  · rintro H' ⟨s1, hD⟩
    rw [List.take_length] at hD
    exact hd H' s1 hD
theorem lc_listF {K : PySem.W.Frag} {a : Addr} {xs : List V} {g : TG} {tt : TT} {te : TE} {vs : List Nat} {σ : L2.St} {H1 : Hp} {D : Addr} {Qd : Hp → Prop} (F : V → Option V) (nD : H1 D = none) (hz : xs.length < 100000)
    (hl : ∀ H', Same H1 H' → SqL K H' a xs) (hs : ∀ x ∈ xs, Turn1 g tt te vs σ H1 x (F x)) (hd : ∀ H', Same H1 H' → H' D = some (.lst (xs.filterMap F)) → Qd H') :
    ∃ W : Nat → Nat → Hp → Prop, (∃ m, W 0 m (upd H1 D (.lst []))) ∧ ∀ i m H, W i m H →
      ((Itl K a).stop i H ∧ Qd H) ∨ ((Itl K a).go i H ∧ ∃ Nx : Hp → Prop, (∀ H', Nx H' → ∃ m', m' < m ∧ W (i + 1) m' H') ∧ ∀ x H', (Itl K a).yld i H x H' → g x (wipe σ vs) H' fun σ2 H2 => wipe σ2 vs = wipe σ vs ∧ tt σ2 H2 fun b H3 =>
        if b = true then te σ2 H3 fun y H4 => ∃ acc, H4 D = some (.lst acc) ∧ acc.length < sizeLine ∧ Nx (upd H4 D (.lst (acc ++ [y]))) else Nx H3) := by
  refine lc_list (K := K) (a := a) (xs := xs) (fun i H' => Same H1 H' ∧ H' D = some (.lst ((xs.take i).filterMap F))) ⟨Same.new nD, upd_same⟩ (fun i H' _ z => hl H' z.1) ?_ ?_
  · rintro i x H' hx ⟨s1, hD⟩
    have tk : (xs.take (i + 1)).filterMap F = (xs.take i).filterMap F ++ (F x).toList := by
      rw [List.take_add_one, hx, Option.toList_some, List.filterMap_append]
      cases e : F x <;> simp [e]
    have z := hs x (List.mem_of_getElem? hx) H' (fun r H4 => match r with
      | some y => ∃ acc, H4 D = some (.lst acc) ∧ acc.length < sizeLine ∧ (Same H1 (upd H4 D (.lst (acc ++ [y]))) ∧ upd H4 D (.lst (acc ++ [y])) D = some (.lst ((xs.take (i + 1)).filterMap F)))
      | none => Same H1 H4 ∧ H4 D = some (.lst ((xs.take (i + 1)).filterMap F))) s1 fun H4 s4 => ?_
    · exact z
    · cases e : F x with
      | none =>
        rw [e] at tk
        refine ⟨s1.trans s4, ?_⟩
        rw [tk, Option.toList_none, List.append_nil]
        exact s4 _ _ hD
      | some y =>
        rw [e] at tk
        refine ⟨_, s4 _ _ hD, ?_, fun q o h => ?_, ?_⟩
        · refine Nat.lt_of_lt_of_le ?_ (show 100000 ≤ sizeLine by decide)
          refine Nat.lt_of_le_of_lt (List.length_filterMap_le ..) (Nat.lt_of_le_of_lt ?_ hz)
          rw [List.length_take]
          exact Nat.min_le_right ..
        · rw [upd_ne (ne_of_none h nD)]
          exact s4 _ _ (s1 _ _ h)
        · rw [upd_same, tk]
          rfl
  · rintro H' ⟨s1, hD⟩
    rw [List.take_length] at hD
    exact hd H' s1 hD
/-- t + u of tuples -/
def rCatTS (K : PySem.W.Frag) : R2 := fun x y H Q => ∃ a b xs ys, x = .ref a ∧ y = .ref b ∧ SqT K H a xs ∧ SqT K H b ys ∧ xs.length + ys.length ≤ sizeLine ∧ ∀ p H', Same H H' → SqT K H' p (xs ++ ys) → Q (.ref p) H'
theorem op_catTS {X : Cx} : OpR X (binaryOp .Add) (rCatTS X.K) := by
  intro pins s σ H x y v u Q I rx ry h
  obtain ⟨a, b, xs, ys, h1, h2, h3, h4, h5, h6⟩ := h
  refine op_catA pins s σ H x y v u Q I rx ry ⟨a, b, xs, ys, h1, h2, h3, h4, h5, fun e => ?_, fun _ e => ?_, fun _ _ p hp => ?_⟩
  · exact h6 b H (Same.refl _) (by rw [e, List.nil_append]; exact h4)
  · exact h6 a H (Same.refl _) (by rw [e, List.append_nil]; exact h3)
  · exact h6 p _ (Same.new hp) (SqT.of upd_same)
/-- items told one for one -/
theorem fm_all {xs : List V} {F : V → V} : xs.filterMap (fun x => some (F x)) = xs.map F := by
  induction xs with
  | nil => rfl
  | cons x xs ih => rw [List.filterMap_cons, List.map_cons, ih]
def intF (p : Int → Bool) : V → Option V
  | .int c => if p c then some (.int c) else none
  | _ => none
theorem fm_ints (p : Int → Bool) : ∀ ns : List Int, (ns.map V.int).filterMap (intF p) = (ns.filter p).map V.int
  | [] => rfl
  | c :: ns => by
    rw [List.map_cons, List.filterMap_cons, List.filter_cons]
    have e : intF p (.int c) = if p c then some (.int c) else none := rfl
    rw [e]
    cases h : p c
    · simp [fm_ints p ns]
    · simp [fm_ints p ns]
end Lf

set_option Elab.async false
set_option linter.all false
set_option maxRecDepth 100000
set_option maxHeartbeats 4000000
/-! Rules of our own: f'{x}' and repr(x) by own methods. -/
namespace Lf
open PySem PySem.Spec PyProof.Rows L2
section
variable {X : Cx} {CX : CXT} {C g : Addr} {n : Nat} {sp : Sp} {E : XK}
/-- f'{e}', e an instance of C with an own __str__ -/
def tFmtOwn (C : Addr) (sp : Sp) (E : XK) (te : TE) : TE := fun σ H Q => te σ H fun x H1 => ∃ (a dx : Addr) (fs : List (Str × V)), x = .ref a ∧ H1 a = some (.ins C dx fs) ∧ sp [.ref a] H1 (fun z H' => ∃ y, z = .str y ∧ Q z H') E
theorem pe_fmtOwn {e : Expr} {te : TE} {pos : Pos} (hfm : PySem.W.findIn X.K (.ref C) "__format__" = some (some (.builtin "object.__format__"))) (hm : PySem.W.mroIn X.K C (.type "object") = some true)
    (hs : PySem.W.findIn X.K (.ref C) "__str__" = some (some (.ref g))) (hf : PySem.W.isFn X.K (.ref g) = true) (F : FnR X.prog X.w X.K X.mg X.base CX n g sp) (hr : Room (n + 1) X.A) (hx : Passes CX X E) (he : PE X e te) :
    PE X (.FormattedValue e (-1) none pos) (tFmtOwn C sp E te) := by
  refine ⟨fun pins s σ H Q I h => ?_⟩
  refine wpAny_FormattedValue_plain (thn (he.run pins s σ H _ I h) fun v s1 hv => ?_)
  obtain ⟨x, H1, I1, r1, a, dx, fs, rfl, ha, q⟩ := hv
  cases (show v = Value.ref a from r1)
  obtain ⟨mA, O, _⟩ := ins_get I1.hok ha
  obtain ⟨od, J, _⟩ := O.look
  have hr1 : Room n X.A.in1 := Room.in1 hr
  refine PySem.W.kfo_fieldS hr1.units0 I1.kIn J hfm hm hs hf ?_
  have I2 := I1.tok (s1.toks + 1)
  refine wpAny_mono (wpAny_call (run_atR (us := [.ref a]) (ws := [.ref a]) F hr1 I2.env0.in1 hx I2 (.cons rfl .nil) q)) (fun w s' z => ?_) fun _ _ x => x
  obtain ⟨z', H', I', rz, y, ey, qz⟩ := z
  subst ey
  obtain ⟨t, e⟩ := (show ∃ t, w = Value.str y t from rz)
  cases e
  exact ⟨.str y, H', I', ⟨t, rfl⟩, qz⟩
/-- repr(x) by an own __repr__ -/
theorem call_reprOwn (hs : PySem.W.findIn X.K (.ref C) "__repr__" = some (some (.ref g))) (hf : PySem.W.isFn X.K (.ref g) = true) (F : FnR X.prog X.w X.K X.mg X.base CX n g sp) (hr : Room (n + 1) X.A) (hx : Passes CX X E) :
    CallR X (.builtin "repr") (rStrOwn C sp E) := by
  intro pins s σ H xs us Q I r h
  obtain ⟨a, dx, fs, rfl, ha, q⟩ := h
  obtain ⟨u, rfl, ru⟩ := vals1 r
  cases (show u = Value.ref a from ru)
  obtain ⟨mA, O, _⟩ := ins_get I.hok ha
  obtain ⟨od, J, _⟩ := O.look
  obtain ⟨m, hF⟩ := I.fr
  have hr1 : Room n X.A.in1 := Room.in1 hr
  refine PySem.W.repr_K hr1.units0 hF I.ok.mod.kin J hs hf (wpAny_mono (wpAny_call (run_atR (us := [.ref a]) (ws := [.ref a]) F hr1 I.env0.in1 hx I (.cons rfl .nil) q)) (fun w s' z => ?_) fun _ _ x => x)
  obtain ⟨z', H', I', rz, y, ey, qz⟩ := z
  subst ey
  obtain ⟨t, e⟩ := (show ∃ t, w = Value.str y t from rz)
  cases e
  exact ⟨.str y, H', I', ⟨t, rfl⟩, qz⟩
end
end Lf

set_option Elab.async false
set_option linter.all false
set_option maxRecDepth 100000
set_option maxHeartbeats 4000000
set_option pp.maxSteps 1500
set_option pp.deepTerms false
namespace Toy
open PySem L2 Lf
def top (i : Nat) : Stmt := PySem.Challenge.pw_linkedfilters_k02_choices_combined.main.body.getD i (.Pass ⟨0, 0, 0, 0⟩)
abbrev s_is_integer : Stmt := top 1
abbrev s_Choice__init : Stmt := inClass (top 2) 0
abbrev s_Choice_first : Stmt := inClass (top 2) 1
abbrev s_Choice__contains : Stmt := inClass (top 2) 2
abbrev s_Choice__and : Stmt := inClass (top 2) 3
abbrev s_Choice__or : Stmt := inClass (top 2) 4
abbrev s_Choice__invert : Stmt := inClass (top 2) 5
abbrev s_Choice__eq : Stmt := inClass (top 2) 6
abbrev s_Choice__str : Stmt := inClass (top 2) 7
abbrev s_Choice__repr : Stmt := inClass (top 2) 8
abbrev s_l_bag : Stmt := top 4
abbrev s_l_take : Stmt := top 5
abbrev s_l_drawn : Stmt := top 7
abbrev s_l_has : Stmt := top 8
abbrev s_l_written : Stmt := top 9
abbrev s_l_merged : Stmt := top 10
abbrev s_l_agrees : Stmt := top 11
abbrev s_l_right : Stmt := top 12
abbrev s_law : Stmt := top 13
structure Ad where
  f_is_integer : Addr
  d_is_integer : FuncData
  f_Choice__init : Addr
  d_Choice__init : FuncData
  f_Choice_first : Addr
  d_Choice_first : FuncData
  p_Choice_first : Addr
  f_Choice__contains : Addr
  d_Choice__contains : FuncData
  f_Choice__and : Addr
  d_Choice__and : FuncData
  f_Choice__or : Addr
  d_Choice__or : FuncData
  f_Choice__invert : Addr
  d_Choice__invert : FuncData
  f_Choice__eq : Addr
  d_Choice__eq : FuncData
  f_Choice__str : Addr
  d_Choice__str : FuncData
  f_Choice__repr : Addr
  d_Choice__repr : FuncData
  f_l_bag : Addr
  d_l_bag : FuncData
  f_l_take : Addr
  d_l_take : FuncData
  f_l_drawn : Addr
  d_l_drawn : FuncData
  f_l_has : Addr
  d_l_has : FuncData
  f_l_written : Addr
  d_l_written : FuncData
  f_l_merged : Addr
  d_l_merged : FuncData
  f_l_agrees : Addr
  d_l_agrees : FuncData
  f_l_right : Addr
  d_l_right : FuncData
  f_law : Addr
  d_law : FuncData
  C_Choice : Addr
structure Txt (K : PySem.W.Frag) (mg : Str → Option Value) (a : Ad) : Prop where
  F_is_integer : Fun K "is_integer" "is_integer" s_is_integer a.f_is_integer a.d_is_integer
  k_is_integer : PySem.W.keepIn K (.ref a.f_is_integer) = true
  a_is_integer : Binds K a.d_is_integer ["value"] []
  m_is_integer : mg "is_integer" = some (.ref a.f_is_integer)
  F_Choice__init : FunD K "__init__" "Choice.__init__" (defArgs s_Choice__init) (defBody s_Choice__init) (defScope s_Choice__init) [] [("is_rest", .bl false)] a.f_Choice__init a.d_Choice__init
  k_Choice__init : PySem.W.keepIn K (.ref a.f_Choice__init) = true
  t_Choice__init : Meth K a.C_Choice "__init__" a.f_Choice__init
  f_Choice__init : PySem.W.findIn K (.ref a.C_Choice) "__init__" = some (some (.ref a.f_Choice__init))
  i_Choice__init : PySem.W.isFn K (.ref a.f_Choice__init) = true
  fi_Choice__init : PySem.W.fnIn K a.f_Choice__init = true
  F_Choice_first : Fun K "first" "Choice.first" s_Choice_first a.f_Choice_first a.d_Choice_first
  k_Choice_first : PySem.W.keepIn K (.ref a.f_Choice_first) = true
  a_Choice_first : Binds K a.d_Choice_first ["cls", "many"] []
  cm_Choice_first : ClX.CMet K a.C_Choice (.type "type") "first" a.p_Choice_first a.f_Choice_first
  F_Choice__contains : Fun K "__contains__" "Choice.__contains__" s_Choice__contains a.f_Choice__contains a.d_Choice__contains
  k_Choice__contains : PySem.W.keepIn K (.ref a.f_Choice__contains) = true
  a_Choice__contains : Binds K a.d_Choice__contains ["self", "value"] []
  t_Choice__contains : Meth K a.C_Choice "__contains__" a.f_Choice__contains
  f_Choice__contains : PySem.W.findIn K (.ref a.C_Choice) "__contains__" = some (some (.ref a.f_Choice__contains))
  i_Choice__contains : PySem.W.isFn K (.ref a.f_Choice__contains) = true
  fi_Choice__contains : PySem.W.fnIn K a.f_Choice__contains = true
  F_Choice__and : Fun K "__and__" "Choice.__and__" s_Choice__and a.f_Choice__and a.d_Choice__and
  k_Choice__and : PySem.W.keepIn K (.ref a.f_Choice__and) = true
  a_Choice__and : Binds K a.d_Choice__and ["self", "other"] []
  t_Choice__and : Meth K a.C_Choice "__and__" a.f_Choice__and
  f_Choice__and : PySem.W.findIn K (.ref a.C_Choice) "__and__" = some (some (.ref a.f_Choice__and))
  i_Choice__and : PySem.W.isFn K (.ref a.f_Choice__and) = true
  fi_Choice__and : PySem.W.fnIn K a.f_Choice__and = true
  F_Choice__or : Fun K "__or__" "Choice.__or__" s_Choice__or a.f_Choice__or a.d_Choice__or
  k_Choice__or : PySem.W.keepIn K (.ref a.f_Choice__or) = true
  a_Choice__or : Binds K a.d_Choice__or ["self", "other"] []
  t_Choice__or : Meth K a.C_Choice "__or__" a.f_Choice__or
  f_Choice__or : PySem.W.findIn K (.ref a.C_Choice) "__or__" = some (some (.ref a.f_Choice__or))
  i_Choice__or : PySem.W.isFn K (.ref a.f_Choice__or) = true
  fi_Choice__or : PySem.W.fnIn K a.f_Choice__or = true
  F_Choice__invert : Fun K "__invert__" "Choice.__invert__" s_Choice__invert a.f_Choice__invert a.d_Choice__invert
  k_Choice__invert : PySem.W.keepIn K (.ref a.f_Choice__invert) = true
  a_Choice__invert : Binds K a.d_Choice__invert ["self"] []
  t_Choice__invert : Meth K a.C_Choice "__invert__" a.f_Choice__invert
  f_Choice__invert : PySem.W.findIn K (.ref a.C_Choice) "__invert__" = some (some (.ref a.f_Choice__invert))
  i_Choice__invert : PySem.W.isFn K (.ref a.f_Choice__invert) = true
  fi_Choice__invert : PySem.W.fnIn K a.f_Choice__invert = true
  F_Choice__eq : Fun K "__eq__" "Choice.__eq__" s_Choice__eq a.f_Choice__eq a.d_Choice__eq
  k_Choice__eq : PySem.W.keepIn K (.ref a.f_Choice__eq) = true
  a_Choice__eq : Binds K a.d_Choice__eq ["self", "other"] []
  t_Choice__eq : Meth K a.C_Choice "__eq__" a.f_Choice__eq
  f_Choice__eq : PySem.W.findIn K (.ref a.C_Choice) "__eq__" = some (some (.ref a.f_Choice__eq))
  i_Choice__eq : PySem.W.isFn K (.ref a.f_Choice__eq) = true
  fi_Choice__eq : PySem.W.fnIn K a.f_Choice__eq = true
  F_Choice__str : Fun K "__str__" "Choice.__str__" s_Choice__str a.f_Choice__str a.d_Choice__str
  k_Choice__str : PySem.W.keepIn K (.ref a.f_Choice__str) = true
  a_Choice__str : Binds K a.d_Choice__str ["self"] []
  t_Choice__str : Meth K a.C_Choice "__str__" a.f_Choice__str
  f_Choice__str : PySem.W.findIn K (.ref a.C_Choice) "__str__" = some (some (.ref a.f_Choice__str))
  i_Choice__str : PySem.W.isFn K (.ref a.f_Choice__str) = true
  fi_Choice__str : PySem.W.fnIn K a.f_Choice__str = true
  F_Choice__repr : Fun K "__repr__" "Choice.__repr__" s_Choice__repr a.f_Choice__repr a.d_Choice__repr
  k_Choice__repr : PySem.W.keepIn K (.ref a.f_Choice__repr) = true
  a_Choice__repr : Binds K a.d_Choice__repr ["self"] []
  t_Choice__repr : Meth K a.C_Choice "__repr__" a.f_Choice__repr
  f_Choice__repr : PySem.W.findIn K (.ref a.C_Choice) "__repr__" = some (some (.ref a.f_Choice__repr))
  i_Choice__repr : PySem.W.isFn K (.ref a.f_Choice__repr) = true
  fi_Choice__repr : PySem.W.fnIn K a.f_Choice__repr = true
  F_l_bag : Fun K "_law_bag" "_law_bag" s_l_bag a.f_l_bag a.d_l_bag
  k_l_bag : PySem.W.keepIn K (.ref a.f_l_bag) = true
  a_l_bag : Binds K a.d_l_bag ["_law_script", "_law_at"] []
  m_l_bag : mg "_law_bag" = some (.ref a.f_l_bag)
  F_l_take : Fun K "_law_take" "_law_take" s_l_take a.f_l_take a.d_l_take
  k_l_take : PySem.W.keepIn K (.ref a.f_l_take) = true
  a_l_take : Binds K a.d_l_take ["_law_bag_here", "_law_many"] []
  m_l_take : mg "_law_take" = some (.ref a.f_l_take)
  F_l_drawn : Fun K "_law_drawn" "_law_drawn" s_l_drawn a.f_l_drawn a.d_l_drawn
  k_l_drawn : PySem.W.keepIn K (.ref a.f_l_drawn) = true
  a_l_drawn : Binds K a.d_l_drawn ["_law_bag_here"] []
  m_l_drawn : mg "_law_drawn" = some (.ref a.f_l_drawn)
  F_l_has : Fun K "_law_has" "_law_has" s_l_has a.f_l_has a.d_l_has
  k_l_has : PySem.W.keepIn K (.ref a.f_l_has) = true
  a_l_has : Binds K a.d_l_has ["_law_twin", "_law_value"] []
  m_l_has : mg "_law_has" = some (.ref a.f_l_has)
  F_l_written : Fun K "_law_written" "_law_written" s_l_written a.f_l_written a.d_l_written
  k_l_written : PySem.W.keepIn K (.ref a.f_l_written) = true
  a_l_written : Binds K a.d_l_written ["_law_twin"] []
  m_l_written : mg "_law_written" = some (.ref a.f_l_written)
  F_l_merged : Fun K "_law_merged" "_law_merged" s_l_merged a.f_l_merged a.d_l_merged
  k_l_merged : PySem.W.keepIn K (.ref a.f_l_merged) = true
  a_l_merged : Binds K a.d_l_merged ["_law_one", "_law_other"] []
  m_l_merged : mg "_law_merged" = some (.ref a.f_l_merged)
  F_l_agrees : Fun K "_law_agrees" "_law_agrees" s_l_agrees a.f_l_agrees a.d_l_agrees
  k_l_agrees : PySem.W.keepIn K (.ref a.f_l_agrees) = true
  a_l_agrees : Binds K a.d_l_agrees ["_law_choice", "_law_twin", "_law_numbers"] []
  m_l_agrees : mg "_law_agrees" = some (.ref a.f_l_agrees)
  F_l_right : Fun K "_law_right" "_law_right" s_l_right a.f_l_right a.d_l_right
  k_l_right : PySem.W.keepIn K (.ref a.f_l_right) = true
  a_l_right : Binds K a.d_l_right ["_law_bag_here"] []
  m_l_right : mg "_law_right" = some (.ref a.f_l_right)
  F_law : Fun K "law" "law" s_law a.f_law a.d_law
  k_law : PySem.W.keepIn K (.ref a.f_law) = true
  a_law : Binds K a.d_law ["_law_script"] []
  m_law : mg "law" = some (.ref a.f_law)
  ct_Choice : ClsT K a.C_Choice
  m_Choice : mg "Choice" = some (.ref a.C_Choice)
  mk_Choice : Mk K a.C_Choice a.f_Choice__init
  r_Choice : ClX.CRead K a.C_Choice (.type "type")
  nq_Choice : PySem.W.noSeq K a.C_Choice = true
  fm_Choice : PySem.W.findIn K (.ref a.C_Choice) "__format__" = some (some (.builtin "object.__format__"))
  sf_Choice : PySem.W.selfFirst K a.C_Choice = true
  ki_Choice_int : PySem.W.kitOne K (.ref a.C_Choice) (.type "int") = some false
  n_Choice_listed : NoAttr K a.C_Choice "listed"
  n_Choice_is_rest : NoAttr K a.C_Choice "is_rest"
  b_len : mg "len" = none
  b_abs : mg "abs" = none
  b_int : mg "int" = none
  b_range : mg "range" = none
  b_isinstance : mg "isinstance" = none
  b_max : mg "max" = none
  b_min : mg "min" = none
  b_list : mg "list" = none
  b_tuple : mg "tuple" = none
  b_all : mg "all" = none
  b_bool : mg "bool" = none
  b_set : mg "set" = none
  b_sorted : mg "sorted" = none
  b_str : mg "str" = none
  b_repr : mg "repr" = none
theorem Txt.c_Choice {K : PySem.W.Frag} {mg : Str → Option Value} {a : Ad} (T : Txt K mg a) : Cls K a.C_Choice := T.ct_Choice.cl
theorem Txt.o_Choice {K : PySem.W.Frag} {mg : Str → Option Value} {a : Ad} (T : Txt K mg a) : PySem.W.mroIn K a.C_Choice (.type "object") = some true := T.ct_Choice.cm
theorem Txt.ne_Choice {K : PySem.W.Frag} {mg : Str → Option Value} {a : Ad} (T : Txt K mg a) : PySem.W.findIn K (.ref a.C_Choice) "__ne__" = some (some (.builtin "object.__ne__")) := T.ct_Choice.ne
section
variable {P : Program} {w : World} {K : PySem.W.Frag} {mg : Str → Option Value} {base : Heap} {a : Ad}


theorem inV_ints (i : Int) : ∀ rs : List Int, inV (.int i) (rs.map V.int) = decide (i ∈ rs)
  | [] => rfl
  | r :: rs => by
    show (eqV (.int r) (.int i) || inV (.int i) (rs.map V.int)) = decide (i ∈ r :: rs)
    rw [inV_ints i rs]
    show ((r == i) || decide (i ∈ rs)) = decide (i ∈ r :: rs)
    by_cases h : r = i
    · subst h; simp
    · have h' : ¬ i = r := fun z => h z.symm
      simp [h, h']
theorem flat_ints : ∀ rs : List Int, (rs.map V.int).all flatV = true
  | [] => rfl
  | r :: rs => by rw [List.map_cons, List.all_cons, flat_ints rs]; rfl
theorem intF_yes {p : Int → Bool} {c : Int} (h : p c = true) : intF p (.int c) = some (.int c) := by show (if p c then _ else _) = _; rw [h]; rfl
theorem intF_no {p : Int → Bool} {c : Int} (h : p c = false) : intF p (.int c) = none := by show (if p c then _ else _) = _; rw [h]; rfl
theorem blD (x y : Bool) : decide (V.bl x = V.bl y) = (x == y) := by cases x <;> cases y <;> rfl
/-- whether an integer is in -/
def has (ls : List Int) (b : Bool) (k : Int) : Bool := decide (k ∈ ls) != b
def Rise (ls : List Int) : Prop := ls.Pairwise (· < ·)
theorem has_eq {ls ms : List Int} {b : Bool} (h1 : Rise ls) (h2 : Rise ms) (h : ∀ k, has ls b k = has ms b k) : ls = ms := by
  refine rise_eq h1 h2 fun k => ?_
  have := h k
  unfold has at this
  cases b <;> by_cases p : k ∈ ls <;> by_cases q : k ∈ ms <;> simp_all

/-- is_integer: what its answer is -/
def spIsInt (K : PySem.W.Frag) : Sp := fun vs H Q _ => ∃ (v : V), vs = [v] ∧ ((∃ i, v = .int i ∧ Q (.bl true) H) ∨ (∃ b, v = .bl b ∧ Q (.bl false) H) ∨
  ∃ t : Value, TyX K H v t ∧ PySem.W.kitOne K t (.type "int") = some false ∧ Q (.bl false) H)
theorem sc_is_integer : FnScope ["value"] ["value"] (defScope s_is_integer) := ⟨rfl, rfl, rfl, by decide +kernel, rfl, by decide +kernel, by decide +kernel⟩
theorem ok_is_integer (T : Txt K mg a) : FnOk P w K mg base CX0 1 a.f_is_integer a.d_is_integer ["value"] (spIsInt K) := by
  refine T.F_is_integer.ok sc_is_integer (fun vs H Q E h => ?_) (fun cdv A outer s H vs Q E hr h => ?_)
  · obtain ⟨v, rfl, _⟩ := h
    rfl
  · obtain ⟨v, rfl, k⟩ := h
    refine ⟨_, (pss_one (ps_ret (pe_and (pe_callB call_isi (by rfl) T.b_isinstance (by decide +kernel) (pa_cons (pv 0) (pa_cons (pe_bltn (v := .ty "int") (by rfl) T.b_int (by decide +kernel) rfl) pa_nil))) (pe_one (pe_not (pe_callB call_isi (by rfl) T.b_isinstance (by decide +kernel) (pa_cons (pv 0) (pa_cons (pe_bltn (v := .ty "bool") (by rfl) T.b_bool (by decide +kernel) rfl) pa_nil)))))))), ?_⟩
    rcases k with ⟨i, rfl, k⟩ | ⟨b, rfl, k⟩ | ⟨t, ty, hk, k⟩
    · refine ⟨_, rfl, _, _, _, _, true, rfl, .ty _, .base (.int i), kit_ty (by decide +kernel), _, rfl, iteT ?_⟩
      exact ⟨_, rfl, _, _, _, _, false, rfl, .ty _, .base (.int i), kit_ty (by decide +kernel), _, rfl, k⟩
    · refine ⟨_, rfl, _, _, _, _, true, rfl, .ty _, .base (.bl b), kit_ty (by decide +kernel), _, rfl, iteT ?_⟩
      exact ⟨_, rfl, _, _, _, _, true, rfl, .ty _, .base (.bl b), kit_ty (by decide +kernel), _, rfl, k⟩
    · exact ⟨_, rfl, _, _, _, _, false, rfl, .ty _, ty, hk, _, rfl, iteF k⟩
def fl_Choice (x0 : Addr) (x1 : Bool) : List (Str × V) := [("listed", .ref x0), ("is_rest", .bl x1)]
theorem lk_Choice_listed (x0 : Addr) (x1 : Bool) : (fl_Choice x0 x1).lookup ("listed" : Str) = some (.ref x0) := by unfold fl_Choice; exact lk0
theorem lk_Choice_is_rest (x0 : Addr) (x1 : Bool) : (fl_Choice x0 x1).lookup ("is_rest" : Str) = some (.bl x1) := by unfold fl_Choice; rw [lk1 (by decide +kernel), lk0]
theorem pf_Choice_is_rest (x0 : Addr) (x1 : Bool) : putF "is_rest" (.bl x1) [("listed", .ref x0)] = ([("listed", .ref x0), ("is_rest", .bl x1)] : List (Str × V)) := by rw [pf1 (by decide +kernel)]; rfl
/-- a choice: these integers, or all others -/
def ChAt (a : Ad) (H : Hp) (x : Addr) (ls : List Int) (b : Bool) : Prop := Rise ls ∧ ∃ dx p, H x = some (.ins a.C_Choice dx (fl_Choice p b)) ∧ TupD H p (ls.map V.int)
theorem ChAt.keep {H H' : Hp} {x : Addr} {ls : List Int} {b : Bool} (h : ChAt a H x ls b) (s : Same H H') : ChAt a H' x ls b := by
  obtain ⟨h0, dx, p, h1, h2⟩ := h
  exact ⟨h0, dx, p, s _ _ h1, h2.keep s⟩
theorem ChAt.but {H H' : Hp} {x c : Addr} {ls : List Int} {b : Bool} (h : ChAt a H x ls b) (s : But c H H') (hb : ∃ xs, H c = some (.lst xs)) : ChAt a H' x ls b := by
  obtain ⟨h0, dx, p, h1, ⟨o, h2, h3⟩⟩ := h
  obtain ⟨xs, hb⟩ := hb
  exact ⟨h0, dx, p, s _ _ h1 (ne_of h1 hb (by intro z; cases z)), o, s _ _ h2 (ne_of h2 hb (by intro z; cases z)), h3⟩
theorem ChAt.ins {H : Hp} {x : Addr} {ls : List Int} {b : Bool} (h : ChAt a H x ls b) : ∃ dx fs, H x = some (.ins a.C_Choice dx fs) := by
  obtain ⟨h0, dx, p, h1, h2⟩ := h
  exact ⟨dx, _, h1⟩
def spCInit (a : Ad) : Sp := fun vs H Q _ => ∃ (x dx p : Addr) (ns : List Int) (b : Bool), vs = [.ref x, .bl b, .ref p] ∧ H x = some (.ins a.C_Choice dx []) ∧ H p = some (.tup (ns.map V.int)) ∧ ns.length ≤ 4000 ∧
  ∀ ls H', Rise ls → (∀ k, k ∈ ls ↔ k ∈ ns) → ls.length ≤ ns.length → But x H H' → ChAt a H' x ls b → Q .non H'
theorem sc_Choice__init : FnScope ["self", "is_rest", "values"] ["self", "is_rest", "values"] (defScope s_Choice__init) := ⟨rfl, rfl, rfl, by decide +kernel, rfl, by decide +kernel, by decide +kernel⟩
theorem bv_Choice : BV1 "__init__" "Choice.__init__" (defArgs s_Choice__init) (defBody s_Choice__init) (defScope s_Choice__init) "self" "is_rest" "values" :=
  ⟨fun _ _ _ _ _ _ _ _ rest => match rest with | [] => ⟨_, _, _, _, _, _, rfl, rfl, rfl⟩ | _ :: _ => ⟨_, _, _, _, _, _, rfl, rfl, rfl⟩,
   fun _ _ _ _ _ _ _ _ rest => match rest with | [] => rfl | _ :: _ => rfl⟩
theorem init_Choice (T : Txt K mg a) : FnR P w K mg base CX0 1 a.f_Choice__init (stS (spCInit a) (.bl false)) ∧ FnRK P w K mg base CX0 1 a.f_Choice__init "is_rest" (stS (spCInit a)) := by
  refine fn_starK T.F_Choice__init bv_Choice sc_Choice__init StX.cxUp_none (fun cdv A outer s H vs Q E hr h => ?_)
  obtain ⟨x, dx, p, ns, b, rfl, hx, hp, hl, k⟩ := h
  refine ⟨_, (pss_cons (ps_fld (pv 0) (pe_callTy call_tupleD (by rfl) T.b_tuple (by decide +kernel) (pa_cons (pe_callB (cr_sortedSetA rfl) (by rfl) T.b_sorted (by decide +kernel) (pa_cons (pe_callTy (cr_setTI rfl) (by rfl) T.b_set (by decide +kernel) (pa_cons (pv 2) pa_nil)) pa_nil)) pa_nil)) rfl)
      (pss_one (ps_fld (pv 0) (pv 1) rfl))), ?_⟩
  refine ⟨_, rfl, p, ns, rfl, SqT.of hp, hl, fun q c H1 nq s1 hq hc => ?_⟩
  refine ⟨q, _, c, rfl, hq, fun ls q2 H2 rise mem len nq2 s2 hq2 => ?_⟩
  refine ⟨q2, _, rfl, SqL.of hq2, fun t H3 nt s3 ht => ?_⟩
  have sA : Same H H3 := (s1.trans s2).trans s3
  have hx3 := sA _ _ hx
  refine ⟨_, rfl, x, a.C_Choice, dx, [], rfl, hx3, T.c_Choice, T.n_Choice_listed, (by show 0 < 1000; decide), _, rfl, _, rfl, x, a.C_Choice, dx, _, rfl, upd_same, T.c_Choice, T.n_Choice_is_rest, (by show 1 < 1000; decide), ?_⟩
  show Q .non (upd (upd H3 x _) x (.ins a.C_Choice dx (putF "is_rest" (.bl b) [("listed", .ref t)])))
  rw [two_upd, pf_Choice_is_rest]
  obtain ⟨o, ho, hd⟩ := ht
  have ntx : t ≠ x := ne_of ho hx3 (by intro z; cases z)
  refine k ls _ rise (fun k => (mem k).trans ⟨of_decide_eq_true, decide_eq_true⟩) (by omega) (fun q o e nb => ?_) ⟨rise, dx, t, upd_same, o, by rw [upd_ne ntx]; exact ho, hd⟩
  rw [upd_ne nb]
  exact sA q o e
/-- Choice(..): a new choice -/
def rCh (a : Ad) (b : Bool) : List V → Hp → VK → Prop := fun vs H Q => ∃ ns : List Int, vs = ns.map V.int ∧ ns.length ≤ 4000 ∧
  ∀ ls x H', (∀ k, k ∈ ls ↔ k ∈ ns) → ls.length ≤ ns.length → H x = none → Same H H' → ChAt a H' x ls b → Q (.ref x) H'
def rChK (a : Ad) : List V → List V → Hp → VK → Prop := fun vs zs H Q => ∃ b, zs = [.bl b] ∧ rCh a b vs H Q
theorem made_ch {H : Hp} {x dx : Addr} {ns : List Int} {b : Bool} {Q : VK} {E : XK} (nx : H x = none) (nd : H dx = none) (hl : ns.length ≤ 4000)
    (k : ∀ ls x H', (∀ k, k ∈ ls ↔ k ∈ ns) → ls.length ≤ ns.length → H x = none → Same H H' → ChAt a H' x ls b → Q (.ref x) H') :
    stS (spCInit a) (.bl b) (V.ref x :: ns.map V.int) (upd (upd H dx (.own x)) x (.ins a.C_Choice dx [])) (fun v H2 => v = .non ∧ Q (.ref x) H2) E := by
  refine ⟨_, _, rfl, by rw [List.length_map]; exact sz_of (by omega), fun p H' np s' hp => ?_⟩
  exact ⟨x, dx, p, ns, b, rfl, s' _ _ upd_same, hp, hl, fun ls H2 rise mem len bt ch => ⟨rfl, k ls x H2 mem len nx (made_same nx nd ((But.of s').trans bt)) ch⟩⟩
theorem mkR_Choice {X : Cx} (T : Txt X.K X.mg a) (hr : Room 2 X.A) : CallR X (.ref a.C_Choice) (rCh a false) := by
  intro pins s σ H vs us Q I r h
  obtain ⟨ns, rfl, hl, k⟩ := h
  exact mk_call (E := E0) T.mk_Choice (init_Choice (P := X.prog) (w := X.w) (base := X.base) T).1 hr pass0 pins s σ H _ us Q I r fun x dx nx nd _ => made_ch nx nd hl k
theorem mkK_Choice {X : Cx} (T : Txt X.K X.mg a) (hr : Room 2 X.A) : CallRK X (.ref a.C_Choice) ["is_rest"] (rChK a) := by
  intro pins s σ H vs zs us ws Q I r rz h
  obtain ⟨b, rfl, ns, rfl, hl, k⟩ := h
  exact mk_callK (E := E0) T.mk_Choice (init_Choice (P := X.prog) (w := X.w) (base := X.base) T).2 hr pass0 pins s σ H _ _ us ws Q I r rz ⟨_, rfl, fun x dx nx nd _ => made_ch nx nd hl k⟩

end
end Toy

set_option Elab.async false
set_option linter.all false
set_option maxRecDepth 100000
set_option maxHeartbeats 4000000
set_option pp.maxSteps 1500
set_option pp.deepTerms false
namespace Toy
open PySem L2 Lf
section
variable {P : Program} {w : World} {K : PySem.W.Frag} {mg : Str → Option Value} {base : Heap} {a : Ad}

theorem mem_rg {m : Int} {k : Int} (hm : 0 ≤ m) : V.int k ∈ rgV 0 m ↔ 0 ≤ k ∧ k < m := by
  unfold rgV
  rw [List.mem_map]
  constructor
  · rintro ⟨j, hj, e⟩
    cases e
    have := List.mem_range.mp hj
    omega
  · rintro ⟨h1, h2⟩
    exact ⟨k.toNat, List.mem_range.mpr (by omega), by congr 1; omega⟩
def rgI (m : Int) : List Int := (List.range m.toNat).map fun (i : Nat) => (i : Int)
theorem rgV_I {m : Int} : rgV 0 m = (rgI m).map V.int := by
  unfold rgV rgI
  rw [List.map_map, Int.sub_zero]
  refine List.map_congr_left fun i _ => ?_
  show V.int (0 + (i : Int)) = V.int (i : Int)
  rw [Int.zero_add]
theorem rgI_len {m : Int} : (rgI m).length = m.toNat := by
  unfold rgI
  rw [List.length_map, List.length_range]
theorem rgI_mem {m k : Int} : k ∈ rgI m ↔ 0 ≤ k ∧ k < m := by
  unfold rgI
  rw [List.mem_map]
  constructor
  · rintro ⟨j, hj, rfl⟩
    have := List.mem_range.mp hj
    omega
  · rintro ⟨h1, h2⟩
    exact ⟨k.toNat, List.mem_range.mpr (by omega), by omega⟩
theorem rgI_rise {m : Int} : Rise (rgI m) := by
  unfold rgI Rise
  rw [List.pairwise_map]
  exact List.Pairwise.imp (fun h => by omega) List.pairwise_lt_range
/-- Choice.first -/
def spCFirst (a : Ad) : Sp := fun vs H Q _ => ∃ (m : Int), vs = [.ref a.C_Choice, .int m] ∧ 0 ≤ m ∧ m ≤ 4000 ∧ ∀ x H', H x = none → Same H H' → ChAt a H' x (rgI m) false → Q (.ref x) H'
theorem sc_Choice_first : FnScope ["cls", "many", "values"] ["cls", "many"] (defScope s_Choice_first) := ⟨rfl, rfl, rfl, by decide +kernel, rfl, by decide +kernel, by decide +kernel⟩
theorem ok_Choice_first (T : Txt K mg a) : FnOk P w K mg base CX0 3 a.f_Choice_first a.d_Choice_first ["cls", "many"] (spCFirst a) := by
  refine T.F_Choice_first.ok sc_Choice_first (fun vs H Q E h => ?_) (fun cdv A outer s H vs Q E hr h => ?_)
  · obtain ⟨m, rfl, _⟩ := h
    rfl
  · obtain ⟨m, rfl, h0, h1, k⟩ := h
    refine ⟨_, (pss_cons (ps_set (i := 2) sc_Choice_first.nd rfl (.inl rfl) (pe_listRg rfl (by rfl) T.b_list (prg_1 (by rfl) T.b_range (pv 1))))
      (pss_one (ps_ret (pe_mkSL (i := 0) (mkR_Choice T (hr.mono (by decide))) T.mk_Choice.kp rfl (.inl rfl) (pv 2))))), ?_⟩
    refine ⟨_, rfl, _, rfl, RgOk.of_le (by decide) (by omega) (by decide) (by omega), fun q nq => ?_⟩
    refine ⟨rfl, _, rfl, q, _, rfl, .inr (SqL.of upd_same), rgI m, rgV_I, by rw [rgI_len]; omega, fun ls x H' mem len nx s1 ch => ?_⟩
    have e : ls = rgI m := rise_eq ch.1 rgI_rise mem
    rw [e] at ch
    exact k x H' (Same.free (Same.new nq) nx) ((Same.new nq).trans s1) ch

def spCHas (K : PySem.W.Frag) (a : Ad) : Sp := fun vs H Q _ => ∃ (x : Addr) (ls : List Int) (b : Bool) (v : V), vs = [.ref x, v] ∧ ChAt a H x ls b ∧
  ((∃ i : Int, v = .int i ∧ Q (.bl (decide (0 ≤ i) && has ls b i)) H) ∨ (∃ c, v = .bl c ∧ Q (.bl false) H) ∨ ∃ t : Value, TyX K H v t ∧ PySem.W.kitOne K t (.type "int") = some false ∧ Q (.bl false) H)
theorem sc_Choice__contains : FnScope ["self", "value"] ["self", "value"] (defScope s_Choice__contains) := ⟨rfl, rfl, rfl, by decide +kernel, rfl, by decide +kernel, by decide +kernel⟩
theorem ok_Choice__contains (T : Txt K mg a) : FnOk P w K mg base CX0 2 a.f_Choice__contains a.d_Choice__contains ["self", "value"] (spCHas K a) := by
  refine T.F_Choice__contains.ok sc_Choice__contains (fun vs H Q E h => ?_) (fun cdv A outer s H vs Q E hr h => ?_)
  · obtain ⟨x, ls, b, v, rfl, _⟩ := h
    rfl
  · obtain ⟨x, ls, b, v, rfl, hx, k⟩ := h
    refine ⟨_, (pss_cons (ps_if (PW.pt (pw_or (pt_not (pt_val (pe_call (ok_is_integer T) (hr.mono (by decide)) rfl T.m_is_integer T.k_is_integer T.a_is_integer .nil pass0 (pa_cons (pv 1) pa_nil)))) (pw_or1 (pt_cmpR op_lt (pv 1) pe_int (nomark _))))) (pss_one (ps_ret pe_bl)) pss_nil)
      (pss_one (ps_ret (pe_cmpR op_ne (pe_cmpR op_in_seq (pv 1) (pe_fld (pv 0) rfl) rfl) (pe_fld (pv 0) rfl) (nomark _))))), ?_⟩
    obtain ⟨rise, dx, p, h1, h2⟩ := hx
    rcases k with ⟨i, rfl, k⟩ | ⟨c, rfl, k⟩ | ⟨t, ty, hk, k⟩
    · refine ⟨_, rfl, _, rfl, .inl ⟨i, rfl, _, rfl, ?_⟩⟩
      refine iteF ⟨_, rfl, _, _, rfl, rfl, _, rfl, ?_⟩
      refine ite2 (fun h => ?_) (fun h => ?_)
      · have h' : i < 0 := of_decide_eq_true h
        rw [decide_eq_false (by omega), Bool.false_and] at k
        exact k
      · have h' : ¬ i < 0 := fun z => h (decide_eq_true z)
        rw [decide_eq_true (by omega : 0 ≤ i), Bool.true_and] at k
        refine ⟨_, rfl, _, rfl, x, a.C_Choice, dx, _, _, rfl, h1, T.c_Choice, T.n_Choice_listed, lk_Choice_listed _ _, p, _, rfl, .inr h2.seq, rfl, flat_ints ls, ?_⟩
        refine ⟨_, rfl, x, a.C_Choice, dx, _, _, rfl, h1, T.c_Choice, T.n_Choice_is_rest, lk_Choice_is_rest _ _, rfl, ?_⟩
        rw [inV_ints]
        show Q (.bl (!decide (V.bl (decide (i ∈ ls)) = V.bl b))) H
        rw [blD]
        exact k
    · exact ⟨_, rfl, _, rfl, .inr (.inl ⟨c, rfl, _, rfl, iteT k⟩)⟩
    · exact ⟨_, rfl, _, rfl, .inr (.inr ⟨t, ty, hk, _, rfl, iteT k⟩)⟩

def spCInv (a : Ad) : Sp := fun vs H Q _ => ∃ (x : Addr) (ls : List Int) (b : Bool), vs = [.ref x] ∧ ChAt a H x ls b ∧ ls.length ≤ 4000 ∧ ∀ z H', H z = none → Same H H' → ChAt a H' z ls (!b) → Q (.ref z) H'
theorem sc_Choice__invert : FnScope ["self", "values", "is_rest"] ["self"] (defScope s_Choice__invert) := ⟨rfl, rfl, rfl, by decide +kernel, rfl, by decide +kernel, by decide +kernel⟩
theorem ok_Choice__invert (T : Txt K mg a) : FnOk P w K mg base CX0 3 a.f_Choice__invert a.d_Choice__invert ["self"] (spCInv a) := by
  refine T.F_Choice__invert.ok sc_Choice__invert (fun vs H Q E h => ?_) (fun cdv A outer s H vs Q E hr h => ?_)
  · obtain ⟨x, ls, b, rfl, _⟩ := h
    rfl
  · obtain ⟨x, ls, b, rfl, hx, hl, k⟩ := h
    refine ⟨_, (pss_cons (ps_par (i := 1) (j := 2) (by rfl) sc_Choice__invert.nd rfl rfl (by decide) rfl rfl (pa_cons (pe_fld (pv 0) rfl) (pa_cons (pe_not (pe_fld (pv 0) rfl)) pa_nil)) (by rfl))
      (pss_one (ps_ret (pe_mkSK (mkK_Choice T (hr.mono (by decide))) T.mk_Choice.kp rfl T.m_Choice (pv 1) (pk_cons (pv 2) pk_nil))))), ?_⟩
    obtain ⟨rise, dx, p, h1, h2⟩ := hx
    refine ⟨_, rfl, x, a.C_Choice, dx, _, _, rfl, h1, T.c_Choice, T.n_Choice_listed, lk_Choice_listed _ _, _, rfl, x, a.C_Choice, dx, _, _, rfl, h1, T.c_Choice, T.n_Choice_is_rest, lk_Choice_is_rest _ _, ?_⟩
    refine ⟨_, rfl, _, _, rfl, _, rfl, _, rfl, p, _, rfl, .inl h2.seq, _, rfl, ls, rfl, hl, fun ms z H' mem len nz s1 ch => ?_⟩
    have e : ms = ls := rise_eq ch.1 rise mem
    rw [e] at ch
    exact k z H' nz s1 ch

def spCEq (K : PySem.W.Frag) (a : Ad) : Sp := fun vs H Q _ => ∃ (x : Addr) (ls : List Int) (b : Bool) (y : V), vs = [.ref x, y] ∧ ChAt a H x ls b ∧
  ((∃ q ms c, y = .ref q ∧ ChAt a H q ms c ∧ Q (.bl (decide (ls = ms) && (b == c))) H) ∨ ∃ t : String, TyX K H y (.type t) ∧ (fastBuiltinMro t).any noRefs = true ∧ Q (.bl false) H)
theorem sc_Choice__eq : FnScope ["self", "other"] ["self", "other"] (defScope s_Choice__eq) := ⟨rfl, rfl, rfl, by decide +kernel, rfl, by decide +kernel, by decide +kernel⟩
theorem ok_Choice__eq (T : Txt K mg a) : FnOk P w K mg base CX0 1 a.f_Choice__eq a.d_Choice__eq ["self", "other"] (spCEq K a) := by
  refine T.F_Choice__eq.ok sc_Choice__eq (fun vs H Q E h => ?_) (fun cdv A outer s H vs Q E hr h => ?_)
  · obtain ⟨x, ls, b, y, rfl, _⟩ := h
    rfl
  · obtain ⟨x, ls, b, y, rfl, hx, k⟩ := h
    refine ⟨_, (pss_one (ps_ret (pe_and (pe_callB call_isi (by rfl) T.b_isinstance (by decide +kernel) (pa_cons (pv 1) (pa_cons (pe_glob (v := .ref a.C_Choice) rfl T.m_Choice rfl) pa_nil))) (pe_and (pe_cmpR (op_eqIT hr.units) (pe_fld (pv 0) rfl) (pe_fld (pv 1) rfl) (nomark _)) (pe_one (pe_cmpR op_eq (pe_fld (pv 0) rfl) (pe_fld (pv 1) rfl) (nomark _))))))), ?_⟩
    obtain ⟨rise, dx, p, h1, h2⟩ := hx
    rcases k with ⟨q, ms, c, rfl, ⟨rise2, dq, p', h3, h4⟩, k⟩ | ⟨t, ty, ht, k⟩
    · refine ⟨_, rfl, _, _, _, _, true, rfl, .own _, T.ct_Choice.ty h3, kit_own, _, rfl, iteT ?_⟩
      refine ⟨_, rfl, x, a.C_Choice, dx, _, _, rfl, h1, T.c_Choice, T.n_Choice_listed, lk_Choice_listed _ _, _, rfl, q, a.C_Choice, dq, _, _, rfl, h3, T.c_Choice, T.n_Choice_listed, lk_Choice_listed _ _, p, p', ls, ms, rfl, rfl, h2.seq, h4.seq, _, rfl, ?_⟩
      refine ite2 (fun h => ?_) (fun h => ?_)
      · refine ⟨_, rfl, x, a.C_Choice, dx, _, _, rfl, h1, T.c_Choice, T.n_Choice_is_rest, lk_Choice_is_rest _ _, _, rfl, q, a.C_Choice, dq, _, _, rfl, h3, T.c_Choice, T.n_Choice_is_rest, lk_Choice_is_rest _ _, rfl, ?_⟩
        rw [h, Bool.true_and] at k
        rw [blD]
        exact k
      · rw [Bool.eq_false_iff.mpr h, Bool.false_and] at k
        exact k
    · exact ⟨_, rfl, _, _, _, _, false, rfl, .own _, ty, T.ct_Choice.kitTy ht, _, rfl, iteF k⟩

end
end Toy

set_option Elab.async false
set_option linter.all false
set_option maxRecDepth 100000
set_option maxHeartbeats 4000000
set_option pp.maxSteps 1500
set_option pp.deepTerms false
namespace Toy
open PySem L2 Lf
section
variable {P : Program} {w : World} {K : PySem.W.Frag} {mg : Str → Option Value} {base : Heap} {a : Ad}

def spCor (a : Ad) : Sp := fun vs H Q _ => ∃ (x y : Addr) (lx ly : List Int) (bx bY : Bool), vs = [.ref x, .ref y] ∧ ChAt a H x lx bx ∧ ChAt a H y ly bY ∧ lx.length + ly.length ≤ 4000 ∧
  ∀ z ls H', (∀ k, has ls (bx || bY) k = (has lx bx k || has ly bY k)) → ls.length ≤ lx.length + ly.length → Same H H' → ChAt a H' z ls (bx || bY) → Q (.ref z) H'
theorem sc_Choice__or : FnScope ["self", "other", "values", "value"] ["self", "other"] (defScope s_Choice__or) := ⟨rfl, rfl, rfl, by decide +kernel, rfl, by decide +kernel, by decide +kernel⟩
theorem ok_Choice__or (T : Txt K mg a) : FnOk P w K mg base CX0 3 a.f_Choice__or a.d_Choice__or ["self", "other"] (spCor a) := by
  refine T.F_Choice__or.ok sc_Choice__or (fun vs H Q E h => ?_) (fun cdv A outer s H vs Q E hr h => ?_)
  · obtain ⟨x, y, lx, ly, bx, bY, rfl, _⟩ := h
    rfl
  · obtain ⟨x, y, lx, ly, bx, bY, rfl, cx, cy, hl, k⟩ := h
    refine ⟨_, (pss_cons (ps_if (PW.pt (pw_and (pt_not (pt_val (pe_fld (pv 0) rfl))) (pw_and1 (pt_not (pt_val (pe_fld (pv 1) rfl)))))) (pss_cons (ps_set (i := 2) sc_Choice__or.nd rfl (.inl rfl) (pe_op op_catTS (pe_fld (pv 0) rfl) (pe_fld (pv 1) rfl)))
      (pss_one (ps_ret (pe_mkS (mkR_Choice T (hr.mono (by decide))) T.mk_Choice.kp rfl T.m_Choice (pv 2))))) pss_nil)
      (pss_cons (ps_if (pt_val (pe_fld (pv 0) rfl)) (pss_cons (ps_setLc (i := 2) (own := [("value", 3)]) (g := gName 3) (tt := (tTest (tOp rEq (tOp (rIn K false) (tVar 3) (tFld K (tVar 1) "listed")) (tFld K (tVar 1) "is_rest")))) (te := (tVar 3)) rfl sc_Choice__or.nd rfl rfl (sw_true rfl rfl rfl (by decide +kernel)) (pi_tup (pe_fld (pv 0) rfl)) (blkOk_by (own := [("value", 3)]) (N := ["self", "other", "values", "value"]) (sc := defScope s_Choice__or) (by decide +kernel)) (fun _ _ _ _ _ => (pg_name (i := 3) sc_Choice__or.nd rfl (.inl rfl))) (fun _ _ _ _ _ => (pts_one (pt_cmpR op_eq (pe_cmpR op_in_seq (pv 3) (pe_fld (pv 1) rfl) rfl) (pe_fld (pv 1) rfl) (nomark _)))) (fun _ _ _ _ _ => (pv 3)))
      (pss_one (ps_ret (pe_mkSK (mkK_Choice T (hr.mono (by decide))) T.mk_Choice.kp rfl T.m_Choice (pv 2) (pk_cons pe_bl pk_nil))))) pss_nil)
      (pss_cons (ps_setLc (i := 2) (own := [("value", 3)]) (g := gName 3) (tt := (tTest (tOp (rIn K true) (tVar 3) (tFld K (tVar 0) "listed")))) (te := (tVar 3)) rfl sc_Choice__or.nd rfl rfl (sw_true rfl rfl rfl (by decide +kernel)) (pi_tup (pe_fld (pv 1) rfl)) (blkOk_by (own := [("value", 3)]) (N := ["self", "other", "values", "value"]) (sc := defScope s_Choice__or) (by decide +kernel)) (fun _ _ _ _ _ => (pg_name (i := 3) sc_Choice__or.nd rfl (.inl rfl))) (fun _ _ _ _ _ => (pts_one (pt_cmpR op_notIn_seq (pv 3) (pe_fld (pv 0) rfl) rfl))) (fun _ _ _ _ _ => (pv 3)))
      (pss_one (ps_ret (pe_mkSK (mkK_Choice T (hr.mono (by decide))) T.mk_Choice.kp rfl T.m_Choice (pv 2) (pk_cons pe_bl pk_nil))))))), ?_⟩
    obtain ⟨rx, dx, px, hx, hxt⟩ := cx
    obtain ⟨ry, dy, py, hy, hyt⟩ := cy
    cases bx
    · refine ⟨_, rfl, x, a.C_Choice, dx, _, _, rfl, hx, T.c_Choice, T.n_Choice_is_rest, lk_Choice_is_rest _ _, _, rfl, iteT ?_⟩
      refine ⟨_, rfl, y, a.C_Choice, dy, _, _, rfl, hy, T.c_Choice, T.n_Choice_is_rest, lk_Choice_is_rest _ _, _, rfl, ?_⟩
      cases bY
      · refine iteT ?_
        refine ⟨_, rfl, x, a.C_Choice, dx, _, _, rfl, hx, T.c_Choice, T.n_Choice_listed, lk_Choice_listed _ _, _, rfl, y, a.C_Choice, dy, _, _, rfl, hy, T.c_Choice, T.n_Choice_listed, lk_Choice_listed _ _, px, py, _, _, rfl, rfl, hxt.seq, hyt.seq, by rw [List.length_map, List.length_map]; exact sz_of (by omega), fun p H1 s1 hp => ?_⟩
        rw [← List.map_append] at hp
        refine ⟨_, rfl, p, _, rfl, .inl hp, _, rfl, by rw [List.length_append]; omega, fun ls z H2 mem len nz s2 ch => ?_⟩
        rw [List.length_append] at len
        refine k z ls H2 (fun k => ?_) (by omega) (s1.trans s2) ch
        have := mem k
        rw [List.mem_append] at this
        unfold has
        by_cases p : k ∈ lx <;> by_cases q : k ∈ ly <;> simp [p, q] at this <;> simp [p, q, this]
      · refine iteF ⟨_, rfl, x, a.C_Choice, dx, _, _, rfl, hx, T.c_Choice, T.n_Choice_is_rest, lk_Choice_is_rest _ _, _, rfl, iteF ?_⟩
        refine ⟨_, rfl, y, a.C_Choice, dy, _, _, rfl, hy, T.c_Choice, T.n_Choice_listed, lk_Choice_listed _ _, py, rfl, ⟨_, hyt.seq⟩, fun D nD => lc_tupF (K := K) (a := py) (xs := ly.map V.int) (intF fun k => !decide (k ∈ lx)) nD (by rw [List.length_map]; omega) (fun H' s' => (hyt.keep s').seq) ?_ fun H1 s1 hD => ?_⟩
        · intro v hv H' N s' hN
          obtain ⟨k, hk, rfl⟩ := List.mem_map.mp hv
          have hx := s' _ _ hx
          have hy := s' _ _ hy
          have hxt := hxt.keep s'
          have hyt := hyt.keep s'
          refine ⟨rfl, _, rfl, _, rfl, x, a.C_Choice, dx, _, _, rfl, hx, T.c_Choice, T.n_Choice_listed, lk_Choice_listed _ _, px, _, rfl, .inr hxt.seq, rfl, flat_ints lx, ?_⟩
          rw [inV_ints]
          refine ⟨_, rfl, ?_⟩
          have hN' := hN H' (Same.refl _)
          refine ite2 (fun h => ?_) (fun h => ?_)
          · rw [intF_yes (by simpa [blD] using h)] at hN'
            exact ⟨_, rfl, hN'⟩
          · rw [intF_no (by simpa [blD] using h)] at hN'
            exact hN'
        rw [fm_ints] at hD
        have len2 := List.length_filter_le (fun k => !decide (k ∈ lx)) ly
        refine ⟨_, rfl, D, _, rfl, .inr (SqL.of hD), _, rfl, _, rfl, by omega, fun ls z H2 mem len nz s2 ch => ?_⟩
        refine k z ls H2 (fun k => ?_) (by omega) (s1.trans s2) ch
        have := mem k
        rw [List.mem_filter] at this
        unfold has
        by_cases p : k ∈ lx <;> by_cases q : k ∈ ly <;> simp [p, q] at this <;> simp [p, q, this]
    · refine ⟨_, rfl, x, a.C_Choice, dx, _, _, rfl, hx, T.c_Choice, T.n_Choice_is_rest, lk_Choice_is_rest _ _, _, rfl, iteF ⟨_, rfl, x, a.C_Choice, dx, _, _, rfl, hx, T.c_Choice, T.n_Choice_is_rest, lk_Choice_is_rest _ _, _, rfl, iteT ?_⟩⟩
      refine ⟨_, rfl, x, a.C_Choice, dx, _, _, rfl, hx, T.c_Choice, T.n_Choice_listed, lk_Choice_listed _ _, px, rfl, ⟨_, hxt.seq⟩, fun D nD => lc_tupF (K := K) (a := px) (xs := lx.map V.int) (intF fun k => decide (k ∈ ly) == bY) nD (by rw [List.length_map]; omega) (fun H' s' => (hxt.keep s').seq) ?_ fun H1 s1 hD => ?_⟩
      · intro v hv H' N s' hN
        obtain ⟨k, hk, rfl⟩ := List.mem_map.mp hv
        have hx := s' _ _ hx
        have hy := s' _ _ hy
        have hxt := hxt.keep s'
        have hyt := hyt.keep s'
        refine ⟨rfl, _, rfl, _, rfl, y, a.C_Choice, dy, _, _, rfl, hy, T.c_Choice, T.n_Choice_listed, lk_Choice_listed _ _, py, _, rfl, .inr hyt.seq, rfl, flat_ints ly, ?_⟩
        rw [inV_ints]
        refine ⟨_, rfl, y, a.C_Choice, dy, _, _, rfl, hy, T.c_Choice, T.n_Choice_is_rest, lk_Choice_is_rest _ _, rfl, _, rfl, ?_⟩
        have hN' := hN H' (Same.refl _)
        refine ite2 (fun h => ?_) (fun h => ?_)
        · rw [intF_yes (by simpa [blD] using h)] at hN'
          exact ⟨_, rfl, hN'⟩
        · rw [intF_no (by simpa [blD] using h)] at hN'
          exact hN'
      rw [fm_ints] at hD
      have len2 := List.length_filter_le (fun k => decide (k ∈ ly) == bY) lx
      refine ⟨_, rfl, D, _, rfl, .inr (SqL.of hD), _, rfl, _, rfl, by omega, fun ls z H2 mem len nz s2 ch => ?_⟩
      refine k z ls H2 (fun k => ?_) (by omega) (s1.trans s2) ch
      have := mem k
      rw [List.mem_filter] at this
      unfold has
      by_cases p : k ∈ lx <;> by_cases q : k ∈ ly <;> simp [p, q] at this <;> simp [p, q, this]

def spCand (a : Ad) : Sp := fun vs H Q _ => ∃ (x y : Addr) (lx ly : List Int) (bx bY : Bool), vs = [.ref x, .ref y] ∧ ChAt a H x lx bx ∧ ChAt a H y ly bY ∧ lx.length + ly.length ≤ 4000 ∧
  ∀ z ls H', (∀ k, has ls (bx && bY) k = (has lx bx k && has ly bY k)) → ls.length ≤ lx.length + ly.length → Same H H' → ChAt a H' z ls (bx && bY) → Q (.ref z) H'
theorem sc_Choice__and : FnScope ["self", "other", "values", "value"] ["self", "other"] (defScope s_Choice__and) := ⟨rfl, rfl, rfl, by decide +kernel, rfl, by decide +kernel, by decide +kernel⟩
theorem ok_Choice__and (T : Txt K mg a) : FnOk P w K mg base CX0 3 a.f_Choice__and a.d_Choice__and ["self", "other"] (spCand a) := by
  refine T.F_Choice__and.ok sc_Choice__and (fun vs H Q E h => ?_) (fun cdv A outer s H vs Q E hr h => ?_)
  · obtain ⟨x, y, lx, ly, bx, bY, rfl, _⟩ := h
    rfl
  · obtain ⟨x, y, lx, ly, bx, bY, rfl, cx, cy, hl, k⟩ := h
    refine ⟨_, (pss_cons (ps_if (PW.pt (pw_and (pt_val (pe_fld (pv 0) rfl)) (pw_and1 (pt_val (pe_fld (pv 1) rfl))))) (pss_cons (ps_set (i := 2) sc_Choice__and.nd rfl (.inl rfl) (pe_op op_catTS (pe_fld (pv 0) rfl) (pe_fld (pv 1) rfl)))
      (pss_one (ps_ret (pe_mkSK (mkK_Choice T (hr.mono (by decide))) T.mk_Choice.kp rfl T.m_Choice (pv 2) (pk_cons pe_bl pk_nil))))) pss_nil)
      (pss_cons (ps_if (pt_val (pe_fld (pv 0) rfl)) (pss_cons (ps_setLc (i := 2) (own := [("value", 3)]) (g := gName 3) (tt := (tTest (tOp (rIn K true) (tVar 3) (tFld K (tVar 0) "listed")))) (te := (tVar 3)) rfl sc_Choice__and.nd rfl rfl (sw_true rfl rfl rfl (by decide +kernel)) (pi_tup (pe_fld (pv 1) rfl)) (blkOk_by (own := [("value", 3)]) (N := ["self", "other", "values", "value"]) (sc := defScope s_Choice__and) (by decide +kernel)) (fun _ _ _ _ _ => (pg_name (i := 3) sc_Choice__and.nd rfl (.inl rfl))) (fun _ _ _ _ _ => (pts_one (pt_cmpR op_notIn_seq (pv 3) (pe_fld (pv 0) rfl) rfl))) (fun _ _ _ _ _ => (pv 3)))
      (pss_one (ps_ret (pe_mkS (mkR_Choice T (hr.mono (by decide))) T.mk_Choice.kp rfl T.m_Choice (pv 2))))) pss_nil)
      (pss_cons (ps_setLc (i := 2) (own := [("value", 3)]) (g := gName 3) (tt := (tTest (tOp rNe (tOp (rIn K false) (tVar 3) (tFld K (tVar 1) "listed")) (tFld K (tVar 1) "is_rest")))) (te := (tVar 3)) rfl sc_Choice__and.nd rfl rfl (sw_true rfl rfl rfl (by decide +kernel)) (pi_tup (pe_fld (pv 0) rfl)) (blkOk_by (own := [("value", 3)]) (N := ["self", "other", "values", "value"]) (sc := defScope s_Choice__and) (by decide +kernel)) (fun _ _ _ _ _ => (pg_name (i := 3) sc_Choice__and.nd rfl (.inl rfl))) (fun _ _ _ _ _ => (pts_one (pt_cmpR op_ne (pe_cmpR op_in_seq (pv 3) (pe_fld (pv 1) rfl) rfl) (pe_fld (pv 1) rfl) (nomark _)))) (fun _ _ _ _ _ => (pv 3)))
      (pss_one (ps_ret (pe_mkS (mkR_Choice T (hr.mono (by decide))) T.mk_Choice.kp rfl T.m_Choice (pv 2))))))), ?_⟩
    obtain ⟨rx, dx, px, hx, hxt⟩ := cx
    obtain ⟨ry, dy, py, hy, hyt⟩ := cy
    cases bx
    · refine ⟨_, rfl, x, a.C_Choice, dx, _, _, rfl, hx, T.c_Choice, T.n_Choice_is_rest, lk_Choice_is_rest _ _, _, rfl, iteF ⟨_, rfl, x, a.C_Choice, dx, _, _, rfl, hx, T.c_Choice, T.n_Choice_is_rest, lk_Choice_is_rest _ _, _, rfl, iteF ?_⟩⟩
      refine ⟨_, rfl, x, a.C_Choice, dx, _, _, rfl, hx, T.c_Choice, T.n_Choice_listed, lk_Choice_listed _ _, px, rfl, ⟨_, hxt.seq⟩, fun D nD => lc_tupF (K := K) (a := px) (xs := lx.map V.int) (intF fun k => decide (k ∈ ly) != bY) nD (by rw [List.length_map]; omega) (fun H' s' => (hxt.keep s').seq) ?_ fun H1 s1 hD => ?_⟩
      · intro v hv H' N s' hN
        obtain ⟨k, hk, rfl⟩ := List.mem_map.mp hv
        have hx := s' _ _ hx
        have hy := s' _ _ hy
        have hxt := hxt.keep s'
        have hyt := hyt.keep s'
        refine ⟨rfl, _, rfl, _, rfl, y, a.C_Choice, dy, _, _, rfl, hy, T.c_Choice, T.n_Choice_listed, lk_Choice_listed _ _, py, _, rfl, .inr hyt.seq, rfl, flat_ints ly, ?_⟩
        rw [inV_ints]
        refine ⟨_, rfl, y, a.C_Choice, dy, _, _, rfl, hy, T.c_Choice, T.n_Choice_is_rest, lk_Choice_is_rest _ _, rfl, _, rfl, ?_⟩
        have hN' := hN H' (Same.refl _)
        refine ite2 (fun h => ?_) (fun h => ?_)
        · rw [intF_yes (by simpa [blD] using h)] at hN'
          exact ⟨_, rfl, hN'⟩
        · rw [intF_no (by simpa [blD] using h)] at hN'
          exact hN'
      rw [fm_ints] at hD
      have len2 := List.length_filter_le (fun k => decide (k ∈ ly) != bY) lx
      refine ⟨_, rfl, D, _, rfl, .inr (SqL.of hD), _, rfl, by omega, fun ls z H2 mem len nz s2 ch => ?_⟩
      refine k z ls H2 (fun k => ?_) (by omega) (s1.trans s2) ch
      have := mem k
      rw [List.mem_filter] at this
      unfold has
      by_cases p : k ∈ lx <;> by_cases q : k ∈ ly <;> simp [p, q] at this <;> simp [p, q, this]
    · refine ⟨_, rfl, x, a.C_Choice, dx, _, _, rfl, hx, T.c_Choice, T.n_Choice_is_rest, lk_Choice_is_rest _ _, _, rfl, iteT ?_⟩
      refine ⟨_, rfl, y, a.C_Choice, dy, _, _, rfl, hy, T.c_Choice, T.n_Choice_is_rest, lk_Choice_is_rest _ _, _, rfl, ?_⟩
      cases bY
      · refine iteF ⟨_, rfl, x, a.C_Choice, dx, _, _, rfl, hx, T.c_Choice, T.n_Choice_is_rest, lk_Choice_is_rest _ _, _, rfl, iteT ?_⟩
        refine ⟨_, rfl, y, a.C_Choice, dy, _, _, rfl, hy, T.c_Choice, T.n_Choice_listed, lk_Choice_listed _ _, py, rfl, ⟨_, hyt.seq⟩, fun D nD => lc_tupF (K := K) (a := py) (xs := ly.map V.int) (intF fun k => !decide (k ∈ lx)) nD (by rw [List.length_map]; omega) (fun H' s' => (hyt.keep s').seq) ?_ fun H1 s1 hD => ?_⟩
        · intro v hv H' N s' hN
          obtain ⟨k, hk, rfl⟩ := List.mem_map.mp hv
          have hx := s' _ _ hx
          have hy := s' _ _ hy
          have hxt := hxt.keep s'
          have hyt := hyt.keep s'
          refine ⟨rfl, _, rfl, _, rfl, x, a.C_Choice, dx, _, _, rfl, hx, T.c_Choice, T.n_Choice_listed, lk_Choice_listed _ _, px, _, rfl, .inr hxt.seq, rfl, flat_ints lx, ?_⟩
          rw [inV_ints]
          refine ⟨_, rfl, ?_⟩
          have hN' := hN H' (Same.refl _)
          refine ite2 (fun h => ?_) (fun h => ?_)
          · rw [intF_yes (by simpa [blD] using h)] at hN'
            exact ⟨_, rfl, hN'⟩
          · rw [intF_no (by simpa [blD] using h)] at hN'
            exact hN'
        rw [fm_ints] at hD
        have len2 := List.length_filter_le (fun k => !decide (k ∈ lx)) ly
        refine ⟨_, rfl, D, _, rfl, .inr (SqL.of hD), _, rfl, by omega, fun ls z H2 mem len nz s2 ch => ?_⟩
        refine k z ls H2 (fun k => ?_) (by omega) (s1.trans s2) ch
        have := mem k
        rw [List.mem_filter] at this
        unfold has
        by_cases p : k ∈ lx <;> by_cases q : k ∈ ly <;> simp [p, q] at this <;> simp [p, q, this]
      · refine iteT ?_
        refine ⟨_, rfl, x, a.C_Choice, dx, _, _, rfl, hx, T.c_Choice, T.n_Choice_listed, lk_Choice_listed _ _, _, rfl, y, a.C_Choice, dy, _, _, rfl, hy, T.c_Choice, T.n_Choice_listed, lk_Choice_listed _ _, px, py, _, _, rfl, rfl, hxt.seq, hyt.seq, by rw [List.length_map, List.length_map]; exact sz_of (by omega), fun p H1 s1 hp => ?_⟩
        rw [← List.map_append] at hp
        refine ⟨_, rfl, p, _, rfl, .inl hp, _, rfl, _, rfl, by rw [List.length_append]; omega, fun ls z H2 mem len nz s2 ch => ?_⟩
        rw [List.length_append] at len
        refine k z ls H2 (fun k => ?_) (by omega) (s1.trans s2) ch
        have := mem k
        rw [List.mem_append] at this
        unfold has
        by_cases p : k ∈ lx <;> by_cases q : k ∈ ly <;> simp [p, q] at this <;> simp [p, q, this]

end
end Toy

set_option Elab.async false
set_option linter.all false
set_option maxRecDepth 100000
set_option maxHeartbeats 4000000
set_option pp.maxSteps 1500
set_option pp.deepTerms false
namespace Toy
open PySem L2 Lf
section
variable {P : Program} {w : World} {K : PySem.W.Frag} {mg : Str → Option Value} {base : Heap} {a : Ad}

def numS (k : Int) : Str := Str.ofString (toString k)
/-- the integers, written -/
def wrI (ls : List Int) : Str := Txt.join "," (ls.map numS)
def wr (ls : List Int) (b : Bool) : Str := if b then (if ls = [] then "any" else "not " ++ wrI ls) else wrI ls
def Sml (ls : List Int) : Prop := ls.length ≤ 100 ∧ ∀ k ∈ ls, 0 ≤ k ∧ k < 1000000
theorem sml_log {k : Int} (h0 : 0 ≤ k) (h : k < 1000000) : k.natAbs.log2 < 1920 := by
  by_cases z : k.natAbs = 0
  · rw [z]; decide
  · exact Nat.lt_of_lt_of_le ((Nat.log2_lt z).mpr (show k.natAbs < 2 ^ 20 by omega)) (by decide)
theorem numS_len {k : Int} (h0 : 0 ≤ k) (h : k < 1000000) : (numS k).length ≤ 1921 := PyProof.Rows.int_text_len_1921 (sml_log h0 h)
theorem num_sum : ∀ ls : List Int, (∀ k ∈ ls, 0 ≤ k ∧ k < 1000000) → ((ls.map numS).map (·.length)).sum ≤ 1921 * ls.length
  | [], _ => Nat.zero_le _
  | k :: ls, h => by
    have h1 := numS_len (h k (List.mem_cons_self ..)).1 (h k (List.mem_cons_self ..)).2
    have h2 := num_sum ls fun k hk => h k (List.mem_cons_of_mem _ hk)
    rw [List.map_cons, List.map_cons, List.sum_cons, List.length_cons]
    omega
theorem join_le (y : Str) : ∀ ps : List Str, (Str.join y ps).length ≤ (ps.map (·.length)).sum + ps.length * y.length
  | [] => Nat.zero_le _
  | [p] => by
    show p.length ≤ _
    rw [List.map_cons, List.sum_cons]
    omega
  | p :: q :: r => by
    have ih := join_le y (q :: r)
    show (p ++ y ++ Str.join y (q :: r)).length ≤ _
    rw [Str.length_append, Str.length_append, List.map_cons, List.sum_cons, List.length_cons, Nat.add_mul]
    omega
theorem comma : (Str.ofString ",").length = 1 := by decide +kernel
theorem wrI_len {ls : List Int} (h : Sml ls) : (wrI ls).length ≤ 200000 := by
  unfold wrI
  rw [TL.join_eq]
  have h1 := join_le "," (ls.map numS)
  have h2 := num_sum ls h.2
  have h3 := h.1
  rw [comma, List.length_map] at h1
  omega
theorem joinL_ne (S : List Nat) (p : List Nat) (r : List (List Nat)) (h : p ≠ []) : TL.joinL S (p :: r) ≠ [] := by
  cases r with
  | nil => exact h
  | cons q r => exact fun e => h (List.append_eq_nil_iff.mp e).1
theorem wrI_ne {ls : List Int} (h : Sml ls) : wrI ls = "" ↔ ls = [] := by
  constructor
  · intro e
    cases ls with
    | nil => rfl
    | cons k ls =>
      exfalso
      have h1 := (h.2 k (List.mem_cons_self ..)).1
      unfold wrI at e
      rw [TL.join_eq] at e
      have e2 := congrArg TL.tl e
      rw [TL.tl_join, List.map_cons, List.map_cons] at e2
      refine joinL_ne _ _ _ ?_ e2
      obtain ⟨n, rfl⟩ : ∃ n : Nat, k = n := ⟨k.toNat, by omega⟩
      show TL.tl (Str.ofString (toString ((n : Nat) : Int))) ≠ []
      rw [TL.tl_num]
      exact TL.numL_ne n
  · intro e
    rw [e]
    rfl
def intS : V → Option V
  | .int c => some (.str (numS c))
  | _ => none
theorem fm_intS : ∀ ns : List Int, (ns.map V.int).filterMap intS = (ns.map numS).map V.str
  | [] => rfl
  | c :: ns => by
    rw [List.map_cons, List.filterMap_cons, List.map_cons, List.map_cons, fm_intS ns]
    rfl
theorem join_ok {ls : List Int} (h : Sml ls) : ((ls.map numS).map (·.length)).sum + (ls.map numS).length * (Str.ofString ",").length ≤ 16777216 := by
  have h2 := num_sum ls h.2
  have h3 := h.1
  rw [comma, List.length_map]
  omega
theorem wr_len {ls : List Int} {b : Bool} (h : Sml ls) : (wr ls b).length ≤ 200004 := by
  have h1 := wrI_len h
  have e1 : (Str.ofString "any").length = 3 := by decide +kernel
  have e2 : (Str.ofString "not ").length = 4 := by decide +kernel
  unfold wr
  split
  · split
    · rw [e1]; omega
    · rw [Str.length_append, e2]; omega
  · omega
theorem sz_txt {n : Nat} (h : n ≤ 16000000) : n ≤ sizeLine := Nat.le_trans h (by decide)

def spCStr (a : Ad) : Sp := fun vs H Q _ => ∃ (x : Addr) (ls : List Int) (b : Bool), vs = [.ref x] ∧ ChAt a H x ls b ∧ Sml ls ∧ ∀ H', Same H H' → Q (.str (wr ls b)) H'
theorem sc_Choice__str : FnScope ["self", "words", "value"] ["self"] (defScope s_Choice__str) := ⟨rfl, rfl, rfl, by decide +kernel, rfl, by decide +kernel, by decide +kernel⟩
theorem ok_Choice__str (T : Txt K mg a) : FnOk P w K mg base CX0 1 a.f_Choice__str a.d_Choice__str ["self"] (spCStr a) := by
  refine T.F_Choice__str.ok sc_Choice__str (fun vs H Q E h => ?_) (fun cdv A outer s H vs Q E hr h => ?_)
  · obtain ⟨x, ls, b, rfl, _⟩ := h
    rfl
  · obtain ⟨x, ls, b, rfl, cx, hs, k⟩ := h
    refine ⟨_, (pss_cons (ps_set (i := 1) sc_Choice__str.nd rfl (.inl rfl) (pe_join pe_str (pe_lc (own := [("value", 2)]) (g := gName 2) (tt := tYes) (te := (tCB rStrI (tCons (tVar 2) tNil))) rfl sc_Choice__str.nd (pi_tup (pe_fld (pv 0) rfl)) (blkOk_by (own := [("value", 2)]) (N := ["self", "words", "value"]) (sc := defScope s_Choice__str) (by decide +kernel)) (fun _ _ _ _ _ => (pg_name (i := 2) sc_Choice__str.nd rfl (.inl rfl))) (fun _ _ _ _ _ => pts_nil) (fun _ _ _ _ _ => (pe_callTy call_str_int (by rfl) T.b_str (by decide +kernel) (pa_cons (pv 2) pa_nil))))))
      (pss_cons (ps_if (pt_val (pe_fld (pv 0) rfl)) (pss_one (ps_set (i := 1) sc_Choice__str.nd rfl (.inl rfl) (pe_ifExp (pt_cmpR (op_neIT hr.units) (pe_fld (pv 0) rfl) (pe_tupS pa_nil) (nomark _)) (pe_joined (PJ.cons pe_str (PJ.cons (pe_fmt (pv 1)) PJ.nil))) pe_str))) pss_nil)
      (pss_one (ps_ret (pe_joined1 (pe_fmt (pv 1))))))), ?_⟩
    obtain ⟨rise, dx, p, hx, hxt⟩ := cx
    refine ⟨⟨_, rfl⟩, _, rfl, x, a.C_Choice, dx, _, _, rfl, hx, T.c_Choice, T.n_Choice_listed, lk_Choice_listed _ _, p, rfl, ⟨_, hxt.seq⟩, fun D nD => lc_tupF (K := K) (a := p) (xs := ls.map V.int) intS nD (by rw [List.length_map]; have := hs.1; omega) (fun H' s' => (hxt.keep s').seq) ?_ fun H1 s1 hD => ?_⟩
    · intro v hv H' N s' hN
      obtain ⟨c, hc, rfl⟩ := List.mem_map.mp hv
      obtain ⟨c0, c1⟩ := hs.2 c hc
      exact ⟨rfl, _, rfl, c, rfl, sml_log c0 c1, hN H' (Same.refl _)⟩
    rw [fm_intS] at hD
    refine ⟨_, D, ls.map numS, rfl, rfl, .inl (SqL.of hD), join_ok hs, ?_⟩
    have hx1 := s1 _ _ hx
    have hl := wrI_len hs
    have e2 : (Str.ofString "not ").length = 4 := by decide +kernel
    have e3 : (Str.ofString "any").length = 3 := by decide +kernel
    refine ⟨_, rfl, x, a.C_Choice, dx, _, _, rfl, hx1, T.c_Choice, T.n_Choice_is_rest, lk_Choice_is_rest _ _, _, rfl, ?_⟩
    cases b
    · refine iteF ⟨_, rfl, .inl ⟨_, rfl, sz_txt (by show (wrI ls).length ≤ _; omega), ?_⟩⟩
      exact k H1 s1
    · refine iteT ⟨_, rfl, x, a.C_Choice, dx, _, _, rfl, hx1, T.c_Choice, T.n_Choice_listed, lk_Choice_listed _ _, (by show 0 ≤ sizeLine; decide), fun t H2 nt s2 ht => ?_⟩
      refine ⟨p, t, ls, [], rfl, rfl, ((hxt.keep s1).keep s2).seq, SqT.of ht, _, rfl, ?_⟩
      have kk := k H2 (s1.trans s2)
      unfold wr at kk
      by_cases e : ls = []
      · rw [decide_eq_true e]
        rw [if_pos rfl, if_pos e] at kk
        refine iteF ?_
        exact ⟨_, rfl, .inl ⟨_, rfl, sz_txt (by rw [e3]; omega), kk⟩⟩
      · rw [decide_eq_false e]
        rw [if_pos rfl, if_neg e] at kk
        refine iteT ?_
        refine ⟨_, rfl, sz_txt (by rw [Str.empty_append, e2]; omega), _, rfl, .inl ⟨_, rfl, sz_txt (by show (wrI ls).length ≤ _; omega), _, rfl, sz_txt (by rw [Str.empty_append, Str.length_append, e2]; show 4 + (wrI ls).length ≤ _; omega), ?_⟩⟩
        refine ⟨_, rfl, .inl ⟨_, rfl, sz_txt (by rw [Str.empty_append, Str.length_append, e2]; show 4 + (wrI ls).length ≤ _; omega), ?_⟩⟩
        rw [Str.empty_append]
        exact kk

def spCRepr (a : Ad) : Sp := fun vs H Q _ => ∃ (x : Addr) (ls : List Int) (b : Bool), vs = [.ref x] ∧ ChAt a H x ls b ∧ Sml ls ∧ ∀ H', Same H H' → Q (.str ("Choice(" ++ wr ls b ++ ")")) H'
theorem sc_Choice__repr : FnScope ["self"] ["self"] (defScope s_Choice__repr) := ⟨rfl, rfl, rfl, by decide +kernel, rfl, by decide +kernel, by decide +kernel⟩
theorem ok_Choice__repr (T : Txt K mg a) : FnOk P w K mg base CX0 3 a.f_Choice__repr a.d_Choice__repr ["self"] (spCRepr a) := by
  refine T.F_Choice__repr.ok sc_Choice__repr (fun vs H Q E h => ?_) (fun cdv A outer s H vs Q E hr h => ?_)
  · obtain ⟨x, ls, b, rfl, _⟩ := h
    rfl
  · obtain ⟨x, ls, b, rfl, cx, hs, k⟩ := h
    refine ⟨_, (pss_one (ps_ret (pe_joined (PJ.cons pe_str (PJ.cons (pe_fmtOwn (C := a.C_Choice) T.fm_Choice T.o_Choice T.f_Choice__str T.i_Choice__str ((ok_Choice__str T).raw T.a_Choice__str .nil) (hr.mono (by decide)) pass0 (pv 0)) (PJ.cons pe_str PJ.nil)))))), ?_⟩
    have hl := wr_len (b := b) hs
    have e1 : (Str.ofString "Choice(").length = 7 := by decide +kernel
    have e2 : (Str.ofString ")").length = 1 := by decide +kernel
    obtain ⟨dx, fx, ix⟩ := cx.ins
    refine ⟨_, rfl, sz_txt (by rw [Str.empty_append, e1]; omega), _, rfl, x, dx, _, rfl, ix, x, ls, b, rfl, cx, hs, fun H1 s1 => ⟨_, rfl, _, rfl, sz_txt (by rw [Str.empty_append, Str.length_append, e1]; omega), _, rfl, sz_txt (by rw [Str.empty_append, Str.length_append, Str.length_append, e1, e2]; omega), ?_⟩⟩
    rw [Str.empty_append]
    exact k H1 s1

end
end Toy

set_option Elab.async false
set_option linter.all false
set_option maxRecDepth 100000
set_option maxHeartbeats 4000000
set_option pp.maxSteps 1500
set_option pp.deepTerms false
namespace Toy
open PySem L2 Lf
section
variable {P : Program} {w : World} {K : PySem.W.Frag} {mg : Str → Option Value} {base : Heap} {a : Ad}

def spBag (K : PySem.W.Frag) : Sp := fun vs H Q _ => ∃ (s : Addr) (ns : List Int) (i : Nat), vs = [.ref s, .int i] ∧ SqL K H s (ns.map V.int) ∧ i < 64 ∧
  ∀ (b : Addr) (d m : Int) (H' : Hp), H b = none → Same H H' → H' b = some (.lst [.int d, .int m, .int 0]) → 0 ≤ d → 0 ≤ m → m < 12000000000000000000 → Q (.ref b) H'
theorem sc_l_bag : FnScope ["_law_script", "_law_at", "_law_cell", "_law_digits"] ["_law_script", "_law_at"] (defScope s_l_bag) := ⟨rfl, rfl, rfl, by decide +kernel, rfl, by decide +kernel, by decide +kernel⟩
theorem ok_l_bag (T : Txt K mg a) : FnOk P w K mg base CX0 1 a.f_l_bag a.d_l_bag ["_law_script", "_law_at"] (spBag K) := by
  refine T.F_l_bag.ok sc_l_bag (fun vs H Q E h => ?_) (fun cdv A outer s H vs Q E hr h => ?_)
  · obtain ⟨b, ns, i, rfl, _⟩ := h
    rfl
  · obtain ⟨b, ns, i, rfl, hS, hi, k⟩ := h
    refine ⟨_, (pss_cons (ps_set (i := 2) sc_l_bag.nd rfl (.inl rfl) (pe_ifExp (pt_cmpR op_lt (pv 1) (pe_callB call_len_seq (by rfl) T.b_len PySem.boot_len (pa_cons (pv 0) pa_nil)) (nomark _)) (pe_ix ix_list (pv 0) (pv 1) (fun _ _ => rfl)) pe_int))
      (pss_cons (ps_set (i := 3) sc_l_bag.nd rfl (.inl rfl) (pe_ifExp (pt_cmpR op_ge (pe_callB call_abs (by rfl) T.b_abs (by decide +kernel) (pa_cons (pv 2) pa_nil)) (pe_op op_pow pe_int pe_int) (nomark _)) (pe_callB call_abs (by rfl) T.b_abs (by decide +kernel) (pa_cons (pv 2) pa_nil)) pe_int))
      (pss_one (ps_ret (pe_lstS (pa_cons (pv 3) (pa_cons (pe_op op_add (pe_op op_add (pe_op op_mul (pe_op op_mod (pe_callTy call_int1 (by rfl) T.b_int (by decide +kernel) (pa_cons (pv 2) pa_nil)) pe_int) pe_int) (pe_op op_mul pe_int (pv 1))) pe_int) (pa_cons pe_int pa_nil)))))))), ?_⟩
    refine ⟨_, rfl, _, rfl, b, _, rfl, .inl hS, _, _, rfl, rfl, _, rfl, ?_⟩
    refine ite2 (fun h => ?_) (fun h => ?_)
    · have h1 : ((i : Nat) : Int) < ((ns.map V.int).length : Nat) := of_decide_eq_true h
      have h2 : i < ns.length := by rw [List.length_map] at h1; omega
      refine ⟨_, rfl, _, rfl, b, _, _, .int (ns[i]), rfl, rfl, hS, atI_nat (by rw [List.getElem?_map, List.getElem?_eq_getElem h2]; rfl), ?_⟩
      generalize ns[i] = c
      refine ⟨_, rfl, _, rfl, _, _, rfl, rfl, ⟨by decide, by decide, by decide⟩, _, _, rfl, rfl, _, rfl, ?_⟩
      refine ite2 (fun h => ?_) (fun h => ?_)
      · refine ⟨_, rfl, _, rfl, _, rfl, _, rfl, .inl ⟨_, rfl, _, _, rfl, rfl, (by show (0 : Int) < 2305843009213693951; decide), _, _, rfl, rfl, .inr ⟨by decide, by decide⟩, _, rfl, _, _, rfl, rfl, .inl ⟨by decide, by decide⟩, _, _, rfl, rfl, _, _, rfl, rfl, (by show 3 ≤ sizeLine; decide), fun p H' hp sm hp' => ?_⟩⟩
        have e1 := Int.emod_nonneg c (show (2305843009213693951 : Int) ≠ 0 by decide)
        have e2 := Int.emod_lt_of_pos c (show (0 : Int) < 2305843009213693951 by decide)
        exact k p _ _ H' hp sm hp' (by split <;> omega) (by omega) (by omega)
      · refine ⟨_, rfl, _, rfl, .inl ⟨_, rfl, _, _, rfl, rfl, (by show (0 : Int) < 2305843009213693951; decide), _, _, rfl, rfl, .inr ⟨by decide, by decide⟩, _, rfl, _, _, rfl, rfl, .inl ⟨by decide, by decide⟩, _, _, rfl, rfl, _, _, rfl, rfl, (by show 3 ≤ sizeLine; decide), fun p H' hp sm hp' => ?_⟩⟩
        have e1 := Int.emod_nonneg c (show (2305843009213693951 : Int) ≠ 0 by decide)
        have e2 := Int.emod_lt_of_pos c (show (0 : Int) < 2305843009213693951 by decide)
        exact k p _ _ H' hp sm hp' (by omega) (by omega) (by omega)
    · refine ⟨_, rfl, _, rfl, _, _, rfl, rfl, ⟨by decide, by decide, by decide⟩, _, _, rfl, rfl, _, rfl, ?_⟩
      refine ite2 (fun h => ?_) (fun h => ?_)
      · exact absurd (of_decide_eq_true h) (by decide)
      · refine ⟨_, rfl, _, rfl, .inl ⟨_, rfl, _, _, rfl, rfl, (by show (0 : Int) < 2305843009213693951; decide), _, _, rfl, rfl, .inr ⟨by decide, by decide⟩, _, rfl, _, _, rfl, rfl, .inl ⟨by decide, by decide⟩, _, _, rfl, rfl, _, _, rfl, rfl, (by show 3 ≤ sizeLine; decide), fun p H' hp sm hp' => ?_⟩⟩
        exact k p _ _ H' hp sm hp' (by omega) (by omega) (by omega)

def BagAt (H : Hp) (b : Addr) (n : Nat) : Prop := ∃ d m c : Int, H b = some (.lst [.int d, .int m, .int c]) ∧ 0 ≤ d ∧ 0 ≤ m ∧ m < 12000000000000000000 ∧ 0 ≤ c ∧ c ≤ n
def spDraw : Sp := fun vs H Q _ => ∃ (b : Addr) (n : Nat) (many : Int), vs = [.ref b, .int many] ∧ BagAt H b n ∧ n < 2 ^ 30 ∧ 0 < many ∧ many < 2 ^ 30 ∧
  ∀ (r : Int) (H' : Hp), 0 ≤ r → r < many → BagAt H' b (n + 1) → But b H H' → Q (.int r) H'
theorem sc_l_take : FnScope ["_law_bag_here", "_law_many", "_law_digit", "_law_mixed"] ["_law_bag_here", "_law_many"] (defScope s_l_take) := ⟨rfl, rfl, rfl, by decide +kernel, rfl, by decide +kernel, by decide +kernel⟩
theorem ok_l_take (T : Txt K mg a) : FnOk P w K mg base CX0 1 a.f_l_take a.d_l_take ["_law_bag_here", "_law_many"] spDraw := by
  refine T.F_l_take.ok sc_l_take (fun vs H Q E h => ?_) (fun cdv A outer s H vs Q E hr h => ?_)
  · obtain ⟨b, n, i, rfl, _⟩ := h
    rfl
  · obtain ⟨b, n, many, rfl, ⟨d, m, c, hb, d0, m0, m1, c0, c1⟩, hn, p0, p1, k⟩ := h
    refine ⟨_, (pss_cons (ps_if (pt_cmpR op_gt (pe_ix ix_list (pv 0) pe_int (fun _ _ => rfl)) pe_int (nomark _)) (pss_cons (ps_set (i := 2) sc_l_take.nd rfl (.inl rfl) (pe_op op_mod (pe_callTy call_int1 (by rfl) T.b_int (by decide +kernel) (pa_cons (pe_ix ix_list (pv 0) pe_int (fun _ _ => rfl)) pa_nil)) (pv 1)))
      (pss_cons (ps_asg (pe_op op_fdiv (pe_ix ix_list (pv 0) pe_int (fun _ _ => rfl)) (pv 1)) (pg_sub (pv 0) pe_int set_list))
      (pss_one (ps_ret (pv 2))))) pss_nil)
      (pss_cons (ps_asg (pe_op op_add (pe_ix ix_list (pv 0) pe_int (fun _ _ => rfl)) pe_int) (pg_sub (pv 0) pe_int set_list))
      (pss_cons (ps_set (i := 3) sc_l_take.nd rfl (.inl rfl) (pe_op op_mod (pe_callTy call_int1 (by rfl) T.b_int (by decide +kernel) (pa_cons (pe_op op_pow (pe_op op_add (pe_ix ix_list (pv 0) pe_int (fun _ _ => rfl)) (pe_op op_mul pe_int (pe_ix ix_list (pv 0) pe_int (fun _ _ => rfl)))) pe_int) pa_nil)) pe_int))
      (pss_cons (ps_set (i := 3) sc_l_take.nd rfl (.inl rfl) (pe_op op_mod (pe_callTy call_int1 (by rfl) T.b_int (by decide +kernel) (pa_cons (pe_op op_pow (pe_op op_add (pv 3) (pe_op op_mul pe_int (pe_ix ix_list (pv 0) pe_int (fun _ _ => rfl)))) pe_int) pa_nil)) pe_int))
      (pss_one (ps_ret (pe_op op_mod (pe_callTy call_int1 (by rfl) T.b_int (by decide +kernel) (pa_cons (pe_op op_fdiv (pv 3) pe_int) pa_nil)) (pv 1)))))))), ?_⟩
    refine ⟨_, rfl, b, _, _, _, rfl, rfl, SqL.of hb, rfl, _, _, rfl, rfl, _, rfl, ?_⟩
    refine ite2 (fun h => ?_) (fun h => ?_)
    · have h1 : 0 < d := of_decide_eq_true h
      refine ⟨_, rfl, b, _, _, _, rfl, rfl, SqL.of hb, rfl, .inl ⟨_, rfl, _, rfl, _, _, rfl, rfl, p0, ?_⟩⟩
      refine ⟨_, rfl, b, _, _, _, rfl, rfl, SqL.of hb, rfl, _, rfl, _, _, rfl, rfl, ⟨p0, by omega⟩, ?_⟩
      refine ⟨_, rfl, b, _, _, _, rfl, rfl, hb, rfl, ?_⟩
      refine ⟨_, rfl, ?_⟩
      refine k _ _ (Int.emod_nonneg _ (by omega)) (Int.emod_lt_of_pos _ p0) ⟨d / many, m, c, upd_same, Int.ediv_nonneg d0 (by omega), m0, m1, c0, by omega⟩ But.upd
    · refine ⟨_, rfl, b, _, _, _, rfl, rfl, SqL.of hb, rfl, _, _, rfl, rfl, ?_⟩
      refine ⟨_, rfl, b, _, _, _, rfl, rfl, hb, rfl, ?_⟩
      have hb2 : (upd H b (.lst ([V.int d, V.int m, V.int c].set 2 (V.int (c + 1))))) b = some (.lst [.int d, .int m, .int (c + 1)]) := upd_same
      refine ⟨_, rfl, b, _, _, _, rfl, rfl, SqL.of hb2, rfl, _, rfl, b, _, _, _, rfl, rfl, SqL.of hb2, rfl, _, _, rfl, rfl, .inl ⟨by decide, by decide⟩, _, _, rfl, rfl, _, _, rfl, rfl, ⟨by decide, by decide, by omega⟩, .inl ⟨_, rfl, _, _, rfl, rfl, (by show (0 : Int) < 2305843009213693921; decide), ?_⟩⟩
      generalize e : (m + 1000081 * (c + 1)) ^ Int.toNat 3 % 2305843009213693921 = x
      have x0 : 0 ≤ x := by rw [← e]; exact Int.emod_nonneg _ (by decide)
      have x1 : x < 2305843009213693921 := by rw [← e]; exact Int.emod_lt_of_pos _ (by decide)
      refine ⟨_, rfl, _, rfl, b, _, _, _, rfl, rfl, SqL.of hb2, rfl, _, _, rfl, rfl, .inl ⟨by decide, by decide⟩, _, _, rfl, rfl, _, _, rfl, rfl, ⟨by decide, by decide, by omega⟩, .inl ⟨_, rfl, _, _, rfl, rfl, (by show (0 : Int) < 2305843009213693951; decide), ?_⟩⟩
      generalize e2 : (x + 32452867 * (c + 1)) ^ Int.toNat 2 % 2305843009213693951 = y
      refine ⟨_, rfl, _, _, rfl, rfl, ⟨by decide, by decide⟩, .inl ⟨_, rfl, _, rfl, _, _, rfl, rfl, p0, ?_⟩⟩
      exact k _ _ (Int.emod_nonneg _ (by omega)) (Int.emod_lt_of_pos _ p0) ⟨d, m, c + 1, hb2, d0, m0, m1, by omega, by omega⟩ But.upd

def cutI (rs : List Int) (lo hi : Option Int) : List Int := (rs.drop (HT.sIx rs.length 0 lo)).take (HT.sIx rs.length rs.length hi - HT.sIx rs.length 0 lo)
theorem cutV_ints (rs : List Int) (lo hi : Option Int) : cutV (rs.map V.int) lo hi = (cutI rs lo hi).map V.int := by
  unfold cutV cutI
  rw [List.length_map, List.map_take, List.map_drop]
theorem cutI_mem {rs : List Int} {lo hi : Option Int} {k : Int} (h : k ∈ cutI rs lo hi) : k ∈ rs := List.mem_of_mem_drop (List.mem_of_mem_take h)
theorem cutI_len (rs : List Int) (lo hi : Option Int) : (cutI rs lo hi).length ≤ rs.length := by
  unfold cutI
  rw [List.length_take, List.length_drop]
  omega
def intM (f : Int → Int) : V → Option V
  | .int c => some (.int (f c))
  | _ => none
theorem fm_intM (f : Int → Int) : ∀ ns : List Int, (ns.map V.int).filterMap (intM f) = (ns.map f).map V.int
  | [] => rfl
  | c :: ns => by
    rw [List.map_cons, List.filterMap_cons, List.map_cons, List.map_cons, fm_intM f ns]
    rfl
theorem any_rep (n : Nat) : ((List.replicate n false).any id) = false := by
  induction n with
  | zero => rfl
  | succ n ih => rw [List.replicate_succ, List.any_cons, ih]; rfl

theorem BagAt.mono {H : Hp} {b : Addr} {m n : Nat} (h : BagAt H b m) (e : m ≤ n) : BagAt H b n := by
  obtain ⟨d, x, c, h1, h2, h3, h4, h5, h6⟩ := h
  exact ⟨d, x, c, h1, h2, h3, h4, h5, by omega⟩
theorem BagAt.keep {H H' : Hp} {b : Addr} {n : Nat} (h : BagAt H b n) (s : Same H H') : BagAt H' b n := by
  obtain ⟨d, x, c, h1, h2⟩ := h
  exact ⟨d, x, c, s _ _ h1, h2⟩
theorem BagAt.ne {H : Hp} {b p : Addr} {n : Nat} (h : BagAt H b n) (e : H p = none) : p ≠ b := by
  obtain ⟨d, x, c, h1, _⟩ := h
  exact (ne_of_none h1 e).symm
theorem BagAt.upd {H : Hp} {b p : Addr} {o : HO} {n : Nat} (h : BagAt H b n) (e : p ≠ b) : BagAt (upd H p o) b n := by
  obtain ⟨d, x, c, h1, h2⟩ := h
  exact ⟨d, x, c, by rw [upd_ne e.symm]; exact h1, h2⟩
theorem BagAt.lst {H : Hp} {b : Addr} {n : Nat} (h : BagAt H b n) : ∃ xs, H b = some (.lst xs) := by
  obtain ⟨d, x, c, h1, h2⟩ := h
  exact ⟨_, h1⟩

/-- a choice by what is in it -/
def ChF (a : Ad) (H : Hp) (x : Addr) (f : Int → Bool) (b : Bool) (N : Nat) : Prop := ∃ ls, ChAt a H x ls b ∧ (∀ k, has ls b k = f k) ∧ ls.length ≤ N
theorem ChF.keep {H H' : Hp} {x : Addr} {f : Int → Bool} {b : Bool} {N : Nat} (h : ChF a H x f b N) (s : Same H H') : ChF a H' x f b N := by
  obtain ⟨ls, h1, h2, h3⟩ := h
  exact ⟨ls, h1.keep s, h2, h3⟩
theorem ChF.but {H H' : Hp} {x c : Addr} {f : Int → Bool} {b : Bool} {N : Nat} (h : ChF a H x f b N) (s : But c H H') (hb : ∃ xs, H c = some (.lst xs)) : ChF a H' x f b N := by
  obtain ⟨ls, h1, h2, h3⟩ := h
  exact ⟨ls, h1.but s hb, h2, h3⟩
/-- a listed row and whether it is the rest -/
def TwAt (H : Hp) (t : Addr) (ns : List Int) (r : Bool) : Prop := ∃ l, H t = some (.tup [.ref l, .bl r]) ∧ H l = some (.lst (ns.map V.int))
theorem TwAt.keep {H H' : Hp} {t : Addr} {ns : List Int} {r : Bool} (h : TwAt H t ns r) (s : Same H H') : TwAt H' t ns r := by
  obtain ⟨l, h1, h2⟩ := h
  exact ⟨l, s _ _ h1, s _ _ h2⟩
theorem TwAt.but {H H' : Hp} {t c : Addr} {ns : List Int} {r : Bool} (h : TwAt H t ns r) (s : But c H H') (hb : ∃ d m e : Int, H c = some (.lst [.int d, .int m, .int e])) (hn : ∀ l, H t = some (.tup [.ref l, .bl r]) → l ≠ c) : TwAt H' t ns r := by
  obtain ⟨l, h1, h2⟩ := h
  obtain ⟨d, m, e, hb⟩ := hb
  exact ⟨l, s _ _ h1 (ne_of h1 hb (by intro z; cases z)), s _ _ h2 (hn l h1)⟩
theorem mem_of_has {ls ns : List Int} {b : Bool} (h : ∀ k, has ls b k = has ns b k) (k : Int) : k ∈ ls ↔ k ∈ ns := by
  have := h k
  unfold has at this
  cases b <;> by_cases p : k ∈ ls <;> by_cases q : k ∈ ns <;> simp_all
theorem has_mem {ls ns : List Int} {b : Bool} (h : ∀ k, k ∈ ls ↔ k ∈ ns) (k : Int) : has ls b k = has ns b k := by
  unfold has
  rw [decide_eq_decide.mpr (h k)]
theorem has_not (ls : List Int) (b : Bool) (k : Int) : has ls (!b) k = !has ls b k := by
  unfold has
  cases decide (k ∈ ls) <;> cases b <;> rfl
theorem or_go {x y : Addr} {H : Hp} {f g : Int → Bool} {b c : Bool} {N M : Nat} {Q : VK} (cx : ChF a H x f b N) (cy : ChF a H y g c M) (hn : N + M ≤ 4000)
    (k : ∀ z H', Same H H' → ChF a H' z (fun k => f k || g k) (b || c) (N + M) → Q (.ref z) H') : rOwnBin a.C_Choice (rawS (spCor a)) E0 (.ref x) (.ref y) H Q := by
  obtain ⟨lx, cx, hx, nx⟩ := cx
  obtain ⟨ly, cy, hy, ny⟩ := cy
  obtain ⟨dx, fx, ix⟩ := cx.ins
  obtain ⟨dy, fy, iy⟩ := cy.ins
  refine ⟨x, y, dx, dy, fx, fy, rfl, rfl, ix, iy, x, y, lx, ly, b, c, rfl, cx, cy, by omega, fun z ls H' h1 h2 s ch => k z H' s ⟨ls, ch, fun k => ?_, by omega⟩⟩
  rw [h1, hx, hy]
theorem and_go {x y : Addr} {H : Hp} {f g : Int → Bool} {b c : Bool} {N M : Nat} {Q : VK} (cx : ChF a H x f b N) (cy : ChF a H y g c M) (hn : N + M ≤ 4000)
    (k : ∀ z H', Same H H' → ChF a H' z (fun k => f k && g k) (b && c) (N + M) → Q (.ref z) H') : rOwnBin a.C_Choice (rawS (spCand a)) E0 (.ref x) (.ref y) H Q := by
  obtain ⟨lx, cx, hx, nx⟩ := cx
  obtain ⟨ly, cy, hy, ny⟩ := cy
  obtain ⟨dx, fx, ix⟩ := cx.ins
  obtain ⟨dy, fy, iy⟩ := cy.ins
  refine ⟨x, y, dx, dy, fx, fy, rfl, rfl, ix, iy, x, y, lx, ly, b, c, rfl, cx, cy, by omega, fun z ls H' h1 h2 s ch => k z H' s ⟨ls, ch, fun k => ?_, by omega⟩⟩
  rw [h1, hx, hy]
theorem inv_go {x : Addr} {H : Hp} {f : Int → Bool} {b : Bool} {N : Nat} {Q : VK} (cx : ChF a H x f b N) (hn : N ≤ 4000)
    (k : ∀ z H', Same H H' → ChF a H' z (fun k => !f k) (!b) N → Q (.ref z) H') : rOwnInv a.C_Choice (rawS (spCInv a)) E0 (.ref x) H Q := by
  obtain ⟨lx, cx, hx, nx⟩ := cx
  obtain ⟨dx, fx, ix⟩ := cx.ins
  refine ⟨x, dx, fx, rfl, ix, x, lx, b, rfl, cx, by omega, fun z H' nz s ch => k z H' s ⟨lx, ch, fun k => ?_, nx⟩⟩
  rw [has_not, hx]
theorem ne_go (T : Txt K mg a) {x y : Addr} {H : Hp} {f g : Int → Bool} {b c : Bool} {N M : Nat} {Q : VK} (cx : ChF a H x f b N) (cy : ChF a H y g c M) (e : b = c) (h : ∀ k, f k = g k) (k : Q (.bl false) H) :
    rOwnNe K a.C_Choice (rawS (spCEq K a)) E0 (.ref x) (.ref y) H Q := by
  obtain ⟨lx, cx, hx, nx⟩ := cx
  obtain ⟨ly, cy, hy, ny⟩ := cy
  obtain ⟨dx, fx, ix⟩ := cx.ins
  obtain ⟨dy, fy, iy⟩ := cy.ins
  subst e
  have e : lx = ly := has_eq cx.1 cy.1 fun k => by rw [hx, hy, h]
  refine ⟨x, dx, fx, _, rfl, ix, T.ct_Choice.ty iy, nf_own, x, lx, b, _, rfl, cx, .inl ⟨y, ly, b, rfl, cy, _, rfl, ?_⟩⟩
  rw [decide_eq_true e, beq_self_eq_true]
  exact k

def spDrawn (a : Ad) : Sp := fun vs H Q _ => ∃ (b : Addr) (n : Nat), vs = [.ref b] ∧ BagAt H b n ∧ n < 2 ^ 28 ∧
  ∀ (p x t l : Addr) (ns : List Int) (r : Bool) (H' : Hp), H' p = some (.tup [.ref x, .ref t]) → H' t = some (.tup [.ref l, .bl r]) → H' l = some (.lst (ns.map V.int)) → l ≠ b → ChF a H' x (has ns r) r 6 → ns.length ≤ 6 → (∀ k ∈ ns, 0 ≤ k ∧ k < 1001) →
    BagAt H' b (n + 9) → But b H H' → Q (.ref p) H'
theorem sc_l_drawn : FnScope ["_law_bag_here", "_law_top", "_law_listed", "_law_turn", "_law_found", "_law_is_rest", "_law_value"] ["_law_bag_here"] (defScope s_l_drawn) := ⟨rfl, rfl, rfl, by decide +kernel, rfl, by decide +kernel, by decide +kernel⟩
theorem ok_l_drawn (T : Txt K mg a) : FnOk P w K mg base CX0 4 a.f_l_drawn a.d_l_drawn ["_law_bag_here"] (spDrawn a) := by
  refine T.F_l_drawn.ok sc_l_drawn (fun vs H Q E h => ?_) (fun cdv A outer s H vs Q E hr h => ?_)
  · obtain ⟨b, n, rfl, _⟩ := h
    rfl
  · obtain ⟨b, n, rfl, hb, hn, k⟩ := h
    refine ⟨_, (pss_cons (ps_set (i := 1) sc_l_drawn.nd rfl (.inr rfl) (pe_ix ix_list (pe_lstS (pa_cons pe_int (pa_cons pe_int (pa_cons pe_int pa_nil)))) (pe_call (ok_l_take T) (hr.mono (by decide)) rfl T.m_l_take T.k_l_take T.a_l_take .nil pass0 (pa_cons (pv 0) (pa_cons pe_int pa_nil))) (fun _ _ => rfl)))
      (pss_cons (ps_setLc (i := 2) (own := [("_law_turn", 3)]) (g := gName 3) (tt := tYes) (te := (tCall spDraw [] E0 (tCons (tVar 0) (tCons (tVar 1) tNil)))) rfl sc_l_drawn.nd rfl rfl (sw_true rfl rfl rfl (by decide +kernel)) (pi_range1 (by rfl) T.b_range (pa_cons (pe_call (ok_l_take T) (hr.mono (by decide)) rfl T.m_l_take T.k_l_take T.a_l_take .nil pass0 (pa_cons (pv 0) (pa_cons pe_int pa_nil))) pa_nil)) (blkOk_by (own := [("_law_turn", 3)]) (N := ["_law_bag_here", "_law_top", "_law_listed", "_law_turn", "_law_found", "_law_is_rest", "_law_value"]) (sc := defScope s_l_drawn) (by decide +kernel)) (fun _ _ _ _ _ => (pg_name (i := 3) sc_l_drawn.nd rfl (.inl rfl))) (fun _ _ _ _ _ => pts_nil) (fun _ _ _ _ _ => (pe_call (ok_l_take T) (hr.mono (by decide)) rfl T.m_l_take T.k_l_take T.a_l_take .nil pass0 (pa_cons (pv 0) (pa_cons (pv 1) pa_nil)))))
      (pss_cons (ps_par (i := 4) (j := 5) (by rfl) sc_l_drawn.nd rfl rfl (by decide) rfl rfl (pa_cons (pe_mkC0 (mkR_Choice T (hr.mono (by decide))) T.mk_Choice.kp rfl T.m_Choice) (pa_cons (pe_cmpR op_eq (pe_call (ok_l_take T) (hr.mono (by decide)) rfl T.m_l_take T.k_l_take T.a_l_take .nil pass0 (pa_cons (pv 0) (pa_cons pe_int pa_nil))) pe_int (nomark _)) pa_nil)) (by rfl))
      (pss_cons (ps_for PassesOwn.never rfl (pi_list (pv 2)) (pg_name (i := 6) sc_l_drawn.nd rfl (.inl rfl))
      (pss_one (ps_set (i := 4) sc_l_drawn.nd rfl (.inl rfl) (pe_op (op_ownBin (C := a.C_Choice) T.sf_Choice T.f_Choice__or T.i_Choice__or ((ok_Choice__or T).raw T.a_Choice__or .nil) (hr.mono (by decide)) pass0) (pe_mkC (mkR_Choice T (hr.mono (by decide))) T.mk_Choice.kp rfl T.m_Choice (pa_cons (pv 6) pa_nil)) (pv 4)))))
      (pss_one (ps_ret (pe_tupS (pa_cons (pe_ifExp (pt_val (pv 5)) (pe_un (un_ownInv (C := a.C_Choice) T.f_Choice__invert T.i_Choice__invert ((ok_Choice__invert T).raw T.a_Choice__invert .nil) (hr.mono (by decide)) pass0) (pv 4)) (pv 4)) (pa_cons (pe_tupS (pa_cons (pv 2) (pa_cons (pv 5) pa_nil))) pa_nil))))))))), ?_⟩
    refine ⟨(by show 3 ≤ sizeLine; decide), fun q H1 nq s1 hq => ?_⟩
    refine ⟨_, rfl, b, n, 3, rfl, hb.keep s1, by omega, by decide, by decide, fun j H2 j0 j1 hb2 bt2 => ?_⟩
    obtain ⟨v, hv, hat⟩ := atI_some (rs := [V.int 3, V.int 7, V.int 1001]) (i := j) (by show -(3 : Int) ≤ j; omega) (by show j < (3 : Int); omega)
    obtain ⟨m, rfl, m0, m1⟩ : ∃ m : Int, v = .int m ∧ 0 < m ∧ m ≤ 1001 := by
      simp only [List.mem_cons, List.not_mem_nil, or_false] at hv
      rcases hv with rfl | rfl | rfl
      all_goals exact ⟨_, rfl, by decide, by decide⟩
    refine ⟨q, _, _, _, rfl, rfl, SqL.of (bt2 _ _ hq (hb.ne nq)), hat, ?_⟩
    refine ⟨_, rfl, b, n + 1, 7, rfl, hb2, by omega, by decide, by decide, fun r3 H3 r0 r1 hb3 bt3 => ?_⟩
    refine ⟨_, rfl, by omega, by omega, fun D hD => ?_⟩
    have nD : D ≠ b := hb3.ne hD
    refine lc_range (lo := 0) (fun i H2 => ∃ ns : List Int, H2 D = some (.lst (ns.map V.int)) ∧ ns.length = i ∧ (∀ k ∈ ns, 0 ≤ k ∧ k < 1001) ∧ BagAt H2 b (n + 2 + i) ∧ ∀ q o, H3 q = some o → q ≠ b → H2 q = some o)
      ⟨[], upd_same, rfl, fun y hy => (by cases hy), hb3.upd nD, fun q o e hq => by rw [upd_ne (ne_of_none e hD)]; exact e⟩ ?_ ?_
    · rintro i H4 hi ⟨ns, hD2, hlen, hall, hb4, hk⟩
      refine ⟨rfl, _, rfl, _, rfl, b, n + 2 + i, m, rfl, hb4, by omega, m0, by omega, fun z H5 z0 z1 hb5 bt5 => ?_⟩
      refine ⟨_, bt5 _ _ hD2 nD, ?_, ns ++ [z], ?_, by rw [List.length_append, hlen]; rfl, ?_, (hb5.mono (by omega)).upd nD, fun q o e hq => ?_⟩
      · rw [List.length_map]
        exact sz_lt (by omega)
      · rw [upd_same, List.map_append]
        rfl
      · intro y hy
        rcases List.mem_append.mp hy with hy | hy
        · exact hall y hy
        · rw [List.mem_singleton.mp hy]
          omega
      · rw [upd_ne (ne_of_none e hD)]
        exact bt5 q o (hk q o e hq) hq
    rintro H4 ⟨ns, hD4, hlen, hall, hb4, hk⟩
    have bt4 : But b H H4 := (((But.of s1).trans bt2).trans bt3).trans hk
    have ln : ns.length ≤ 6 := by omega
    -- found, is_rest
    refine ⟨[], rfl, by decide, fun l0 x0 H5 mem5 len5 nx5 s5 c5 => ?_⟩
    have e0 : l0 = [] := List.length_eq_zero_iff.mp (Nat.le_zero.mp len5)
    subst e0
    refine ⟨_, rfl, b, n + 8, 2, rfl, (hb4.mono (by omega)).keep s5, by omega, by decide, by decide, fun z H6 z0 z1 hb6 bt6 => ?_⟩
    have hD6 := bt6 _ _ (s5 _ _ hD4) nD
    have c6 := c5.but bt6 ((hb4.keep s5).lst)
    refine ⟨rfl, _, _, rfl, ?_⟩
    generalize decide (V.int z = V.int 1) = r
    have bt06 : But b H H6 := (bt4.trans (But.of s5)).trans bt6
    refine ⟨_, rfl, D, rfl, ⟨_, SqL.of hD6⟩, for_list (K := K) (a := D) (xs := ns.map V.int) (fun i σ H' => ∃ (v3 v6 : Option V) (f : Addr) (ls : List Int), σ = [some (.ref b), some (.int m), some (.ref D), v3, some (.ref f), some (.bl r), v6] ∧ Same H6 H' ∧ ChAt a H' f ls false ∧ (∀ k, k ∈ ls ↔ k ∈ ns.take i) ∧ ls.length ≤ i)
      ⟨_, _, x0, [], rfl, Same.refl _, c6, fun k => by simp, Nat.le_refl _⟩ (fun i σ H' _ ⟨_, _, _, _, _, z, _⟩ => SqL.of (z _ _ hD6)) ?_ ?_⟩
    · rintro i v σ H7 hv ⟨v3, v6, f, ls, rfl, s7, ch7, mem7, len7⟩
      rw [List.getElem?_map] at hv
      obtain ⟨c, hc, rfl⟩ := Option.map_eq_some_iff.mp hv
      have hi : i < ns.length := (List.getElem?_eq_some_iff.mp hc).1
      refine ⟨_, rfl, [c], rfl, (by show 1 ≤ 4000; decide), fun ms y H8 mem8 len8 ny s8 ch8 => ?_⟩
      have ch7' := ch7.keep s8
      obtain ⟨d1, f1, i1⟩ := ch7'.ins
      obtain ⟨d2, f2, i2⟩ := ch8.ins
      have l8 : ms.length ≤ 1 := len8
      refine ⟨_, rfl, y, f, d2, d1, f2, f1, rfl, rfl, i2, i1, y, f, ms, ls, false, false, rfl, ch8, ch7', by omega, fun z zs H9 hh hlen s9 ch9 => ?_⟩
      refine ⟨_, _, z, zs, rfl, (s7.trans s8).trans s9, ch9, fun k => ?_, by omega⟩
      have h1 := hh k
      have h2 := mem7 k
      have h3 := mem8 k
      rw [List.take_add_one, hc]
      unfold has at h1
      simp only [Option.toList_some, List.mem_append, List.mem_singleton] at *
      rw [← h2, ← h3]
      by_cases p : k ∈ zs <;> by_cases q : k ∈ ls <;> by_cases r : k ∈ ms <;> simp [p, q, r] at h1 ⊢
    rintro σ H7 ⟨v3, v6, f, ls, rfl, s7, ch7, mem7, len7⟩
    rw [List.length_map] at len7 mem7
    rw [List.take_length] at mem7
    have fin : ∀ (x : Addr) (H8 : Hp), Same H7 H8 → ChF a H8 x (has ns r) r 6 → tTupS (tCons (tVar 2) (tCons (tVar 5) tNil)) [some (.ref b), some (.int m), some (.ref D), v3, some (.ref f), some (.bl r), v6] H8 (fun y H9 => 2 ≤ sizeLine ∧ ∀ p H', H9 p = none → Same H9 H' → H' p = some (.tup [.ref x, y]) → Q (.ref p) H') := by
      intro x H8 s8 ch8
      refine ⟨_, rfl, _, rfl, (by show 2 ≤ sizeLine; decide), fun t H9 nt s9 ht => ⟨by decide, fun p H10 np s10 hp => ?_⟩⟩
      have s610 := ((s7.trans s8).trans s9).trans s10
      exact k p x t D ns r H10 hp (s10 _ _ ht) (s610 _ _ hD6) nD (ch8.keep (s9.trans s10)) ln hall (hb6.keep s610) (bt06.trans (But.of s610))
    refine ⟨_, rfl, _, rfl, ?_⟩
    cases r
    · refine iteF ⟨_, rfl, ?_⟩
      exact fin f H7 (Same.refl _) ⟨ls, ch7, has_mem mem7, by omega⟩
    · refine iteT ⟨_, rfl, ?_⟩
      refine inv_go (f := has ls false) (N := 6) ⟨ls, ch7, fun _ => rfl, by omega⟩ (by decide) fun z H8 s8 ch8 => ?_
      obtain ⟨ms, c1, c2, c3⟩ := ch8
      refine fin z H8 s8 ⟨ms, c1, fun k => ?_, c3⟩
      exact (c2 k).trans ((has_not ls false k).symm.trans (has_mem (b := true) mem7 k))

end
end Toy

set_option Elab.async false
set_option linter.all false
set_option maxRecDepth 100000
set_option maxHeartbeats 4000000
set_option pp.maxSteps 1500
set_option pp.deepTerms false
namespace Toy
open PySem L2 Lf
section
variable {P : Program} {w : World} {K : PySem.W.Frag} {mg : Str → Option Value} {base : Heap} {a : Ad}

def spHas (K : PySem.W.Frag) : Sp := fun vs H Q _ => ∃ (t : Addr) (ns : List Int) (r : Bool) (c : Int), vs = [.ref t, .int c] ∧ TwAt H t ns r ∧ Q (.bl (has ns r c)) H
theorem sc_l_has : FnScope ["_law_twin", "_law_value"] ["_law_twin", "_law_value"] (defScope s_l_has) := ⟨rfl, rfl, rfl, by decide +kernel, rfl, by decide +kernel, by decide +kernel⟩
theorem ok_l_has (T : Txt K mg a) : FnOk P w K mg base CX0 1 a.f_l_has a.d_l_has ["_law_twin", "_law_value"] (spHas K) := by
  refine T.F_l_has.ok sc_l_has (fun vs H Q E h => ?_) (fun cdv A outer s H vs Q E hr h => ?_)
  · obtain ⟨t, ns, r, c, rfl, _⟩ := h
    rfl
  · obtain ⟨t, ns, r, c, rfl, tw, k⟩ := h
    refine ⟨_, (pss_one (ps_ret (pe_cmpR op_ne (pe_cmpR op_in_seq (pv 1) (pe_ix ix_tup (pv 0) pe_int (fun _ _ => rfl)) rfl) (pe_ix ix_tup (pv 0) pe_int (fun _ _ => rfl)) (nomark _)))), ?_⟩
    obtain ⟨l, h1, h2⟩ := tw
    refine ⟨_, rfl, _, rfl, t, _, _, _, rfl, rfl, SqT.of h1, rfl, l, _, rfl, .inl (SqL.of h2), rfl, flat_ints ns, ?_⟩
    refine ⟨_, rfl, t, _, _, _, rfl, rfl, SqT.of h1, rfl, rfl, ?_⟩
    rw [inV_ints]
    show Q (.bl (!decide (V.bl (decide (c ∈ ns)) = V.bl r))) H
    rw [blD]
    exact k

def spWritten : Sp := fun vs H Q _ => ∃ (t : Addr) (ns : List Int) (r : Bool), vs = [.ref t] ∧ TwAt H t ns r ∧ Sml ns ∧ ∀ ls H', Rise ls → (∀ k, k ∈ ls ↔ k ∈ ns) → Same H H' → Q (.str (wr ls r)) H'
theorem sc_l_written : FnScope ["_law_twin", "_law_words", "_law_value"] ["_law_twin"] (defScope s_l_written) := ⟨rfl, rfl, rfl, by decide +kernel, rfl, by decide +kernel, by decide +kernel⟩
theorem ok_l_written (T : Txt K mg a) : FnOk P w K mg base CX0 1 a.f_l_written a.d_l_written ["_law_twin"] spWritten := by
  refine T.F_l_written.ok sc_l_written (fun vs H Q E h => ?_) (fun cdv A outer s H vs Q E hr h => ?_)
  · obtain ⟨t, ns, r, rfl, _⟩ := h
    rfl
  · obtain ⟨t, ns, r, rfl, tw, hs, k⟩ := h
    refine ⟨_, (pss_cons (ps_set (i := 1) sc_l_written.nd rfl (.inl rfl) (pe_join pe_str (pe_lc (own := [("_law_value", 2)]) (g := gName 2) (tt := tYes) (te := (tCB rStrI (tCons (tVar 2) tNil))) rfl sc_l_written.nd (pi_list (pe_callB (cr_sortedSetA rfl) (by rfl) T.b_sorted (by decide +kernel) (pa_cons (pe_callTy (cr_setLI rfl) (by rfl) T.b_set (by decide +kernel) (pa_cons (pe_ix ix_tup (pv 0) pe_int (fun _ _ => rfl)) pa_nil)) pa_nil))) (blkOk_by (own := [("_law_value", 2)]) (N := ["_law_twin", "_law_words", "_law_value"]) (sc := defScope s_l_written) (by decide +kernel)) (fun _ _ _ _ _ => (pg_name (i := 2) sc_l_written.nd rfl (.inl rfl))) (fun _ _ _ _ _ => pts_nil) (fun _ _ _ _ _ => (pe_callTy call_str_int (by rfl) T.b_str (by decide +kernel) (pa_cons (pv 2) pa_nil))))))
      (pss_cons (ps_if (pt_val (pe_ix ix_tup (pv 0) pe_int (fun _ _ => rfl))) (pss_one (ps_ret (pe_ifExp (pt_cmpR op_ne (pv 1) pe_str (nomark _)) (pe_op op_add_str pe_str (pv 1)) pe_str))) pss_nil)
      (pss_one (ps_ret (pv 1))))), ?_⟩
    obtain ⟨l, h1, h2⟩ := tw
    have hn := hs.1
    refine ⟨⟨_, rfl⟩, _, rfl, t, _, _, _, rfl, rfl, SqT.of h1, rfl, l, ns, rfl, SqL.of h2, FewI.of_len (by omega), fun q c H1 nq s1 hq hc => ?_⟩
    refine ⟨q, _, c, rfl, hq, fun ls q2 H2 rise mem len nq2 s2 hq2 => ?_⟩
    have mem' : ∀ k, k ∈ ls ↔ k ∈ ns := fun k => (mem k).trans ⟨of_decide_eq_true, decide_eq_true⟩
    have hs' : Sml ls := ⟨by omega, fun k hk => hs.2 k ((mem' k).mp hk)⟩
    refine ⟨q2, rfl, ⟨_, SqL.of hq2⟩, fun D nD => lc_listF (K := K) (a := q2) (xs := ls.map V.int) intS nD (by rw [List.length_map]; omega) (fun H' s' => SqL.of (s' _ _ hq2)) ?_ fun H3 s3 hD => ?_⟩
    · intro v hv H' N s' hN
      obtain ⟨c, hc, rfl⟩ := List.mem_map.mp hv
      obtain ⟨c0, c1⟩ := hs'.2 c hc
      exact ⟨rfl, _, rfl, c, rfl, sml_log c0 c1, hN H' (Same.refl _)⟩
    rw [fm_intS] at hD
    refine ⟨_, D, ls.map numS, rfl, rfl, .inl (SqL.of hD), join_ok hs', ?_⟩
    have s13 := (s1.trans s2).trans s3
    have kk := k ls H3 rise mem' s13
    have hl := wrI_len hs'
    have e2 : (Str.ofString "not ").length = 4 := by decide +kernel
    refine ⟨_, rfl, t, _, _, _, rfl, rfl, SqT.of (s13 _ _ h1), rfl, _, rfl, ?_⟩
    unfold wr at kk
    cases r
    · exact iteF ⟨_, rfl, kk⟩
    · refine iteT ⟨_, rfl, rfl, _, rfl, ?_⟩
      rw [if_pos rfl] at kk
      refine ite2 (fun h => ?_) (fun h => ?_)
      · have ne : ¬ ls = [] := fun e => by
          have := (wrI_ne hs').mpr e
          have h' : ¬ V.str (wrI ls) = V.str "" := by simpa [wrI] using h
          exact h' (by rw [this])
        rw [if_neg ne] at kk
        exact ⟨_, rfl, _, _, rfl, rfl, sz_txt (by rw [e2]; show 4 + (wrI ls).length ≤ _; omega), kk⟩
      · have e : ls = [] := (wrI_ne hs').mp (by
          have h' : V.str (wrI ls) = V.str "" := by simpa [wrI] using h
          exact V.str.inj h')
        rw [if_pos e] at kk
        exact kk

end
end Toy

set_option Elab.async false
set_option linter.all false
set_option maxRecDepth 100000
set_option maxHeartbeats 4000000
set_option pp.maxSteps 1500
set_option pp.deepTerms false
namespace Toy
open PySem L2 Lf
section
variable {P : Program} {w : World} {K : PySem.W.Frag} {mg : Str → Option Value} {base : Heap} {a : Ad}

def opE (e : Bool) (x y : Bool) : Bool := if e then x || y else x && y
theorem merged_has {n1 n2 bs : List Int} {r1 r2 e : Bool} (mem : ∀ k, k ∈ bs ↔ k ∈ n1 ++ n2) (k : Int) :
    has (bs.filter fun k => opE e (has n1 r1 k) (has n2 r2 k) != opE e r1 r2) (opE e r1 r2) k = opE e (has n1 r1 k) (has n2 r2 k) := by
  have hm := mem k
  rw [List.mem_append] at hm
  show (decide (k ∈ List.filter _ bs) != _) = _
  by_cases p : k ∈ bs
  · have e1 : decide (k ∈ bs.filter fun k => opE e (has n1 r1 k) (has n2 r2 k) != opE e r1 r2) = (opE e (has n1 r1 k) (has n2 r2 k) != opE e r1 r2) := by
      by_cases q : (opE e (has n1 r1 k) (has n2 r2 k) != opE e r1 r2) = true
      · rw [q]
        exact decide_eq_true (List.mem_filter.mpr ⟨p, q⟩)
      · rw [Bool.eq_false_iff.mpr q]
        exact decide_eq_false fun z => q (List.mem_filter.mp z).2
    rw [e1]
    cases opE e (has n1 r1 k) (has n2 r2 k) <;> cases opE e r1 r2 <;> rfl
  · have q1 : ¬ k ∈ n1 := fun z => p (hm.mpr (.inl z))
    have q2 : ¬ k ∈ n2 := fun z => p (hm.mpr (.inr z))
    rw [decide_eq_false fun z => p (List.mem_filter.mp z).1]
    unfold has opE
    rw [decide_eq_false q1, decide_eq_false q2]
    cases e <;> cases r1 <;> cases r2 <;> rfl
/-- what merged tells -/
def Mg (F : Addr) (H : Hp) (u : Addr) (n1 n2 : List Int) (r1 r2 e : Bool) : Prop := ∃ (l : Addr) (ms : List Int), H u = some (.tup [.ref l, .bl (opE e r1 r2)]) ∧ H l = some (.lst (ms.map V.int)) ∧ (∀ k, has ms (opE e r1 r2) k = opE e (has n1 r1 k) (has n2 r2 k)) ∧
  ms.length ≤ n1.length + n2.length ∧ (∀ k ∈ ms, k ∈ n1 ++ n2) ∧ u ≠ F ∧ l ≠ F
theorem Mg.keep {F : Addr} {H H' : Hp} {u : Addr} {n1 n2 : List Int} {r1 r2 e : Bool} (h : Mg F H u n1 n2 r1 r2 e) (s : ∀ q o, H q = some o → q ≠ F → H' q = some o) : Mg F H' u n1 n2 r1 r2 e := by
  obtain ⟨l, ms, h1, h2, h3, h4, h5, h6, h7⟩ := h
  exact ⟨l, ms, s _ _ h1 h6, s _ _ h2 h7, h3, h4, h5, h6, h7⟩
def spMerged : Sp := fun vs H Q _ => ∃ (t1 t2 : Addr) (n1 n2 : List Int) (r1 r2 : Bool), vs = [.ref t1, .ref t2] ∧ TwAt H t1 n1 r1 ∧ TwAt H t2 n2 r2 ∧ n1.length + n2.length ≤ 1000 ∧
  ∀ D u1 u2 H', H' D = some (.lst [.ref u1, .ref u2]) → Mg D H' u1 n1 n2 r1 r2 false → Mg D H' u2 n1 n2 r1 r2 true → Same H H' → Q (.ref D) H'
theorem sc_l_merged : FnScope ["_law_one", "_law_other", "_law_both", "_law_found", "_law_is_either", "_law_is_rest", "_law_listed", "_law_value", "_law_has_here"] ["_law_one", "_law_other"] (defScope s_l_merged) := ⟨rfl, rfl, rfl, by decide +kernel, rfl, by decide +kernel, by decide +kernel⟩
theorem ok_l_merged (T : Txt K mg a) : FnOk P w K mg base CX0 2 a.f_l_merged a.d_l_merged ["_law_one", "_law_other"] spMerged := by
  refine T.F_l_merged.ok sc_l_merged (fun vs H Q E h => ?_) (fun cdv A outer s H vs Q E hr h => ?_)
  · obtain ⟨t1, t2, n1, n2, r1, r2, rfl, _⟩ := h
    rfl
  · obtain ⟨t1, t2, n1, n2, r1, r2, rfl, tw1, tw2, hn, k⟩ := h
    refine ⟨_, (pss_cons (ps_set (i := 2) sc_l_merged.nd rfl (.inl rfl) (pe_callB (cr_sortedSetA rfl) (by rfl) T.b_sorted (by decide +kernel) (pa_cons (pe_callTy (cr_setLI rfl) (by rfl) T.b_set (by decide +kernel) (pa_cons (pe_op op_catS (pe_ix ix_tup (pv 0) pe_int (fun _ _ => rfl)) (pe_ix ix_tup (pv 1) pe_int (fun _ _ => rfl))) pa_nil)) pa_nil)))
      (pss_cons (ps_set (i := 3) sc_l_merged.nd rfl (.inl rfl) (pe_lstS pa_nil))
      (pss_cons (ps_for PassesOwn.never rfl (pi_tup (pe_tupS (pa_cons pe_bl (pa_cons pe_bl pa_nil)))) (pg_name (i := 4) sc_l_merged.nd rfl (.inl rfl))
      (pss_cons (ps_set (i := 5) sc_l_merged.nd rfl (.inl rfl) (pe_and (pe_ix ix_tup (pv 0) pe_int (fun _ _ => rfl)) (pe_one (pe_ix ix_tup (pv 1) pe_int (fun _ _ => rfl)))))
      (pss_cons (ps_if (pt_val (pv 4)) (pss_one (ps_set (i := 5) sc_l_merged.nd rfl (.inl rfl) (pe_or (pe_ix ix_tup (pv 0) pe_int (fun _ _ => rfl)) (pe_one (pe_ix ix_tup (pv 1) pe_int (fun _ _ => rfl)))))) pss_nil)
      (pss_cons (ps_set (i := 6) sc_l_merged.nd rfl (.inl rfl) (pe_lstS pa_nil))
      (pss_cons (ps_for PassesOwn.never rfl (pi_list (pv 2)) (pg_name (i := 7) sc_l_merged.nd rfl (.inl rfl))
      (pss_cons (ps_set (i := 8) sc_l_merged.nd rfl (.inl rfl) (pe_and (pe_call (ok_l_has T) (hr.mono (by decide)) rfl T.m_l_has T.k_l_has T.a_l_has .nil pass0 (pa_cons (pv 0) (pa_cons (pv 7) pa_nil))) (pe_one (pe_call (ok_l_has T) (hr.mono (by decide)) rfl T.m_l_has T.k_l_has T.a_l_has .nil pass0 (pa_cons (pv 1) (pa_cons (pv 7) pa_nil))))))
      (pss_cons (ps_if (pt_val (pv 4)) (pss_one (ps_set (i := 8) sc_l_merged.nd rfl (.inl rfl) (pe_or (pe_call (ok_l_has T) (hr.mono (by decide)) rfl T.m_l_has T.k_l_has T.a_l_has .nil pass0 (pa_cons (pv 0) (pa_cons (pv 7) pa_nil))) (pe_one (pe_call (ok_l_has T) (hr.mono (by decide)) rfl T.m_l_has T.k_l_has T.a_l_has .nil pass0 (pa_cons (pv 1) (pa_cons (pv 7) pa_nil))))))) pss_nil)
      (pss_one (ps_if (pt_cmpR op_ne (pv 8) (pv 5) (nomark _)) (pss_one (ps_expr (pe_bm PySem.F.plainAttrs_list PySem.F.slot_list_append PySem.F.type_list_append mt_append (pv 6) (pa_cons (pv 7) pa_nil)))) pss_nil)))))
      (pss_one (ps_expr (pe_bm PySem.F.plainAttrs_list PySem.F.slot_list_append PySem.F.type_list_append mt_append (pv 3) (pa_cons (pe_tupS (pa_cons (pv 6) (pa_cons (pv 5) pa_nil))) pa_nil)))))))))
      (pss_one (ps_ret (pv 3)))))), ?_⟩
    obtain ⟨l1, a1, b1⟩ := tw1
    obtain ⟨l2, a2, b2⟩ := tw2
    refine ⟨_, rfl, t1, _, _, _, rfl, rfl, SqT.of a1, rfl, _, rfl, t2, _, _, _, rfl, rfl, SqT.of a2, rfl, l1, l2, _, _, rfl, rfl, b1, b2, by rw [List.length_map, List.length_map]; exact sz_of (by omega), fun q H1 nq s1 hq => ?_⟩
    rw [← List.map_append] at hq
    refine ⟨q, _, rfl, SqL.of hq, FewI.of_len (by rw [List.length_append]; omega), fun q2 c H2 nq2 s2 hq2 hc => ?_⟩
    refine ⟨q2, _, c, rfl, hq2, fun bs B H3 rise mem len nB s3 hB => ?_⟩
    have mem' : ∀ k, k ∈ bs ↔ k ∈ n1 ++ n2 := fun k => (mem k).trans ⟨of_decide_eq_true, decide_eq_true⟩
    have lbs : bs.length ≤ n1.length + n2.length := by rw [List.length_append] at hc; omega
    refine ⟨(by show 0 ≤ sizeLine; decide), fun F H4 nF s4 hF => ?_⟩
    refine ⟨(by show 2 ≤ sizeLine; decide), fun q5 H5 nq5 s5 hq5 => ?_⟩
    have s04 : Same H H4 := ((s1.trans s2).trans s3).trans s4
    have nFH : H F = none := ((s1.trans s2).trans s3).free nF
    have s05 := s04.trans s5
    have hF5 := s5 _ _ hF
    have hB5 := s5 _ _ (s4 _ _ hB)
    have nBF : B ≠ F := ne_of_none hB nF
    -- the turns
    refine ⟨q5, rfl, ⟨_, SqT.of hq5⟩, for_tup (K := K) (a := q5) (xs := [.bl false, .bl true]) (fun i σ H' => ∃ (v4 v5 v6 v7 v8 : Option V) (us : List Addr), σ = [some (.ref t1), some (.ref t2), some (.ref B), some (.ref F), v4, v5, v6, v7, v8] ∧ But F H5 H' ∧ H' F = some (.lst (us.map V.ref)) ∧
        ((i = 0 ∧ us = []) ∨ (i = 1 ∧ ∃ u1, us = [u1] ∧ Mg F H' u1 n1 n2 r1 r2 false) ∨ (i = 2 ∧ ∃ u1 u2, us = [u1, u2] ∧ Mg F H' u1 n1 n2 r1 r2 false ∧ Mg F H' u2 n1 n2 r1 r2 true)))
      ⟨_, _, _, _, _, [], rfl, But.refl, hF5, .inl ⟨rfl, rfl⟩⟩ (fun i σ H' _ ⟨_, _, _, _, _, _, _, z, _⟩ => SqT.of (z _ _ hq5 (ne_of hq5 hF5 (by intro z; cases z)))) ?_ ?_⟩
    · rintro i v σ H6 hv ⟨v4, v5, v6, v7, v8, us, rfl, bt6, hF6, hus⟩
      have i2 : i < 2 := (List.getElem?_eq_some_iff.mp hv).1
      have lus : us.length ≤ 2 := by
        rcases hus with ⟨_, rfl⟩ | ⟨_, u1, rfl, _⟩ | ⟨_, u1, u2, rfl, _⟩
        all_goals simp
      have A1 : H6 t1 = some (.tup [.ref l1, .bl r1]) := bt6 _ _ (s05 _ _ a1) (ne_of_none a1 nFH)
      have A2 : H6 t2 = some (.tup [.ref l2, .bl r2]) := bt6 _ _ (s05 _ _ a2) (ne_of_none a2 nFH)
      have B1 := bt6 _ _ (s05 _ _ b1) (ne_of_none b1 nFH)
      have B2 := bt6 _ _ (s05 _ _ b2) (ne_of_none b2 nFH)
      have HB6 := bt6 _ _ hB5 nBF
      have cut1 : ∀ (e : Bool) (v5 v6 v7 v8 : Option V) (Q : VK), Q (.bl (opE false r1 r2)) H6 → (tAndV (tOp (rIxT K) (tVar 0) (tC (.int 1))) (tOp (rIxT K) (tVar 1) (tC (.int 1)))) [some (.ref t1), some (.ref t2), some (.ref B), some (.ref F), some (.bl e), v5, v6, v7, v8] H6 Q := by
        intro e v5 v6 v7 v8 Q h
        refine ⟨_, rfl, t1, _, _, _, rfl, rfl, SqT.of A1, rfl, _, rfl, ?_⟩
        cases r1
        · exact iteF h
        · exact iteT ⟨_, rfl, t2, _, _, _, rfl, rfl, SqT.of A2, rfl, h⟩
      have cut2 : ∀ (e : Bool) (v5 v6 v7 v8 : Option V) (Q : VK), Q (.bl (opE true r1 r2)) H6 → (tOrV (tOp (rIxT K) (tVar 0) (tC (.int 1))) (tOp (rIxT K) (tVar 1) (tC (.int 1)))) [some (.ref t1), some (.ref t2), some (.ref B), some (.ref F), some (.bl e), v5, v6, v7, v8] H6 Q := by
        intro e v5 v6 v7 v8 Q h
        refine ⟨_, rfl, t1, _, _, _, rfl, rfl, SqT.of A1, rfl, _, rfl, ?_⟩
        cases r1
        · exact iteF ⟨_, rfl, t2, _, _, _, rfl, rfl, SqT.of A2, rfl, h⟩
        · exact iteT h
      have cut3 : ∀ (H8 : Hp) (c : Int) (σ : L2.St), TwAt H8 t1 n1 r1 → TwAt H8 t2 n2 r2 → σ[0]? = some (some (.ref t1)) → σ[1]? = some (some (.ref t2)) → σ[7]? = some (some (.int c)) → ∀ (Q : VK), Q (.bl (opE false (has n1 r1 c) (has n2 r2 c))) H8 → (tAndV (tCall (spHas K) [] E0 (tCons (tVar 0) (tCons (tVar 7) tNil))) (tCall (spHas K) [] E0 (tCons (tVar 1) (tCons (tVar 7) tNil)))) σ H8 Q := by
        intro H8 c σ T1 T2 h0 h1 h7 Q h
        refine ⟨_, h0, _, h7, t1, n1, r1, c, rfl, T1, _, rfl, ?_⟩
        generalize has n1 r1 c = x at *
        cases x
        · exact iteF h
        · exact iteT ⟨_, h1, _, h7, t2, n2, r2, c, rfl, T2, h⟩
      have cut4 : ∀ (H8 : Hp) (c : Int) (σ : L2.St), TwAt H8 t1 n1 r1 → TwAt H8 t2 n2 r2 → σ[0]? = some (some (.ref t1)) → σ[1]? = some (some (.ref t2)) → σ[7]? = some (some (.int c)) → ∀ (Q : VK), Q (.bl (opE true (has n1 r1 c) (has n2 r2 c))) H8 → (tOrV (tCall (spHas K) [] E0 (tCons (tVar 0) (tCons (tVar 7) tNil))) (tCall (spHas K) [] E0 (tCons (tVar 1) (tCons (tVar 7) tNil)))) σ H8 Q := by
        intro H8 c σ T1 T2 h0 h1 h7 Q h
        refine ⟨_, h0, _, h7, t1, n1, r1, c, rfl, T1, _, rfl, ?_⟩
        generalize has n1 r1 c = x at *
        cases x
        · exact iteF ⟨_, h1, _, h7, t2, n2, r2, c, rfl, T2, h⟩
        · exact iteT h
      rcases (show i = 0 ∨ i = 1 by omega) with rfl | rfl
      · obtain rfl : v = .bl false := by cases hv; rfl
        · -- false
          refine cut1 false v5 v6 v7 v8 _ ?_
          refine ⟨_, rfl, _, rfl, iteF ?_⟩
          refine ⟨(by show 0 ≤ sizeLine; decide), fun L H7 nL s7 hL => ?_⟩
          have nBL : B ≠ L := ne_of_none HB6 nL
          refine ⟨_, rfl, B, rfl, ⟨_, SqL.of (s7 _ _ HB6)⟩, for_list (K := K) (a := B) (xs := bs.map V.int) (fun j σ H' => ∃ (v7 v8 : Option V), σ = [some (.ref t1), some (.ref t2), some (.ref B), some (.ref F), some (.bl false), some (.bl (opE false r1 r2)), some (.ref L), v7, v8] ∧ But L H7 H' ∧
              H' L = some (.lst (((bs.take j).filter fun k => opE false (has n1 r1 k) (has n2 r2 k) != opE false r1 r2).map V.int)))
            ⟨_, _, rfl, But.refl, hL⟩ (fun j σ H' _ ⟨_, _, _, z, _⟩ => SqL.of (z _ _ (s7 _ _ HB6) nBL)) ?_ ?_⟩
          · rintro j v σ H8 hv ⟨v7, v8, rfl, bt8, hL8⟩
            rw [List.getElem?_map] at hv
            obtain ⟨c, hc, rfl⟩ := Option.map_eq_some_iff.mp hv
            have lift : ∀ q o, H6 q = some o → H8 q = some o := fun q o h => bt8 q o (s7 q o h) (ne_of_none h nL)
            have T1 : TwAt H8 t1 n1 r1 := ⟨l1, lift _ _ A1, lift _ _ B1⟩
            have T2 : TwAt H8 t2 n2 r2 := ⟨l2, lift _ _ A2, lift _ _ B2⟩
            refine cut3 H8 c _ T1 T2 rfl rfl rfl _ ?_
            refine ⟨_, rfl, _, rfl, iteF ?_⟩
            refine ⟨_, rfl, _, rfl, rfl, _, rfl, ?_⟩
            have tk : ((bs.take (j + 1)).filter fun k => opE false (has n1 r1 k) (has n2 r2 k) != opE false r1 r2) = ((bs.take j).filter fun k => opE false (has n1 r1 k) (has n2 r2 k) != opE false r1 r2) ++ ([c].filter fun k => opE false (has n1 r1 k) (has n2 r2 k) != opE false r1 r2) := by
              rw [List.take_add_one, hc, Option.toList_some, List.filter_append]
            refine ite2 (fun h => ?_) (fun h => ?_)
            · have h' : (opE false (has n1 r1 c) (has n2 r2 c) != opE false r1 r2) = true := by
                rw [blD] at h
                exact h
              rw [List.filter_cons_of_pos (p := fun k => opE false (has n1 r1 k) (has n2 r2 k) != opE false r1 r2) (a := c) (l := []) h', List.filter_nil] at tk
              have ll := List.length_filter_le (fun k => opE false (has n1 r1 k) (has n2 r2 k) != opE false r1 r2) (bs.take j)
              rw [List.length_take] at ll
              refine ⟨_, rfl, .inl ⟨rfl, _, SqL.of hL8⟩, _, rfl, L, _, _, rfl, rfl, hL8, ?_, _, _, rfl, ?_, ?_⟩
              · rw [List.length_map]
                exact sz_lt (by omega)
              · intro q o hq nq
                rw [upd_ne nq]
                exact bt8 q o hq nq
              · rw [upd_same, tk, List.map_append]
                rfl
            · have h' : ¬ (opE false (has n1 r1 c) (has n2 r2 c) != opE false r1 r2) = true := by
                rw [blD] at h
                exact h
              rw [List.filter_cons_of_neg (p := fun k => opE false (has n1 r1 k) (has n2 r2 k) != opE false r1 r2) (a := c) (l := []) h', List.filter_nil, List.append_nil] at tk
              exact ⟨_, _, rfl, bt8, by rw [tk]; exact hL8⟩
          · rintro σ H8 ⟨v7, v8, rfl, bt8, hL8⟩
            rw [List.length_map, List.take_length] at hL8
            have lift : ∀ q o, H6 q = some o → H8 q = some o := fun q o h => bt8 q o (s7 q o h) (ne_of_none h nL)
            have HF8 := lift _ _ hF6
            have nLF : L ≠ F := (ne_of_none hF6 nL).symm
            refine ⟨_, rfl, .inl ⟨rfl, _, SqL.of HF8⟩, _, rfl, _, rfl, (by show 2 ≤ sizeLine; decide), fun u H9 nu s9 hu => ?_⟩
            have nuF : u ≠ F := (ne_of_none HF8 nu).symm
            refine ⟨F, _, _, rfl, rfl, s9 _ _ HF8, ?_, ?_⟩
            · rw [List.length_map]
              exact sz_lt (by omega)
            have lift2 : ∀ q o, H6 q = some o → q ≠ F → (upd H9 F (.lst (us.map V.ref ++ [.ref u]))) q = some o := fun q o h n => by
              rw [upd_ne n]
              exact s9 q o (lift q o h)
            have mg : Mg F (upd H9 F (.lst (us.map V.ref ++ [.ref u]))) u n1 n2 r1 r2 false := by
              refine ⟨L, _, by rw [upd_ne nuF]; exact hu, by rw [upd_ne nLF]; exact s9 _ _ hL8, merged_has mem', Nat.le_trans (List.length_filter_le ..) lbs, fun k hk => (mem' k).mp (List.mem_filter.mp hk).1, nuF, nLF⟩
            refine ⟨_, _, _, _, _, us ++ [u], rfl, fun q o h n => lift2 q o (bt6 q o h n) n, by rw [upd_same, List.map_append]; rfl, ?_⟩
            rcases hus with ⟨_, rfl⟩ | ⟨z, _⟩ | ⟨z, _⟩
            · exact .inr (.inl ⟨rfl, u, rfl, mg⟩)
            · exact absurd z (by omega)
            · exact absurd z (by omega)
      · obtain rfl : v = .bl true := by cases hv; rfl
        · -- true
          refine cut1 true v5 v6 v7 v8 _ ?_
          refine ⟨_, rfl, _, rfl, iteT ?_⟩
          refine cut2 true v5 v6 v7 v8 _ ?_
          refine ⟨(by show 0 ≤ sizeLine; decide), fun L H7 nL s7 hL => ?_⟩
          have nBL : B ≠ L := ne_of_none HB6 nL
          refine ⟨_, rfl, B, rfl, ⟨_, SqL.of (s7 _ _ HB6)⟩, for_list (K := K) (a := B) (xs := bs.map V.int) (fun j σ H' => ∃ (v7 v8 : Option V), σ = [some (.ref t1), some (.ref t2), some (.ref B), some (.ref F), some (.bl true), some (.bl (opE true r1 r2)), some (.ref L), v7, v8] ∧ But L H7 H' ∧
              H' L = some (.lst (((bs.take j).filter fun k => opE true (has n1 r1 k) (has n2 r2 k) != opE true r1 r2).map V.int)))
            ⟨_, _, rfl, But.refl, hL⟩ (fun j σ H' _ ⟨_, _, _, z, _⟩ => SqL.of (z _ _ (s7 _ _ HB6) nBL)) ?_ ?_⟩
          · rintro j v σ H8 hv ⟨v7, v8, rfl, bt8, hL8⟩
            rw [List.getElem?_map] at hv
            obtain ⟨c, hc, rfl⟩ := Option.map_eq_some_iff.mp hv
            have lift : ∀ q o, H6 q = some o → H8 q = some o := fun q o h => bt8 q o (s7 q o h) (ne_of_none h nL)
            have T1 : TwAt H8 t1 n1 r1 := ⟨l1, lift _ _ A1, lift _ _ B1⟩
            have T2 : TwAt H8 t2 n2 r2 := ⟨l2, lift _ _ A2, lift _ _ B2⟩
            refine cut3 H8 c _ T1 T2 rfl rfl rfl _ ?_
            refine ⟨_, rfl, _, rfl, iteT ?_⟩
            refine cut4 H8 c _ T1 T2 rfl rfl rfl _ ?_
            refine ⟨_, rfl, _, rfl, rfl, _, rfl, ?_⟩
            have tk : ((bs.take (j + 1)).filter fun k => opE true (has n1 r1 k) (has n2 r2 k) != opE true r1 r2) = ((bs.take j).filter fun k => opE true (has n1 r1 k) (has n2 r2 k) != opE true r1 r2) ++ ([c].filter fun k => opE true (has n1 r1 k) (has n2 r2 k) != opE true r1 r2) := by
              rw [List.take_add_one, hc, Option.toList_some, List.filter_append]
            refine ite2 (fun h => ?_) (fun h => ?_)
            · have h' : (opE true (has n1 r1 c) (has n2 r2 c) != opE true r1 r2) = true := by
                rw [blD] at h
                exact h
              rw [List.filter_cons_of_pos (p := fun k => opE true (has n1 r1 k) (has n2 r2 k) != opE true r1 r2) (a := c) (l := []) h', List.filter_nil] at tk
              have ll := List.length_filter_le (fun k => opE true (has n1 r1 k) (has n2 r2 k) != opE true r1 r2) (bs.take j)
              rw [List.length_take] at ll
              refine ⟨_, rfl, .inl ⟨rfl, _, SqL.of hL8⟩, _, rfl, L, _, _, rfl, rfl, hL8, ?_, _, _, rfl, ?_, ?_⟩
              · rw [List.length_map]
                exact sz_lt (by omega)
              · intro q o hq nq
                rw [upd_ne nq]
                exact bt8 q o hq nq
              · rw [upd_same, tk, List.map_append]
                rfl
            · have h' : ¬ (opE true (has n1 r1 c) (has n2 r2 c) != opE true r1 r2) = true := by
                rw [blD] at h
                exact h
              rw [List.filter_cons_of_neg (p := fun k => opE true (has n1 r1 k) (has n2 r2 k) != opE true r1 r2) (a := c) (l := []) h', List.filter_nil, List.append_nil] at tk
              exact ⟨_, _, rfl, bt8, by rw [tk]; exact hL8⟩
          · rintro σ H8 ⟨v7, v8, rfl, bt8, hL8⟩
            rw [List.length_map, List.take_length] at hL8
            have lift : ∀ q o, H6 q = some o → H8 q = some o := fun q o h => bt8 q o (s7 q o h) (ne_of_none h nL)
            have HF8 := lift _ _ hF6
            have nLF : L ≠ F := (ne_of_none hF6 nL).symm
            refine ⟨_, rfl, .inl ⟨rfl, _, SqL.of HF8⟩, _, rfl, _, rfl, (by show 2 ≤ sizeLine; decide), fun u H9 nu s9 hu => ?_⟩
            have nuF : u ≠ F := (ne_of_none HF8 nu).symm
            refine ⟨F, _, _, rfl, rfl, s9 _ _ HF8, ?_, ?_⟩
            · rw [List.length_map]
              exact sz_lt (by omega)
            have lift2 : ∀ q o, H6 q = some o → q ≠ F → (upd H9 F (.lst (us.map V.ref ++ [.ref u]))) q = some o := fun q o h n => by
              rw [upd_ne n]
              exact s9 q o (lift q o h)
            have mg : Mg F (upd H9 F (.lst (us.map V.ref ++ [.ref u]))) u n1 n2 r1 r2 true := by
              refine ⟨L, _, by rw [upd_ne nuF]; exact hu, by rw [upd_ne nLF]; exact s9 _ _ hL8, merged_has mem', Nat.le_trans (List.length_filter_le ..) lbs, fun k hk => (mem' k).mp (List.mem_filter.mp hk).1, nuF, nLF⟩
            refine ⟨_, _, _, _, _, us ++ [u], rfl, fun q o h n => lift2 q o (bt6 q o h n) n, by rw [upd_same, List.map_append]; rfl, ?_⟩
            rcases hus with ⟨z, _⟩ | ⟨_, u1, rfl, g1⟩ | ⟨z, _⟩
            · exact absurd z (by omega)
            · exact .inr (.inr ⟨rfl, u1, u, rfl, g1.keep lift2, mg⟩)
            · exact absurd z (by omega)
    · rintro σ H6 ⟨v4, v5, v6, v7, v8, us, rfl, bt6, hF6, hus⟩
      rcases hus with ⟨z, _⟩ | ⟨z, _⟩ | ⟨_, u1, u2, rfl, g1, g2⟩
      · cases z
      · cases z
      · exact ⟨_, rfl, k F u1 u2 H6 hF6 g1 g2 fun q o h => bt6 q o (s05 q o h) (ne_of_none h nFH)⟩

end
end Toy

set_option Elab.async false
set_option linter.all false
set_option maxRecDepth 100000
set_option maxHeartbeats 4000000
set_option pp.maxSteps 1500
set_option pp.deepTerms false
namespace Toy
open PySem L2 Lf
section
variable {P : Program} {w : World} {K : PySem.W.Frag} {mg : Str → Option Value} {base : Heap} {a : Ad}

theorem fm_true {xs : List V} : xs.filterMap (fun _ => some (V.bl true)) = (List.replicate xs.length true).map V.bl := by
  induction xs with
  | nil => rfl
  | cons x xs ih => rw [List.filterMap_cons, ih, List.length_cons, List.replicate_succ, List.map_cons]
theorem all_rep (n : Nat) : ((List.replicate n true).all id) = true := by
  induction n with
  | zero => rfl
  | succ n ih => rw [List.replicate_succ, List.all_cons, ih]; rfl
def spAgr (K : PySem.W.Frag) (a : Ad) : Sp := fun vs H Q _ => ∃ (x t l : Addr) (f : Int → Bool) (b : Bool) (N : Nat) (ns ms : List Int), vs = [.ref x, .ref t, .ref l] ∧ ChF a H x f b N ∧ N ≤ 100 ∧ TwAt H t ns b ∧ (∀ k, has ns b k = f k) ∧ Sml ns ∧ SqL K H l (ms.map V.int) ∧ ms.length ≤ 1000 ∧ (∀ k ∈ ms, 0 ≤ k) ∧
  ∀ H', Same H H' → Q (.bl true) H'
theorem sc_l_agrees : FnScope ["_law_choice", "_law_twin", "_law_numbers", "_law_value"] ["_law_choice", "_law_twin", "_law_numbers"] (defScope s_l_agrees) := ⟨rfl, rfl, rfl, by decide +kernel, rfl, by decide +kernel, by decide +kernel⟩
theorem ok_l_agrees (T : Txt K mg a) : FnOk P w K mg base CX0 5 a.f_l_agrees a.d_l_agrees ["_law_choice", "_law_twin", "_law_numbers"] (spAgr K a) := by
  refine T.F_l_agrees.ok sc_l_agrees (fun vs H Q E h => ?_) (fun cdv A outer s H vs Q E hr h => ?_)
  · obtain ⟨x, t, l, f, b, N, ns, ms, rfl, _⟩ := h
    rfl
  · obtain ⟨x, t, l, f, b, N, ns, ms, rfl, cf, hN, tw, hf, hs, hl, lm, m0, k⟩ := h
    refine ⟨_, (pss_cons (ps_if (pt_not (pt_val (pe_callB (cr_all rfl) (by rfl) T.b_all (by decide +kernel) (pa_cons (pe_lc (own := [("_law_value", 3)]) (g := gName 3) (tt := tYes) (te := (tOp rEq (tOp (rInOwn a.C_Choice (rawS (spCHas K a)) E0 false) (tVar 3) (tVar 0)) (tCall (spHas K) [] E0 (tCons (tVar 1) (tCons (tVar 3) tNil))))) rfl sc_l_agrees.nd (pi_list (pv 2)) (blkOk_by (own := [("_law_value", 3)]) (N := ["_law_choice", "_law_twin", "_law_numbers", "_law_value"]) (sc := defScope s_l_agrees) (by decide +kernel)) (fun _ _ _ _ _ => (pg_name (i := 3) sc_l_agrees.nd rfl (.inl rfl))) (fun _ _ _ _ _ => pts_nil) (fun _ _ _ _ _ => (pe_cmpR op_eq (pe_cmpR (op_inOwn (C := a.C_Choice) T.f_Choice__contains T.i_Choice__contains ((ok_Choice__contains T).raw T.a_Choice__contains .nil) (hr.mono (by decide)) pass0) (pv 3) (pv 0) rfl) (pe_call (ok_l_has T) (hr.mono (by decide)) rfl T.m_l_has T.k_l_has T.a_l_has .nil pass0 (pa_cons (pv 1) (pa_cons (pv 3) pa_nil))) (nomark _)))) pa_nil)))) (pss_one (ps_ret pe_bl)) pss_nil)
      (pss_one (ps_ret (pe_and (pe_cmpR op_eq (pe_callTy (call_strOwn (C := a.C_Choice) T.f_Choice__str T.i_Choice__str ((ok_Choice__str T).raw T.a_Choice__str .nil) (hr.mono (by decide)) pass0) (by rfl) T.b_str (by decide +kernel) (pa_cons (pv 0) pa_nil)) (pe_call (ok_l_written T) (hr.mono (by decide)) rfl T.m_l_written T.k_l_written T.a_l_written .nil pass0 (pa_cons (pv 1) pa_nil)) (nomark _)) (pe_one (pe_cmpR op_eq (pe_callB (call_reprOwn (C := a.C_Choice) T.f_Choice__repr T.i_Choice__repr ((ok_Choice__repr T).raw T.a_Choice__repr .nil) (hr.mono (by decide)) pass0) (by rfl) T.b_repr (by decide +kernel) (pa_cons (pv 0) pa_nil)) (pe_op op_add_str (pe_op op_add_str pe_str (pe_call (ok_l_written T) (hr.mono (by decide)) rfl T.m_l_written T.k_l_written T.a_l_written .nil pass0 (pa_cons (pv 1) pa_nil))) pe_str) (nomark _))))))), ?_⟩
    obtain ⟨ls, ch, h1, h2⟩ := cf
    have hh : ∀ k, has ls b k = has ns b k := fun k => by rw [h1, hf]
    have hm := mem_of_has hh
    have hs' : Sml ls := ⟨by omega, fun k hk => hs.2 k ((hm k).mp hk)⟩
    obtain ⟨dx, fx, ix⟩ := ch.ins
    refine ⟨_, rfl, l, rfl, ⟨_, hl⟩, fun D nD => lc_listF (K := K) (a := l) (xs := ms.map V.int) (fun _ => some (.bl true)) nD (by rw [List.length_map]; omega) (fun H' s' => s'.seq hl) ?_ fun H1 s1 hD => ?_⟩
    · intro v hv H' N s' hN
      obtain ⟨c, hc, rfl⟩ := List.mem_map.mp hv
      refine ⟨rfl, _, rfl, _, rfl, x, dx, _, rfl, s' _ _ ix, x, ls, b, _, rfl, ch.keep s', .inl ⟨c, rfl, _, rfl, ?_⟩⟩
      refine ⟨_, rfl, _, rfl, t, ns, b, c, rfl, tw.keep s', rfl, ?_⟩
      show N (some (.bl (decide (V.bl (decide (0 ≤ c) && has ls b c) = V.bl (has ns b c))))) H'
      rw [decide_eq_true (m0 c hc), Bool.true_and, hh, decide_eq_true rfl]
      exact hN H' (Same.refl _)
    rw [fm_true] at hD
    refine ⟨D, _, rfl, SqL.of hD, _, rfl, ?_⟩
    rw [all_rep]
    refine iteF ?_
    have e1 : (Str.ofString "Choice(").length = 7 := by decide +kernel
    have e2 : (Str.ofString ")").length = 1 := by decide +kernel
    have ch1 := ch.keep s1
    refine ⟨_, rfl, x, dx, _, rfl, s1 _ _ ix, x, ls, b, rfl, ch1, hs', fun H2 s2 => ⟨_, rfl, ?_⟩⟩
    refine ⟨_, rfl, t, ns, b, rfl, tw.keep (s1.trans s2), hs, fun l3 H3 rise3 mem3 s3 => ?_⟩
    have e3 : l3 = ls := rise_eq rise3 ch.1 fun k => (mem3 k).trans (hm k).symm
    subst e3
    refine ⟨rfl, _, rfl, ?_⟩
    rw [decide_eq_true rfl]
    refine iteT ?_
    have s13 := (s1.trans s2).trans s3
    refine ⟨_, rfl, x, dx, _, rfl, s13 _ _ ix, x, l3, b, rfl, ch.keep s13, hs', fun H4 s4 => ⟨_, rfl, ?_⟩⟩
    have hw := wr_len (b := b) hs'
    refine ⟨_, rfl, t, ns, b, rfl, tw.keep (s13.trans s4), hs, fun l5 H5 rise5 mem5 s5 => ?_⟩
    have e5 : l5 = l3 := rise_eq rise5 ch.1 fun k => (mem5 k).trans (hm k).symm
    subst e5
    refine ⟨_, _, rfl, rfl, sz_txt (by rw [e1]; omega), _, _, rfl, rfl, sz_txt (by rw [Str.length_append, e1, e2]; omega), rfl, ?_⟩
    rw [decide_eq_true rfl]
    exact k H5 ((s13.trans s4).trans s5)

end
end Toy

set_option Elab.async false
set_option linter.all false
set_option maxRecDepth 100000
set_option maxHeartbeats 4000000
set_option pp.maxSteps 1500
set_option pp.deepTerms false
namespace Toy
open PySem L2 Lf
section
variable {P : Program} {w : World} {K : PySem.W.Frag} {mg : Str → Option Value} {base : Heap} {a : Ad}

def spRight : Sp := fun vs H Q _ => ∃ (b : Addr) (n : Nat), vs = [.ref b] ∧ BagAt H b n ∧ n < 2 ^ 27 ∧ ∀ (H' : Hp), BagAt H' b (n + 27) → But b H H' → Q (.bl true) H'
theorem sml_of {ns : List Int} (h : ns.length ≤ 12) (h0 : ∀ k ∈ ns, 0 ≤ k ∧ k < 1001) : Sml ns := ⟨by omega, fun k hk => ⟨(h0 k hk).1, by have := (h0 k hk).2; omega⟩⟩
theorem sc_l_right : FnScope ["_law_bag_here", "_law_one", "_law_first", "_law_other", "_law_second", "_law_third", "_law_numbers", "_law_value", "_law_both", "_law_either"] ["_law_bag_here"] (defScope s_l_right) := ⟨rfl, rfl, rfl, by decide +kernel, rfl, by decide +kernel, by decide +kernel⟩
theorem ok_l_right (T : Txt K mg a) : FnOk P w K mg base CX0 6 a.f_l_right a.d_l_right ["_law_bag_here"] spRight := by
  refine T.F_l_right.ok sc_l_right (fun vs H Q E h => ?_) (fun cdv A outer s H vs Q E hr h => ?_)
  · obtain ⟨b, n, rfl, _⟩ := h
    rfl
  · obtain ⟨b, n, rfl, hb, hn, k⟩ := h
    refine ⟨_, (pss_cons (ps_asg (pe_call (ok_l_drawn T) (hr.mono (by decide)) rfl T.m_l_drawn T.k_l_drawn T.a_l_drawn .nil pass0 (pa_cons (pv 0) pa_nil)) (pg_tup rfl (pgs_cons (pg_name (i := 1) sc_l_right.nd rfl (.inl rfl)) (pgs_cons (pg_name (i := 2) sc_l_right.nd rfl (.inl rfl)) pgs_nil))))
      (pss_cons (ps_asg (pe_call (ok_l_drawn T) (hr.mono (by decide)) rfl T.m_l_drawn T.k_l_drawn T.a_l_drawn .nil pass0 (pa_cons (pv 0) pa_nil)) (pg_tup rfl (pgs_cons (pg_name (i := 3) sc_l_right.nd rfl (.inl rfl)) (pgs_cons (pg_name (i := 4) sc_l_right.nd rfl (.inl rfl)) pgs_nil))))
      (pss_cons (ps_set (i := 5) sc_l_right.nd rfl (.inl rfl) (pe_ix ix_tup (pe_call (ok_l_drawn T) (hr.mono (by decide)) rfl T.m_l_drawn T.k_l_drawn T.a_l_drawn .nil pass0 (pa_cons (pv 0) pa_nil)) pe_int (fun _ _ => rfl)))
      (pss_cons (ps_set (i := 6) sc_l_right.nd rfl (.inl rfl) (pe_op op_catS (pe_op op_catS (pe_op op_catS (pe_ix ix_tup (pv 2) pe_int (fun _ _ => rfl)) (pe_ix ix_tup (pv 4) pe_int (fun _ _ => rfl))) (pe_lc (own := [("_law_value", 7)]) (g := gName 7) (tt := tYes) (te := (tOp rAddI (tVar 7) (tC (.int 1)))) rfl sc_l_right.nd (pi_list (pe_op op_catS (pe_ix ix_tup (pv 2) pe_int (fun _ _ => rfl)) (pe_ix ix_tup (pv 4) pe_int (fun _ _ => rfl)))) (blkOk_by (own := [("_law_value", 7)]) (N := ["_law_bag_here", "_law_one", "_law_first", "_law_other", "_law_second", "_law_third", "_law_numbers", "_law_value", "_law_both", "_law_either"]) (sc := defScope s_l_right) (by decide +kernel)) (fun _ _ _ _ _ => (pg_name (i := 7) sc_l_right.nd rfl (.inl rfl))) (fun _ _ _ _ _ => pts_nil) (fun _ _ _ _ _ => (pe_op op_add (pv 7) pe_int)))) (pe_lstS (pa_cons pe_int (pa_cons pe_int (pa_cons pe_int (pa_cons (pe_op op_pow pe_int pe_int) pa_nil)))))))
      (pss_cons (ps_asg (pe_call (ok_l_merged T) (hr.mono (by decide)) rfl T.m_l_merged T.k_l_merged T.a_l_merged .nil pass0 (pa_cons (pv 2) (pa_cons (pv 4) pa_nil))) (pg_lst rfl (pgs_cons (pg_name (i := 8) sc_l_right.nd rfl (.inl rfl)) (pgs_cons (pg_name (i := 9) sc_l_right.nd rfl (.inl rfl)) pgs_nil))))
      (pss_cons (ps_if (PW.pt (pw_or (pt_not (pt_val (pe_call (ok_l_agrees T) (hr.mono (by decide)) rfl T.m_l_agrees T.k_l_agrees T.a_l_agrees .nil pass0 (pa_cons (pe_op (op_ownBin (C := a.C_Choice) T.sf_Choice T.f_Choice__and T.i_Choice__and ((ok_Choice__and T).raw T.a_Choice__and .nil) (hr.mono (by decide)) pass0) (pv 1) (pv 3)) (pa_cons (pv 8) (pa_cons (pv 6) pa_nil)))))) (pw_or1 (pt_not (pt_val (pe_call (ok_l_agrees T) (hr.mono (by decide)) rfl T.m_l_agrees T.k_l_agrees T.a_l_agrees .nil pass0 (pa_cons (pe_op (op_ownBin (C := a.C_Choice) T.sf_Choice T.f_Choice__or T.i_Choice__or ((ok_Choice__or T).raw T.a_Choice__or .nil) (hr.mono (by decide)) pass0) (pv 1) (pv 3)) (pa_cons (pv 9) (pa_cons (pv 6) pa_nil))))))))) (pss_one (ps_ret pe_bl)) pss_nil)
      (pss_cons (ps_if (PW.pt (pw_or (pt_not (pt_val (pe_call (ok_l_agrees T) (hr.mono (by decide)) rfl T.m_l_agrees T.k_l_agrees T.a_l_agrees .nil pass0 (pa_cons (pe_un (un_ownInv (C := a.C_Choice) T.f_Choice__invert T.i_Choice__invert ((ok_Choice__invert T).raw T.a_Choice__invert .nil) (hr.mono (by decide)) pass0) (pv 1)) (pa_cons (pe_tupS (pa_cons (pe_ix ix_tup (pv 2) pe_int (fun _ _ => rfl)) (pa_cons (pe_not (pe_ix ix_tup (pv 2) pe_int (fun _ _ => rfl))) pa_nil))) (pa_cons (pv 6) pa_nil)))))) (pw_or1 (pt_not (pt_val (pe_call (ok_l_agrees T) (hr.mono (by decide)) rfl T.m_l_agrees T.k_l_agrees T.a_l_agrees .nil pass0 (pa_cons (pv 1) (pa_cons (pv 2) (pa_cons (pv 6) pa_nil))))))))) (pss_one (ps_ret pe_bl)) pss_nil)
      (pss_cons (ps_if (PW.pt (pw_or (pt_cmpR (op_ownNe (C := a.C_Choice) T.o_Choice T.ne_Choice T.f_Choice__eq T.i_Choice__eq ((ok_Choice__eq T).raw T.a_Choice__eq .nil) (hr.mono (by decide)) pass0) (pe_un (un_ownInv (C := a.C_Choice) T.f_Choice__invert T.i_Choice__invert ((ok_Choice__invert T).raw T.a_Choice__invert .nil) (hr.mono (by decide)) pass0) (pe_op (op_ownBin (C := a.C_Choice) T.sf_Choice T.f_Choice__and T.i_Choice__and ((ok_Choice__and T).raw T.a_Choice__and .nil) (hr.mono (by decide)) pass0) (pv 1) (pv 3))) (pe_op (op_ownBin (C := a.C_Choice) T.sf_Choice T.f_Choice__or T.i_Choice__or ((ok_Choice__or T).raw T.a_Choice__or .nil) (hr.mono (by decide)) pass0) (pe_un (un_ownInv (C := a.C_Choice) T.f_Choice__invert T.i_Choice__invert ((ok_Choice__invert T).raw T.a_Choice__invert .nil) (hr.mono (by decide)) pass0) (pv 1)) (pe_un (un_ownInv (C := a.C_Choice) T.f_Choice__invert T.i_Choice__invert ((ok_Choice__invert T).raw T.a_Choice__invert .nil) (hr.mono (by decide)) pass0) (pv 3))) (nomark _)) (pw_or (pt_cmpR (op_ownNe (C := a.C_Choice) T.o_Choice T.ne_Choice T.f_Choice__eq T.i_Choice__eq ((ok_Choice__eq T).raw T.a_Choice__eq .nil) (hr.mono (by decide)) pass0) (pe_un (un_ownInv (C := a.C_Choice) T.f_Choice__invert T.i_Choice__invert ((ok_Choice__invert T).raw T.a_Choice__invert .nil) (hr.mono (by decide)) pass0) (pe_op (op_ownBin (C := a.C_Choice) T.sf_Choice T.f_Choice__or T.i_Choice__or ((ok_Choice__or T).raw T.a_Choice__or .nil) (hr.mono (by decide)) pass0) (pv 1) (pv 3))) (pe_op (op_ownBin (C := a.C_Choice) T.sf_Choice T.f_Choice__and T.i_Choice__and ((ok_Choice__and T).raw T.a_Choice__and .nil) (hr.mono (by decide)) pass0) (pe_un (un_ownInv (C := a.C_Choice) T.f_Choice__invert T.i_Choice__invert ((ok_Choice__invert T).raw T.a_Choice__invert .nil) (hr.mono (by decide)) pass0) (pv 1)) (pe_un (un_ownInv (C := a.C_Choice) T.f_Choice__invert T.i_Choice__invert ((ok_Choice__invert T).raw T.a_Choice__invert .nil) (hr.mono (by decide)) pass0) (pv 3))) (nomark _)) (pw_or1 (pt_cmpR (op_ownNe (C := a.C_Choice) T.o_Choice T.ne_Choice T.f_Choice__eq T.i_Choice__eq ((ok_Choice__eq T).raw T.a_Choice__eq .nil) (hr.mono (by decide)) pass0) (pe_op (op_ownBin (C := a.C_Choice) T.sf_Choice T.f_Choice__and T.i_Choice__and ((ok_Choice__and T).raw T.a_Choice__and .nil) (hr.mono (by decide)) pass0) (pv 1) (pv 3)) (pe_op (op_ownBin (C := a.C_Choice) T.sf_Choice T.f_Choice__and T.i_Choice__and ((ok_Choice__and T).raw T.a_Choice__and .nil) (hr.mono (by decide)) pass0) (pv 3) (pv 1)) (nomark _)))))) (pss_one (ps_ret pe_bl)) pss_nil)
      (pss_cons (ps_if (PW.pt (pw_or (pt_cmpR (op_ownNe (C := a.C_Choice) T.o_Choice T.ne_Choice T.f_Choice__eq T.i_Choice__eq ((ok_Choice__eq T).raw T.a_Choice__eq .nil) (hr.mono (by decide)) pass0) (pe_op (op_ownBin (C := a.C_Choice) T.sf_Choice T.f_Choice__and T.i_Choice__and ((ok_Choice__and T).raw T.a_Choice__and .nil) (hr.mono (by decide)) pass0) (pv 1) (pe_op (op_ownBin (C := a.C_Choice) T.sf_Choice T.f_Choice__or T.i_Choice__or ((ok_Choice__or T).raw T.a_Choice__or .nil) (hr.mono (by decide)) pass0) (pv 3) (pv 5))) (pe_op (op_ownBin (C := a.C_Choice) T.sf_Choice T.f_Choice__or T.i_Choice__or ((ok_Choice__or T).raw T.a_Choice__or .nil) (hr.mono (by decide)) pass0) (pe_op (op_ownBin (C := a.C_Choice) T.sf_Choice T.f_Choice__and T.i_Choice__and ((ok_Choice__and T).raw T.a_Choice__and .nil) (hr.mono (by decide)) pass0) (pv 1) (pv 3)) (pe_op (op_ownBin (C := a.C_Choice) T.sf_Choice T.f_Choice__and T.i_Choice__and ((ok_Choice__and T).raw T.a_Choice__and .nil) (hr.mono (by decide)) pass0) (pv 1) (pv 5))) (nomark _)) (pw_or1 (pt_cmpR (op_ownNe (C := a.C_Choice) T.o_Choice T.ne_Choice T.f_Choice__eq T.i_Choice__eq ((ok_Choice__eq T).raw T.a_Choice__eq .nil) (hr.mono (by decide)) pass0) (pe_op (op_ownBin (C := a.C_Choice) T.sf_Choice T.f_Choice__or T.i_Choice__or ((ok_Choice__or T).raw T.a_Choice__or .nil) (hr.mono (by decide)) pass0) (pe_op (op_ownBin (C := a.C_Choice) T.sf_Choice T.f_Choice__or T.i_Choice__or ((ok_Choice__or T).raw T.a_Choice__or .nil) (hr.mono (by decide)) pass0) (pv 1) (pv 3)) (pv 5)) (pe_op (op_ownBin (C := a.C_Choice) T.sf_Choice T.f_Choice__or T.i_Choice__or ((ok_Choice__or T).raw T.a_Choice__or .nil) (hr.mono (by decide)) pass0) (pv 1) (pe_op (op_ownBin (C := a.C_Choice) T.sf_Choice T.f_Choice__or T.i_Choice__or ((ok_Choice__or T).raw T.a_Choice__or .nil) (hr.mono (by decide)) pass0) (pv 3) (pv 5))) (nomark _))))) (pss_one (ps_ret pe_bl)) pss_nil)
      (pss_cons (ps_if (PW.pt (pw_or (pt_cmpR (op_ownNe (C := a.C_Choice) T.o_Choice T.ne_Choice T.f_Choice__eq T.i_Choice__eq ((ok_Choice__eq T).raw T.a_Choice__eq .nil) (hr.mono (by decide)) pass0) (pe_op (op_ownBin (C := a.C_Choice) T.sf_Choice T.f_Choice__and T.i_Choice__and ((ok_Choice__and T).raw T.a_Choice__and .nil) (hr.mono (by decide)) pass0) (pv 1) (pe_un (un_ownInv (C := a.C_Choice) T.f_Choice__invert T.i_Choice__invert ((ok_Choice__invert T).raw T.a_Choice__invert .nil) (hr.mono (by decide)) pass0) (pv 1))) (pe_mkC0 (mkR_Choice T (hr.mono (by decide))) T.mk_Choice.kp rfl T.m_Choice) (nomark _)) (pw_or (pt_cmpR (op_ownNe (C := a.C_Choice) T.o_Choice T.ne_Choice T.f_Choice__eq T.i_Choice__eq ((ok_Choice__eq T).raw T.a_Choice__eq .nil) (hr.mono (by decide)) pass0) (pe_op (op_ownBin (C := a.C_Choice) T.sf_Choice T.f_Choice__or T.i_Choice__or ((ok_Choice__or T).raw T.a_Choice__or .nil) (hr.mono (by decide)) pass0) (pv 1) (pe_un (un_ownInv (C := a.C_Choice) T.f_Choice__invert T.i_Choice__invert ((ok_Choice__invert T).raw T.a_Choice__invert .nil) (hr.mono (by decide)) pass0) (pv 1))) (pe_un (un_ownInv (C := a.C_Choice) T.f_Choice__invert T.i_Choice__invert ((ok_Choice__invert T).raw T.a_Choice__invert .nil) (hr.mono (by decide)) pass0) (pe_mkC0 (mkR_Choice T (hr.mono (by decide))) T.mk_Choice.kp rfl T.m_Choice)) (nomark _)) (pw_or1 (pt_cmpR (op_ownNe (C := a.C_Choice) T.o_Choice T.ne_Choice T.f_Choice__eq T.i_Choice__eq ((ok_Choice__eq T).raw T.a_Choice__eq .nil) (hr.mono (by decide)) pass0) (pe_op (op_ownBin (C := a.C_Choice) T.sf_Choice T.f_Choice__and T.i_Choice__and ((ok_Choice__and T).raw T.a_Choice__and .nil) (hr.mono (by decide)) pass0) (pv 1) (pv 1)) (pv 1) (nomark _)))))) (pss_one (ps_ret pe_bl)) pss_nil)
      (pss_one (ps_ret (pe_and (pe_call (ok_l_agrees T) (hr.mono (by decide)) rfl T.m_l_agrees T.k_l_agrees T.a_l_agrees .nil pass0 (pa_cons (pv 3) (pa_cons (pv 4) (pa_cons (pv 6) pa_nil)))) (pe_one (pe_call (ok_l_agrees T) (hr.mono (by decide)) rfl T.m_l_agrees T.k_l_agrees T.a_l_agrees .nil pass0 (pa_cons (pv 1) (pa_cons (pv 2) (pa_cons (pv 6) pa_nil)))))))))))))))))), ?_⟩
    refine ⟨_, rfl, b, n, rfl, hb, by omega, fun p1 x1 t1 l1 n1 r1 H1 hp1 ht1 hl1 nl1 c1 ln1 m1 hb1 bt1 => ?_⟩
    refine ⟨p1, _, rfl, SqT.of hp1, rfl, _, _, rfl, _, _, rfl, rfl, ?_⟩
    refine ⟨_, rfl, b, n + 9, rfl, hb1, by omega, fun p2 x2 t2 l2 n2 r2 H2 hp2 ht2 hl2 nl2 c2 ln2 m2 hb2 bt2 => ?_⟩
    refine ⟨p2, _, rfl, SqT.of hp2, rfl, _, _, rfl, _, _, rfl, rfl, ?_⟩
    refine ⟨_, rfl, b, n + 9 + 9, rfl, hb2, by omega, fun p3 x3 t3 l3 n3 r3 H3 hp3 ht3 hl3 nl3 c3 ln3 m3 hb3 bt3 => ?_⟩
    refine ⟨p3, _, _, _, rfl, rfl, SqT.of hp3, rfl, ?_⟩
    obtain ⟨d1, e1, g1, hB1, _⟩ := id hb1
    obtain ⟨d2, e2, g2, hB2, _⟩ := id hb2
    have bt13 := bt2.trans bt3
    have c1 := c1.but bt13 ⟨_, hB1⟩
    have c2 := c2.but bt3 ⟨_, hB2⟩
    have ht1 := bt13 _ _ ht1 (ne_of ht1 hB1 (by intro z; cases z))
    have ht2 := bt3 _ _ ht2 (ne_of ht2 hB2 (by intro z; cases z))
    have hl1 := bt13 _ _ hl1 nl1
    have hl2 := bt3 _ _ hl2 nl2
    have bt03 : But b H H3 := bt1.trans bt13
    clear hp1 hp2 hp3 ht3 hl3 hB1 hB2 bt1 bt2 bt3 bt13 hb1 hb2 m3 ln3 nl3
    -- numbers
    refine ⟨_, rfl, t1, _, _, _, rfl, rfl, SqT.of ht1, rfl, _, rfl, t2, _, _, _, rfl, rfl, SqT.of ht2, rfl, l1, l2, _, _, rfl, rfl, hl1, hl2, by rw [List.length_map, List.length_map]; exact sz_of (by omega), fun q4 H4 nq4 s4 hq4 => ?_⟩
    rw [← List.map_append] at hq4
    refine ⟨_, rfl, t1, _, _, _, rfl, rfl, SqT.of (s4 _ _ ht1), rfl, _, rfl, t2, _, _, _, rfl, rfl, SqT.of (s4 _ _ ht2), rfl, l1, l2, _, _, rfl, rfl, s4 _ _ hl1, s4 _ _ hl2, by rw [List.length_map, List.length_map]; exact sz_of (by omega), fun q5 H5 nq5 s5 hq5 => ?_⟩
    rw [← List.map_append] at hq5
    refine ⟨q5, rfl, ⟨_, SqL.of hq5⟩, fun D nD => lc_listF (K := K) (a := q5) (xs := (n1 ++ n2).map V.int) (intM (· + 1)) nD (by rw [List.length_map, List.length_append]; omega) (fun H' s' => SqL.of (s' _ _ hq5)) ?_ fun H6 s6 hD => ?_⟩
    · intro v hv H' N s' hN
      obtain ⟨c, hc, rfl⟩ := List.mem_map.mp hv
      exact ⟨rfl, _, rfl, _, _, rfl, rfl, hN H' (Same.refl _)⟩
    rw [fm_intM] at hD
    refine ⟨q4, D, _, _, rfl, rfl, s6 _ _ (s5 _ _ hq4), hD, by rw [List.length_map, List.length_map, List.length_map, List.length_append]; exact sz_of (by omega), fun q7 H7 nq7 s7 hq7 => ?_⟩
    rw [← List.map_append] at hq7
    refine ⟨_, _, rfl, rfl, ⟨by decide, by decide, by decide⟩, (by show 4 ≤ sizeLine; decide), fun q8 H8 nq8 s8 hq8 => ?_⟩
    refine ⟨q7, q8, _, _, rfl, rfl, s8 _ _ hq7, hq8, ?_, fun q9 H9 nq9 s9 hq9 => ?_⟩
    · rw [List.length_map, List.length_append, List.length_map, List.length_append]
      show n1.length + n2.length + (n1.length + n2.length) + 4 ≤ sizeLine
      exact sz_of (by omega)
    have s39 : Same H3 H9 := ((((s4.trans s5).trans s6).trans s7).trans s8).trans s9
    have e9 : ∃ ms : List Int, H9 q9 = some (.lst (ms.map V.int)) ∧ ms.length ≤ 1000 ∧ ∀ k ∈ ms, 0 ≤ k := by
      refine ⟨(n1 ++ n2) ++ (n1 ++ n2).map (· + 1) ++ [0, 1, 1000, 10 ^ Int.toNat 9], ?_, ?_, ?_⟩
      · rw [List.map_append]
        exact hq9
      · rw [List.length_append, List.length_append, List.length_map, List.length_append]
        show n1.length + n2.length + (n1.length + n2.length) + 4 ≤ 1000
        omega
      · have base : ∀ k ∈ n1 ++ n2, 0 ≤ k := fun k hk => (List.mem_append.mp hk).elim (fun h => (m1 k h).1) fun h => (m2 k h).1
        intro k hk
        rcases List.mem_append.mp hk with h | h
        · rcases List.mem_append.mp h with h | h
          · exact base k h
          · obtain ⟨d, hd, rfl⟩ := List.mem_map.mp h
            have := base d hd
            omega
        · simp only [List.mem_cons, List.not_mem_nil, or_false] at h
          rcases h with rfl | rfl | rfl | rfl
          all_goals decide +kernel
    obtain ⟨ms, hq9, lm, m0⟩ := e9
    have c1 := c1.keep s39
    have c2 := c2.keep s39
    have c3 := c3.keep s39
    have tw1 : TwAt H9 t1 n1 r1 := ⟨l1, s39 _ _ ht1, s39 _ _ hl1⟩
    have tw2 : TwAt H9 t2 n2 r2 := ⟨l2, s39 _ _ ht2, s39 _ _ hl2⟩
    have bt09 : But b H H9 := bt03.trans (But.of s39)
    have hb9 := hb3.keep s39
    have z1 : Sml n1 := sml_of (by omega) m1
    have z2 : Sml n2 := sml_of (by omega) m2
    clear hD hq4 hq5 hq7 hq8 s4 s5 s6 s7 s8 s9 ht1 ht2 hl1 hl2 s39 bt03 hb3
    -- merged
    refine ⟨_, rfl, _, rfl, t1, t2, n1, n2, r1, r2, rfl, tw1, tw2, by omega, fun F u1 u2 H10 hF g1 g2 s10 => ?_⟩
    refine ⟨F, _, rfl, SqL.of hF, rfl, _, _, rfl, _, _, rfl, rfl, ?_⟩
    obtain ⟨y1, o1, hu1, hy1, ho1, lo1, mo1, _, _⟩ := g1
    obtain ⟨y2, o2, hu2, hy2, ho2, lo2, mo2, _, _⟩ := g2
    have base : ∀ k ∈ n1 ++ n2, 0 ≤ k ∧ k < 1001 := fun k hk => (List.mem_append.mp hk).elim (m1 k) (m2 k)
    have zo1 : Sml o1 := sml_of (by omega) fun k hk => base k (mo1 k hk)
    have zo2 : Sml o2 := sml_of (by omega) fun k hk => base k (mo2 k hk)
    -- agrees(one & other), agrees(one | other)
    refine ⟨_, rfl, _, rfl, and_go (c1.keep s10) (c2.keep s10) (by decide) fun w1 H11 s11 cw1 => ?_⟩
    have s911 := s10.trans s11
    refine ⟨_, rfl, _, rfl, w1, u1, q9, _, _, _, o1, ms, rfl, cw1, by decide, ⟨y1, s11 _ _ hu1, s11 _ _ hy1⟩, ho1, zo1, SqL.of (s911 _ _ hq9), lm, m0, fun H12 s12 => ?_⟩
    refine ⟨_, rfl, iteF ?_⟩
    have s1012 := s11.trans s12
    have s912 := s10.trans s1012
    refine ⟨_, rfl, _, rfl, or_go (c1.keep s912) (c2.keep s912) (by decide) fun w2 H13 s13 cw2 => ?_⟩
    refine ⟨_, rfl, _, rfl, w2, u2, q9, _, _, _, o2, ms, rfl, cw2, by decide, ⟨y2, s13 _ _ (s1012 _ _ hu2), s13 _ _ (s1012 _ _ hy2)⟩, ho2, zo2, SqL.of (s13 _ _ (s912 _ _ hq9)), lm, m0, fun H14 s14 => ?_⟩
    refine ⟨_, rfl, iteF ?_⟩
    have s914 := (s912.trans s13).trans s14
    have c1 := c1.keep s914
    have c2 := c2.keep s914
    have c3 := c3.keep s914
    have tw1 := tw1.keep s914
    have tw2 := tw2.keep s914
    have hq9 := s914 _ _ hq9
    have bt14 : But b H H14 := bt09.trans (But.of s914)
    have hb14 := hb9.keep s914
    clear hF hu1 hy1 hu2 hy2 s10 s11 s12 s13 s14 s911 s912 s1012 s914 cw1 cw2 bt09 hb9 ho1 ho2
    -- agrees(~one, (first[0], not first[1])), agrees(one)
    refine ⟨_, rfl, inv_go c1 (by decide) fun w3 H15 s15 cw3 => ?_⟩
    obtain ⟨l1', ht1', hl1'⟩ := id (tw1.keep s15)
    refine ⟨_, rfl, t1, _, _, _, rfl, rfl, SqT.of ht1', rfl, _, rfl, t1, _, _, _, rfl, rfl, SqT.of ht1', rfl, _, rfl, (by show 2 ≤ sizeLine; decide), fun v4 H16 nv4 s16 hv4 => ?_⟩
    refine ⟨_, rfl, w3, v4, q9, _, _, _, n1, ms, rfl, cw3.keep s16, by decide, ⟨l1', hv4, s16 _ _ hl1'⟩, fun k => has_not n1 r1 k, z1, SqL.of (s16 _ _ (s15 _ _ hq9)), lm, m0, fun H17 s17 => ?_⟩
    refine ⟨_, rfl, iteF ?_⟩
    have s1417 := (s15.trans s16).trans s17
    refine ⟨_, rfl, _, rfl, _, rfl, x1, t1, q9, _, _, _, n1, ms, rfl, c1.keep s1417, by decide, tw1.keep s1417, fun _ => rfl, z1, SqL.of (s1417 _ _ hq9), lm, m0, fun H18 s18 => ?_⟩
    refine ⟨_, rfl, iteF ?_⟩
    have s1418 := s1417.trans s18
    have c1 := c1.keep s1418
    have c2 := c2.keep s1418
    have c3 := c3.keep s1418
    have tw1 := tw1.keep s1418
    have tw2 := tw2.keep s1418
    have hq9 := s1418 _ _ hq9
    have bt18 : But b H H18 := bt14.trans (But.of s1418)
    have hb18 := hb14.keep s1418
    clear s15 s16 s17 s18 s1417 s1418 cw3 hv4 ht1' hl1' bt14 hb14
    generalize ef1 : has n1 r1 = f1 at *
    generalize ef2 : has n2 r2 = f2 at *
    generalize ef3 : has n3 r3 = f3 at *
    -- ~(one & other) != ~one | ~other
    refine ⟨_, rfl, _, rfl, and_go c1 c2 (by decide) fun w1 H19 s19 d1 => ?_⟩
    refine inv_go d1 (by decide) fun w2 H20 s20 d2 => ?_
    have t20 := s19.trans s20
    refine ⟨_, rfl, inv_go (c1.keep t20) (by decide) fun w3 H21 s21 d3 => ?_⟩
    have t21 := t20.trans s21
    refine ⟨_, rfl, inv_go (c2.keep t21) (by decide) fun w4 H22 s22 d4 => ?_⟩
    refine or_go (d3.keep s22) d4 (by decide) fun w5 H23 s23 d5 => ?_
    refine ne_go T (((d2.keep s21).keep s22).keep s23) d5 (by cases r1 <;> cases r2 <;> rfl) (fun k => by cases f1 k <;> cases f2 k <;> rfl) ⟨_, rfl, iteF ?_⟩
    have t23 := (t21.trans s22).trans s23
    -- ~(one | other) != ~one & ~other
    refine ⟨_, rfl, _, rfl, or_go (c1.keep t23) (c2.keep t23) (by decide) fun w1 H24 s24 d1 => ?_⟩
    refine inv_go d1 (by decide) fun w2 H25 s25 d2 => ?_
    have t25 := (t23.trans s24).trans s25
    refine ⟨_, rfl, inv_go (c1.keep t25) (by decide) fun w3 H26 s26 d3 => ?_⟩
    have t26 := t25.trans s26
    refine ⟨_, rfl, inv_go (c2.keep t26) (by decide) fun w4 H27 s27 d4 => ?_⟩
    refine and_go (d3.keep s27) d4 (by decide) fun w5 H28 s28 d5 => ?_
    refine ne_go T (((d2.keep s26).keep s27).keep s28) d5 (by cases r1 <;> cases r2 <;> rfl) (fun k => by cases f1 k <;> cases f2 k <;> rfl) ⟨_, rfl, iteF ?_⟩
    have t28 := (t26.trans s27).trans s28
    -- one & other != other & one
    refine ⟨_, rfl, _, rfl, and_go (c1.keep t28) (c2.keep t28) (by decide) fun w1 H29 s29 d1 => ?_⟩
    have t29 := t28.trans s29
    refine ⟨_, rfl, _, rfl, and_go (c2.keep t29) (c1.keep t29) (by decide) fun w2 H30 s30 d2 => ?_⟩
    refine ne_go T (d1.keep s30) d2 (by cases r1 <;> cases r2 <;> rfl) (fun k => by cases f1 k <;> cases f2 k <;> rfl) ⟨_, rfl, iteF ?_⟩
    have t30 := t29.trans s30
    -- one & (other | third) != one & other | one & third
    refine ⟨_, rfl, _, rfl, _, rfl, or_go (c2.keep t30) (c3.keep t30) (by decide) fun w1 H31 s31 d1 => ?_⟩
    have t31 := t30.trans s31
    refine and_go (c1.keep t31) d1 (by decide) fun w2 H32 s32 d2 => ?_
    have t32 := t31.trans s32
    refine ⟨_, rfl, _, rfl, and_go (c1.keep t32) (c2.keep t32) (by decide) fun w3 H33 s33 d3 => ?_⟩
    have t33 := t32.trans s33
    refine ⟨_, rfl, _, rfl, and_go (c1.keep t33) (c3.keep t33) (by decide) fun w4 H34 s34 d4 => ?_⟩
    refine or_go (d3.keep s34) d4 (by decide) fun w5 H35 s35 d5 => ?_
    refine ne_go T (((d2.keep s33).keep s34).keep s35) d5 (by cases r1 <;> cases r2 <;> cases r3 <;> rfl) (fun k => by cases f1 k <;> cases f2 k <;> cases f3 k <;> rfl) ⟨_, rfl, iteF ?_⟩
    have t35 := (t33.trans s34).trans s35
    -- one | other | third != one | (other | third)
    refine ⟨_, rfl, _, rfl, or_go (c1.keep t35) (c2.keep t35) (by decide) fun w1 H36 s36 d1 => ?_⟩
    have t36 := t35.trans s36
    refine ⟨_, rfl, or_go d1 (c3.keep t36) (by decide) fun w2 H37 s37 d2 => ?_⟩
    have t37 := t36.trans s37
    refine ⟨_, rfl, _, rfl, _, rfl, or_go (c2.keep t37) (c3.keep t37) (by decide) fun w3 H38 s38 d3 => ?_⟩
    have t38 := t37.trans s38
    refine or_go (c1.keep t38) d3 (by decide) fun w4 H39 s39 d4 => ?_
    refine ne_go T ((d2.keep s38).keep s39) d4 (by cases r1 <;> cases r2 <;> cases r3 <;> rfl) (fun k => by cases f1 k <;> cases f2 k <;> cases f3 k <;> rfl) ⟨_, rfl, iteF ?_⟩
    have t39 := t38.trans s39
    -- one & ~one != Choice()
    refine ⟨_, rfl, _, rfl, inv_go (c1.keep t39) (by decide) fun w1 H40 s40 d1 => ?_⟩
    have t40 := t39.trans s40
    refine and_go (c1.keep t40) d1 (by decide) fun w2 H41 s41 d2 => ?_
    have t41 := t40.trans s41
    refine ⟨[], rfl, by decide, fun l4 w3 H42 mem4 len4 nw3 s42 ch4 => ?_⟩
    have e4 : l4 = [] := List.length_eq_zero_iff.mp (Nat.le_zero.mp len4)
    subst e4
    refine ne_go T (N := _) (M := 0) (g := fun _ => false) (c := false) (d2.keep s42) ⟨[], ch4, fun _ => rfl, Nat.le_refl _⟩ (by cases r1 <;> rfl) (fun k => by cases f1 k <;> rfl) ⟨_, rfl, iteF ?_⟩
    have t42 := t41.trans s42
    -- one | ~one != ~Choice()
    refine ⟨_, rfl, _, rfl, inv_go (c1.keep t42) (by decide) fun w1 H43 s43 d1 => ?_⟩
    have t43 := t42.trans s43
    refine or_go (c1.keep t43) d1 (by decide) fun w2 H44 s44 d2 => ?_
    have t44 := t43.trans s44
    refine ⟨[], rfl, by decide, fun l5 w3 H45 mem5 len5 nw3 s45 ch5 => ?_⟩
    have e5 : l5 = [] := List.length_eq_zero_iff.mp (Nat.le_zero.mp len5)
    subst e5
    refine inv_go (f := fun _ => false) (b := false) (N := 0) ⟨[], ch5, fun _ => rfl, Nat.le_refl _⟩ (by decide) fun w4 H46 s46 d4 => ?_
    refine ne_go T ((d2.keep s45).keep s46) d4 (by cases r1 <;> rfl) (fun k => by cases f1 k <;> rfl) ⟨_, rfl, iteF ?_⟩
    have t46 := (t44.trans s45).trans s46
    -- one & one != one
    refine ⟨_, rfl, _, rfl, and_go (c1.keep t46) (c1.keep t46) (by decide) fun w1 H47 s47 d1 => ?_⟩
    have t47 := t46.trans s47
    refine ⟨_, rfl, ne_go T d1 (c1.keep t47) (by cases r1 <;> rfl) (fun k => by cases f1 k <;> rfl) ⟨_, rfl, iteF ?_⟩⟩
    -- the end
    refine ⟨_, rfl, _, rfl, _, rfl, x2, t2, q9, _, _, _, n2, ms, rfl, c2.keep t47, by decide, tw2.keep t47, fun k => by rw [ef2], z2, SqL.of (t47 _ _ hq9), lm, m0, fun H48 s48 => ?_⟩
    refine ⟨_, rfl, iteT ?_⟩
    have t48 := t47.trans s48
    refine ⟨_, rfl, _, rfl, _, rfl, x1, t1, q9, _, _, _, n1, ms, rfl, c1.keep t48, by decide, tw1.keep t48, fun k => by rw [ef1], z1, SqL.of (t48 _ _ hq9), lm, m0, fun H49 s49 => ?_⟩
    have t49 := t48.trans s49
    exact k H49 ((hb18.keep t49).mono (by omega)) (bt18.trans (But.of t49))

end
end Toy

set_option Elab.async false
set_option linter.all false
set_option maxRecDepth 100000
set_option maxHeartbeats 4000000
set_option pp.maxSteps 1500
set_option pp.deepTerms false
namespace Toy
open PySem L2 Lf
section
variable {P : Program} {w : World} {K : PySem.W.Frag} {mg : Str → Option Value} {base : Heap} {a : Ad}

def spLaw (K : PySem.W.Frag) : Sp := fun vs H Q _ => ∃ (a : Addr) (ns : List Int), vs = [.ref a] ∧ SqL K H a (ns.map V.int) ∧ ns.length ≤ 63 ∧ ∀ H', Q (.bl true) H'
theorem w1 : wr [] false = "" := by decide +kernel
theorem w2 : wr [] true = "any" := by decide +kernel
theorem w3 : "Choice(" ++ wr [1] true ++ ")" = ("Choice(not 1)" : Str) := by decide +kernel
theorem w4 : wr [0, 2] false = "0,2" := by decide +kernel
theorem w5 : wr (rgI 3) false = "0,1,2" := by decide +kernel
theorem smlD {ls : List Int} (h : ls.length ≤ 3) (h2 : (ls.all fun k => decide (0 ≤ k ∧ k < 1000000)) = true) : Sml ls := ⟨by omega, fun k hk => of_decide_eq_true (List.all_eq_true.mp h2 k hk)⟩
theorem sc_law : FnScope ["_law_script", "_law_at", "_law_bag_here", "_law_turn"] ["_law_script"] (defScope s_law) := ⟨rfl, rfl, rfl, by decide +kernel, rfl, by decide +kernel, by decide +kernel⟩
theorem ok_law (T : Txt K mg a) : FnOk P w K mg base CX0 7 a.f_law a.d_law ["_law_script"] (spLaw K) := by
  refine T.F_law.ok sc_law (fun vs H Q E h => ?_) (fun cdv A outer s H vs Q E hr h => ?_)
  · obtain ⟨l, ns, rfl, _⟩ := h
    rfl
  · obtain ⟨l, ns, rfl, hS, hlen, k⟩ := h
    refine ⟨_, (pss_cons (ps_for PassesOwn.never rfl (pi_range1 (by rfl) T.b_range (pa_cons (pe_callB (call_max2 rfl) (by rfl) T.b_max (by decide +kernel) (pa_cons pe_int (pa_cons (pe_callB (call_min2 rfl) (by rfl) T.b_min (by decide +kernel) (pa_cons pe_int (pa_cons (pe_callB call_len_seq (by rfl) T.b_len PySem.boot_len (pa_cons (pv 0) pa_nil)) pa_nil))) pa_nil))) pa_nil)) (pg_name (i := 1) sc_law.nd rfl (.inl rfl))
      (pss_cons (ps_set (i := 2) sc_law.nd rfl (.inl rfl) (pe_call (ok_l_bag T) (hr.mono (by decide)) rfl T.m_l_bag T.k_l_bag T.a_l_bag .nil pass0 (pa_cons (pv 0) (pa_cons (pv 1) pa_nil))))
      (pss_one (ps_for PassesOwn.never rfl (pi_range1 (by rfl) T.b_range (pa_cons pe_int pa_nil)) (pg_name (i := 3) sc_law.nd rfl (.inl rfl))
      (pss_one (ps_if (pt_not (pt_val (pe_call (ok_l_right T) (hr.mono (by decide)) rfl T.m_l_right T.k_l_right T.a_l_right .nil pass0 (pa_cons (pv 2) pa_nil)))) (pss_one (ps_ret pe_bl)) pss_nil))))))
      (pss_cons (ps_if (PW.pt (pw_or (pt_cmpR op_ne (pe_callTy (call_strOwn (C := a.C_Choice) T.f_Choice__str T.i_Choice__str ((ok_Choice__str T).raw T.a_Choice__str .nil) (hr.mono (by decide)) pass0) (by rfl) T.b_str (by decide +kernel) (pa_cons (pe_mkC0 (mkR_Choice T (hr.mono (by decide))) T.mk_Choice.kp rfl T.m_Choice) pa_nil)) pe_str (nomark _)) (pw_or (pt_cmpR op_ne (pe_callTy (call_strOwn (C := a.C_Choice) T.f_Choice__str T.i_Choice__str ((ok_Choice__str T).raw T.a_Choice__str .nil) (hr.mono (by decide)) pass0) (by rfl) T.b_str (by decide +kernel) (pa_cons (pe_un (un_ownInv (C := a.C_Choice) T.f_Choice__invert T.i_Choice__invert ((ok_Choice__invert T).raw T.a_Choice__invert .nil) (hr.mono (by decide)) pass0) (pe_mkC0 (mkR_Choice T (hr.mono (by decide))) T.mk_Choice.kp rfl T.m_Choice)) pa_nil)) pe_str (nomark _)) (pw_or1 (pt_cmpR op_ne (pe_callB (call_reprOwn (C := a.C_Choice) T.f_Choice__repr T.i_Choice__repr ((ok_Choice__repr T).raw T.a_Choice__repr .nil) (hr.mono (by decide)) pass0) (by rfl) T.b_repr (by decide +kernel) (pa_cons (pe_un (un_ownInv (C := a.C_Choice) T.f_Choice__invert T.i_Choice__invert ((ok_Choice__invert T).raw T.a_Choice__invert .nil) (hr.mono (by decide)) pass0) (pe_mkC (mkR_Choice T (hr.mono (by decide))) T.mk_Choice.kp rfl T.m_Choice (pa_cons pe_int pa_nil))) pa_nil)) pe_str (nomark _)))))) (pss_one (ps_ret pe_bl)) pss_nil)
      (pss_one (ps_ret (pe_and (pe_cmpR op_eq (pe_callTy (call_strOwn (C := a.C_Choice) T.f_Choice__str T.i_Choice__str ((ok_Choice__str T).raw T.a_Choice__str .nil) (hr.mono (by decide)) pass0) (by rfl) T.b_str (by decide +kernel) (pa_cons (pe_mkC (mkR_Choice T (hr.mono (by decide))) T.mk_Choice.kp rfl T.m_Choice (pa_cons pe_int (pa_cons pe_int pa_nil))) pa_nil)) pe_str (nomark _)) (pe_one (pe_cmpR op_eq (pe_callTy (call_strOwn (C := a.C_Choice) T.f_Choice__str T.i_Choice__str ((ok_Choice__str T).raw T.a_Choice__str .nil) (hr.mono (by decide)) pass0) (by rfl) T.b_str (by decide +kernel) (pa_cons (ClX.pe_cmeth (pe_glob (v := .ref a.C_Choice) rfl T.m_Choice rfl) T.r_Choice T.cm_Choice_first ((ok_Choice_first T).raw T.a_Choice_first .nil) (hr.mono (by decide)) pass0 (pa_cons pe_int pa_nil)) pa_nil)) pe_str (nomark _)))))))), ?_⟩
    refine ⟨_, rfl, l, _, rfl, .inl hS, _, _, rfl, _, _, rfl, _, rfl, ?_, ?_, ?_⟩
    · split <;> split <;> omega
    · split <;> split <;> omega
    generalize em : Int.toNat _ = m
    have hm : m ≤ 4 := by
      rw [← em]
      split <;> split <;> omega
    refine for_range (lo := 0) (n := m) (fun i σ H' => ∃ (v1 v2 v3 : Option V), σ = [some (.ref l), v1, v2, v3] ∧ Same H H') ⟨_, _, _, rfl, Same.refl _⟩ ?_ ?_
    · rintro i σ H' hi ⟨v1, v2, v3, rfl, sm⟩
      refine ⟨_, rfl, _, rfl, l, ns, i, (by rw [Int.zero_add]; rfl), sm.seq hS, by omega, fun b d m H2 nb s2 hb d0 m0 m1 => ?_⟩
      have hb0 : BagAt H2 b 0 := ⟨d, m, 0, hb, d0, m0, m1, by decide, by decide⟩
      have nb0 : H b = none := sm.free nb
      refine ⟨2, rfl, by decide, by decide, for_range (lo := 0) (n := 2) (fun j σ H' => ∃ (v3 : Option V), σ = [some (.ref l), some (.int (0 + (i : Nat))), some (.ref b), v3] ∧ Same H H' ∧ BagAt H' b (27 * j)) ⟨_, rfl, sm.trans s2, hb0⟩ ?_ ?_⟩
      · rintro j σ H3 hj ⟨v3, rfl, s3, hb3⟩
        refine ⟨_, rfl, b, _, rfl, hb3, by omega, fun H4 hb4 bt4 => ?_⟩
        refine ⟨_, rfl, iteF ?_⟩
        exact ⟨_, rfl, fun q o e => bt4 q o (s3 q o e) (ne_of_none e nb0), hb4.mono (by omega)⟩
      · rintro σ H3 ⟨v3, rfl, s3, hb3⟩
        exact ⟨_, _, _, rfl, s3⟩
    · rintro σ H' ⟨v1, v2, v3, rfl, sm⟩
      refine ⟨[], rfl, by decide, fun l1 x1 H1 mem1 len1 nx1 s1 c1 => ?_⟩
      have e1 : l1 = [] := List.length_eq_zero_iff.mp (Nat.le_zero.mp len1)
      subst e1
      obtain ⟨d1, f1, i1⟩ := c1.ins
      refine ⟨x1, d1, _, rfl, i1, x1, [], false, rfl, c1, smlD (by decide) (by decide), fun H2 s2 => ⟨_, rfl, rfl, _, rfl, ?_⟩⟩
      rw [w1, decide_eq_true rfl]
      refine iteF ?_
      refine ⟨[], rfl, by decide, fun l3 x3 H3 mem3 len3 nx3 s3 c3 => ?_⟩
      have e3 : l3 = [] := List.length_eq_zero_iff.mp (Nat.le_zero.mp len3)
      subst e3
      obtain ⟨d3, f3, i3⟩ := c3.ins
      refine ⟨x3, d3, _, rfl, i3, x3, [], false, rfl, c3, by decide, fun x4 H4 nx4 s4 c4 => ?_⟩
      obtain ⟨d4, f4, i4⟩ := c4.ins
      refine ⟨x4, d4, _, rfl, i4, x4, [], true, rfl, c4, smlD (by decide) (by decide), fun H5 s5 => ⟨_, rfl, rfl, _, rfl, ?_⟩⟩
      rw [w2, decide_eq_true rfl]
      refine iteF ?_
      refine ⟨[1], rfl, (by show 1 ≤ 4000; decide), fun l6 x6 H6 mem6 len6 nx6 s6 c6 => ?_⟩
      have e6 : l6 = [1] := rise_eq c6.1 (by decide) mem6
      subst e6
      obtain ⟨d6, f6, i6⟩ := c6.ins
      refine ⟨x6, d6, _, rfl, i6, x6, [1], false, rfl, c6, by decide, fun x7 H7 nx7 s7 c7 => ?_⟩
      obtain ⟨d7, f7, i7⟩ := c7.ins
      refine ⟨x7, d7, _, rfl, i7, x7, [1], true, rfl, c7, smlD (by decide) (by decide), fun H8 s8 => ⟨_, rfl, rfl, _, rfl, ?_⟩⟩
      rw [w3, decide_eq_true rfl]
      refine iteF ?_
      refine ⟨[2, 0], rfl, (by show 2 ≤ 4000; decide), fun l9 x9 H9 mem9 len9 nx9 s9 c9 => ?_⟩
      have e9 : l9 = [0, 2] := rise_eq c9.1 (by decide) fun k => by
        rw [mem9]
        simp only [List.mem_cons, List.not_mem_nil, or_false]
        omega
      subst e9
      obtain ⟨d9, f9, i9⟩ := c9.ins
      refine ⟨x9, d9, _, rfl, i9, x9, [0, 2], false, rfl, c9, smlD (by decide) (by decide), fun H10 s10 => ⟨_, rfl, rfl, _, rfl, ?_⟩⟩
      rw [w4, decide_eq_true rfl]
      refine iteT ?_
      refine ⟨rfl, 3, rfl, by decide, by decide, fun x11 H11 nx11 s11 c11 => ?_⟩
      obtain ⟨d11, f11, i11⟩ := c11.ins
      refine ⟨x11, d11, _, rfl, i11, x11, rgI 3, false, rfl, c11, smlD (by decide) (by decide), fun H12 s12 => ⟨_, rfl, rfl, ?_⟩⟩
      rw [w5, decide_eq_true rfl]
      exact k H12

end
end Toy

set_option Elab.async false
set_option linter.all false
set_option maxRecDepth 100000
set_option maxHeartbeats 4000000
set_option pp.maxSteps 1500
set_option pp.deepTerms false
namespace Toy
open PySem L2 Lf
theorem txt_mk {K : PySem.W.Frag} {h : Heap} {mg : Str → Option Value} {C_Choice : Addr} {f_is_integer : Addr} {od_is_integer an_is_integer : Option Addr} {sl_is_integer : Array (Option Value)} {oc_is_integer kV_is_integer dc_is_integer pm_is_integer cd_is_integer ct_is_integer : Value} {f_Choice__init : Addr} {od_Choice__init an_Choice__init : Option Addr} {sl_Choice__init : Array (Option Value)} {oc_Choice__init dc_Choice__init pm_Choice__init cd_Choice__init ct_Choice__init : Value} {D_Choice__init : Addr} {f_Choice_first : Addr} {p_Choice_first : Addr} {od_Choice_first an_Choice_first : Option Addr} {sl_Choice_first : Array (Option Value)} {oc_Choice_first kV_Choice_first dc_Choice_first pm_Choice_first cd_Choice_first ct_Choice_first : Value} {rs_Choice_first : List Value} {f_Choice__contains : Addr} {od_Choice__contains an_Choice__contains : Option Addr} {sl_Choice__contains : Array (Option Value)} {oc_Choice__contains kV_Choice__contains dc_Choice__contains pm_Choice__contains cd_Choice__contains ct_Choice__contains : Value} {f_Choice__and : Addr} {od_Choice__and an_Choice__and : Option Addr} {sl_Choice__and : Array (Option Value)} {oc_Choice__and kV_Choice__and dc_Choice__and pm_Choice__and cd_Choice__and ct_Choice__and : Value} {f_Choice__or : Addr} {od_Choice__or an_Choice__or : Option Addr} {sl_Choice__or : Array (Option Value)} {oc_Choice__or kV_Choice__or dc_Choice__or pm_Choice__or cd_Choice__or ct_Choice__or : Value} {f_Choice__invert : Addr} {od_Choice__invert an_Choice__invert : Option Addr} {sl_Choice__invert : Array (Option Value)} {oc_Choice__invert kV_Choice__invert dc_Choice__invert pm_Choice__invert cd_Choice__invert ct_Choice__invert : Value} {f_Choice__eq : Addr} {od_Choice__eq an_Choice__eq : Option Addr} {sl_Choice__eq : Array (Option Value)} {oc_Choice__eq kV_Choice__eq dc_Choice__eq pm_Choice__eq cd_Choice__eq ct_Choice__eq : Value} {f_Choice__str : Addr} {od_Choice__str an_Choice__str : Option Addr} {sl_Choice__str : Array (Option Value)} {oc_Choice__str kV_Choice__str dc_Choice__str pm_Choice__str cd_Choice__str ct_Choice__str : Value} {f_Choice__repr : Addr} {od_Choice__repr an_Choice__repr : Option Addr} {sl_Choice__repr : Array (Option Value)} {oc_Choice__repr kV_Choice__repr dc_Choice__repr pm_Choice__repr cd_Choice__repr ct_Choice__repr : Value} {f_l_bag : Addr} {od_l_bag an_l_bag : Option Addr} {sl_l_bag : Array (Option Value)} {oc_l_bag kV_l_bag dc_l_bag pm_l_bag cd_l_bag ct_l_bag : Value} {f_l_take : Addr} {od_l_take an_l_take : Option Addr} {sl_l_take : Array (Option Value)} {oc_l_take kV_l_take dc_l_take pm_l_take cd_l_take ct_l_take : Value} {f_l_drawn : Addr} {od_l_drawn an_l_drawn : Option Addr} {sl_l_drawn : Array (Option Value)} {oc_l_drawn kV_l_drawn dc_l_drawn pm_l_drawn cd_l_drawn ct_l_drawn : Value} {f_l_has : Addr} {od_l_has an_l_has : Option Addr} {sl_l_has : Array (Option Value)} {oc_l_has kV_l_has dc_l_has pm_l_has cd_l_has ct_l_has : Value} {f_l_written : Addr} {od_l_written an_l_written : Option Addr} {sl_l_written : Array (Option Value)} {oc_l_written kV_l_written dc_l_written pm_l_written cd_l_written ct_l_written : Value} {f_l_merged : Addr} {od_l_merged an_l_merged : Option Addr} {sl_l_merged : Array (Option Value)} {oc_l_merged kV_l_merged dc_l_merged pm_l_merged cd_l_merged ct_l_merged : Value} {f_l_agrees : Addr} {od_l_agrees an_l_agrees : Option Addr} {sl_l_agrees : Array (Option Value)} {oc_l_agrees kV_l_agrees dc_l_agrees pm_l_agrees cd_l_agrees ct_l_agrees : Value} {f_l_right : Addr} {od_l_right an_l_right : Option Addr} {sl_l_right : Array (Option Value)} {oc_l_right kV_l_right dc_l_right pm_l_right cd_l_right ct_l_right : Value} {f_law : Addr} {od_law an_law : Option Addr} {sl_law : Array (Option Value)} {oc_law kV_law dc_law pm_law cd_law ct_law : Value} (X : K.In h) (Gm : h.Ns mainGlobals mg)
    (aC_Choice : PySem.W.nsIn K mainGlobals "Choice" = some (some (.ref C_Choice)))
    (a_is_integer : PySem.W.nsIn K mainGlobals "is_integer" = some (some (.ref f_is_integer)))
    (l_is_integer : K.lookup f_is_integer = some ⟨oc_is_integer, od_is_integer, .func (PySem.W.fnOf "is_integer" "is_integer" (defArgs s_is_integer) (defBody s_is_integer) (defScope s_is_integer) .none kV_is_integer dc_is_integer pm_is_integer an_is_integer cd_is_integer ct_is_integer), sl_is_integer⟩)
    (c_is_integer : PySem.W.codeIn K cd_is_integer "is_integer" = true)
    (k_is_integer : PySem.W.keepIn K (.ref f_is_integer) = true)
    (a_Choice__init : PySem.W.findIn K (.ref C_Choice) "__init__" = some (some (.ref f_Choice__init)))
    (i_Choice__init : PySem.W.isFn K (.ref f_Choice__init) = true)
    (fi_Choice__init : PySem.W.fnIn K f_Choice__init = true)
    (l_Choice__init : K.lookup f_Choice__init = some ⟨oc_Choice__init, od_Choice__init, .func (PySem.W.fnOf "__init__" "Choice.__init__" (defArgs s_Choice__init) (defBody s_Choice__init) (defScope s_Choice__init) .none (.ref D_Choice__init) dc_Choice__init pm_Choice__init an_Choice__init cd_Choice__init ct_Choice__init), sl_Choice__init⟩)
    (kw_Choice__init_is_rest : PySem.W.nsIn K D_Choice__init "is_rest" = some (some (.bool false)))
    (c_Choice__init : PySem.W.codeIn K cd_Choice__init "Choice.__init__" = true)
    (k_Choice__init : PySem.W.keepIn K (.ref f_Choice__init) = true)
    (at_Choice_first : PySem.W.findCls K (.ref C_Choice) (.type "type") "first" = some (.get (.builtin "classmethod.__get__") (.ref p_Choice_first) .none (.ref C_Choice)))
    (rc_Choice_first : PySem.W.recIn K p_Choice_first "classmethod" = some (.ref f_Choice_first :: rs_Choice_first))
    (fi_Choice_first : PySem.W.fnIn K f_Choice_first = true)
    (l_Choice_first : K.lookup f_Choice_first = some ⟨oc_Choice_first, od_Choice_first, .func (PySem.W.fnOf "first" "Choice.first" (defArgs s_Choice_first) (defBody s_Choice_first) (defScope s_Choice_first) .none kV_Choice_first dc_Choice_first pm_Choice_first an_Choice_first cd_Choice_first ct_Choice_first), sl_Choice_first⟩)
    (c_Choice_first : PySem.W.codeIn K cd_Choice_first "Choice.first" = true)
    (k_Choice_first : PySem.W.keepIn K (.ref f_Choice_first) = true)
    (a_Choice__contains : PySem.W.findIn K (.ref C_Choice) "__contains__" = some (some (.ref f_Choice__contains)))
    (i_Choice__contains : PySem.W.isFn K (.ref f_Choice__contains) = true)
    (fi_Choice__contains : PySem.W.fnIn K f_Choice__contains = true)
    (l_Choice__contains : K.lookup f_Choice__contains = some ⟨oc_Choice__contains, od_Choice__contains, .func (PySem.W.fnOf "__contains__" "Choice.__contains__" (defArgs s_Choice__contains) (defBody s_Choice__contains) (defScope s_Choice__contains) .none kV_Choice__contains dc_Choice__contains pm_Choice__contains an_Choice__contains cd_Choice__contains ct_Choice__contains), sl_Choice__contains⟩)
    (c_Choice__contains : PySem.W.codeIn K cd_Choice__contains "Choice.__contains__" = true)
    (k_Choice__contains : PySem.W.keepIn K (.ref f_Choice__contains) = true)
    (a_Choice__and : PySem.W.findIn K (.ref C_Choice) "__and__" = some (some (.ref f_Choice__and)))
    (i_Choice__and : PySem.W.isFn K (.ref f_Choice__and) = true)
    (fi_Choice__and : PySem.W.fnIn K f_Choice__and = true)
    (l_Choice__and : K.lookup f_Choice__and = some ⟨oc_Choice__and, od_Choice__and, .func (PySem.W.fnOf "__and__" "Choice.__and__" (defArgs s_Choice__and) (defBody s_Choice__and) (defScope s_Choice__and) .none kV_Choice__and dc_Choice__and pm_Choice__and an_Choice__and cd_Choice__and ct_Choice__and), sl_Choice__and⟩)
    (c_Choice__and : PySem.W.codeIn K cd_Choice__and "Choice.__and__" = true)
    (k_Choice__and : PySem.W.keepIn K (.ref f_Choice__and) = true)
    (a_Choice__or : PySem.W.findIn K (.ref C_Choice) "__or__" = some (some (.ref f_Choice__or)))
    (i_Choice__or : PySem.W.isFn K (.ref f_Choice__or) = true)
    (fi_Choice__or : PySem.W.fnIn K f_Choice__or = true)
    (l_Choice__or : K.lookup f_Choice__or = some ⟨oc_Choice__or, od_Choice__or, .func (PySem.W.fnOf "__or__" "Choice.__or__" (defArgs s_Choice__or) (defBody s_Choice__or) (defScope s_Choice__or) .none kV_Choice__or dc_Choice__or pm_Choice__or an_Choice__or cd_Choice__or ct_Choice__or), sl_Choice__or⟩)
    (c_Choice__or : PySem.W.codeIn K cd_Choice__or "Choice.__or__" = true)
    (k_Choice__or : PySem.W.keepIn K (.ref f_Choice__or) = true)
    (a_Choice__invert : PySem.W.findIn K (.ref C_Choice) "__invert__" = some (some (.ref f_Choice__invert)))
    (i_Choice__invert : PySem.W.isFn K (.ref f_Choice__invert) = true)
    (fi_Choice__invert : PySem.W.fnIn K f_Choice__invert = true)
    (l_Choice__invert : K.lookup f_Choice__invert = some ⟨oc_Choice__invert, od_Choice__invert, .func (PySem.W.fnOf "__invert__" "Choice.__invert__" (defArgs s_Choice__invert) (defBody s_Choice__invert) (defScope s_Choice__invert) .none kV_Choice__invert dc_Choice__invert pm_Choice__invert an_Choice__invert cd_Choice__invert ct_Choice__invert), sl_Choice__invert⟩)
    (c_Choice__invert : PySem.W.codeIn K cd_Choice__invert "Choice.__invert__" = true)
    (k_Choice__invert : PySem.W.keepIn K (.ref f_Choice__invert) = true)
    (a_Choice__eq : PySem.W.findIn K (.ref C_Choice) "__eq__" = some (some (.ref f_Choice__eq)))
    (i_Choice__eq : PySem.W.isFn K (.ref f_Choice__eq) = true)
    (fi_Choice__eq : PySem.W.fnIn K f_Choice__eq = true)
    (l_Choice__eq : K.lookup f_Choice__eq = some ⟨oc_Choice__eq, od_Choice__eq, .func (PySem.W.fnOf "__eq__" "Choice.__eq__" (defArgs s_Choice__eq) (defBody s_Choice__eq) (defScope s_Choice__eq) .none kV_Choice__eq dc_Choice__eq pm_Choice__eq an_Choice__eq cd_Choice__eq ct_Choice__eq), sl_Choice__eq⟩)
    (c_Choice__eq : PySem.W.codeIn K cd_Choice__eq "Choice.__eq__" = true)
    (k_Choice__eq : PySem.W.keepIn K (.ref f_Choice__eq) = true)
    (a_Choice__str : PySem.W.findIn K (.ref C_Choice) "__str__" = some (some (.ref f_Choice__str)))
    (i_Choice__str : PySem.W.isFn K (.ref f_Choice__str) = true)
    (fi_Choice__str : PySem.W.fnIn K f_Choice__str = true)
    (l_Choice__str : K.lookup f_Choice__str = some ⟨oc_Choice__str, od_Choice__str, .func (PySem.W.fnOf "__str__" "Choice.__str__" (defArgs s_Choice__str) (defBody s_Choice__str) (defScope s_Choice__str) .none kV_Choice__str dc_Choice__str pm_Choice__str an_Choice__str cd_Choice__str ct_Choice__str), sl_Choice__str⟩)
    (c_Choice__str : PySem.W.codeIn K cd_Choice__str "Choice.__str__" = true)
    (k_Choice__str : PySem.W.keepIn K (.ref f_Choice__str) = true)
    (a_Choice__repr : PySem.W.findIn K (.ref C_Choice) "__repr__" = some (some (.ref f_Choice__repr)))
    (i_Choice__repr : PySem.W.isFn K (.ref f_Choice__repr) = true)
    (fi_Choice__repr : PySem.W.fnIn K f_Choice__repr = true)
    (l_Choice__repr : K.lookup f_Choice__repr = some ⟨oc_Choice__repr, od_Choice__repr, .func (PySem.W.fnOf "__repr__" "Choice.__repr__" (defArgs s_Choice__repr) (defBody s_Choice__repr) (defScope s_Choice__repr) .none kV_Choice__repr dc_Choice__repr pm_Choice__repr an_Choice__repr cd_Choice__repr ct_Choice__repr), sl_Choice__repr⟩)
    (c_Choice__repr : PySem.W.codeIn K cd_Choice__repr "Choice.__repr__" = true)
    (k_Choice__repr : PySem.W.keepIn K (.ref f_Choice__repr) = true)
    (a_l_bag : PySem.W.nsIn K mainGlobals "_law_bag" = some (some (.ref f_l_bag)))
    (l_l_bag : K.lookup f_l_bag = some ⟨oc_l_bag, od_l_bag, .func (PySem.W.fnOf "_law_bag" "_law_bag" (defArgs s_l_bag) (defBody s_l_bag) (defScope s_l_bag) .none kV_l_bag dc_l_bag pm_l_bag an_l_bag cd_l_bag ct_l_bag), sl_l_bag⟩)
    (c_l_bag : PySem.W.codeIn K cd_l_bag "_law_bag" = true)
    (k_l_bag : PySem.W.keepIn K (.ref f_l_bag) = true)
    (a_l_take : PySem.W.nsIn K mainGlobals "_law_take" = some (some (.ref f_l_take)))
    (l_l_take : K.lookup f_l_take = some ⟨oc_l_take, od_l_take, .func (PySem.W.fnOf "_law_take" "_law_take" (defArgs s_l_take) (defBody s_l_take) (defScope s_l_take) .none kV_l_take dc_l_take pm_l_take an_l_take cd_l_take ct_l_take), sl_l_take⟩)
    (c_l_take : PySem.W.codeIn K cd_l_take "_law_take" = true)
    (k_l_take : PySem.W.keepIn K (.ref f_l_take) = true)
    (a_l_drawn : PySem.W.nsIn K mainGlobals "_law_drawn" = some (some (.ref f_l_drawn)))
    (l_l_drawn : K.lookup f_l_drawn = some ⟨oc_l_drawn, od_l_drawn, .func (PySem.W.fnOf "_law_drawn" "_law_drawn" (defArgs s_l_drawn) (defBody s_l_drawn) (defScope s_l_drawn) .none kV_l_drawn dc_l_drawn pm_l_drawn an_l_drawn cd_l_drawn ct_l_drawn), sl_l_drawn⟩)
    (c_l_drawn : PySem.W.codeIn K cd_l_drawn "_law_drawn" = true)
    (k_l_drawn : PySem.W.keepIn K (.ref f_l_drawn) = true)
    (a_l_has : PySem.W.nsIn K mainGlobals "_law_has" = some (some (.ref f_l_has)))
    (l_l_has : K.lookup f_l_has = some ⟨oc_l_has, od_l_has, .func (PySem.W.fnOf "_law_has" "_law_has" (defArgs s_l_has) (defBody s_l_has) (defScope s_l_has) .none kV_l_has dc_l_has pm_l_has an_l_has cd_l_has ct_l_has), sl_l_has⟩)
    (c_l_has : PySem.W.codeIn K cd_l_has "_law_has" = true)
    (k_l_has : PySem.W.keepIn K (.ref f_l_has) = true)
    (a_l_written : PySem.W.nsIn K mainGlobals "_law_written" = some (some (.ref f_l_written)))
    (l_l_written : K.lookup f_l_written = some ⟨oc_l_written, od_l_written, .func (PySem.W.fnOf "_law_written" "_law_written" (defArgs s_l_written) (defBody s_l_written) (defScope s_l_written) .none kV_l_written dc_l_written pm_l_written an_l_written cd_l_written ct_l_written), sl_l_written⟩)
    (c_l_written : PySem.W.codeIn K cd_l_written "_law_written" = true)
    (k_l_written : PySem.W.keepIn K (.ref f_l_written) = true)
    (a_l_merged : PySem.W.nsIn K mainGlobals "_law_merged" = some (some (.ref f_l_merged)))
    (l_l_merged : K.lookup f_l_merged = some ⟨oc_l_merged, od_l_merged, .func (PySem.W.fnOf "_law_merged" "_law_merged" (defArgs s_l_merged) (defBody s_l_merged) (defScope s_l_merged) .none kV_l_merged dc_l_merged pm_l_merged an_l_merged cd_l_merged ct_l_merged), sl_l_merged⟩)
    (c_l_merged : PySem.W.codeIn K cd_l_merged "_law_merged" = true)
    (k_l_merged : PySem.W.keepIn K (.ref f_l_merged) = true)
    (a_l_agrees : PySem.W.nsIn K mainGlobals "_law_agrees" = some (some (.ref f_l_agrees)))
    (l_l_agrees : K.lookup f_l_agrees = some ⟨oc_l_agrees, od_l_agrees, .func (PySem.W.fnOf "_law_agrees" "_law_agrees" (defArgs s_l_agrees) (defBody s_l_agrees) (defScope s_l_agrees) .none kV_l_agrees dc_l_agrees pm_l_agrees an_l_agrees cd_l_agrees ct_l_agrees), sl_l_agrees⟩)
    (c_l_agrees : PySem.W.codeIn K cd_l_agrees "_law_agrees" = true)
    (k_l_agrees : PySem.W.keepIn K (.ref f_l_agrees) = true)
    (a_l_right : PySem.W.nsIn K mainGlobals "_law_right" = some (some (.ref f_l_right)))
    (l_l_right : K.lookup f_l_right = some ⟨oc_l_right, od_l_right, .func (PySem.W.fnOf "_law_right" "_law_right" (defArgs s_l_right) (defBody s_l_right) (defScope s_l_right) .none kV_l_right dc_l_right pm_l_right an_l_right cd_l_right ct_l_right), sl_l_right⟩)
    (c_l_right : PySem.W.codeIn K cd_l_right "_law_right" = true)
    (k_l_right : PySem.W.keepIn K (.ref f_l_right) = true)
    (a_law : PySem.W.nsIn K mainGlobals "law" = some (some (.ref f_law)))
    (l_law : K.lookup f_law = some ⟨oc_law, od_law, .func (PySem.W.fnOf "law" "law" (defArgs s_law) (defBody s_law) (defScope s_law) .none kV_law dc_law pm_law an_law cd_law ct_law), sl_law⟩)
    (c_law : PySem.W.codeIn K cd_law "law" = true)
    (k_law : PySem.W.keepIn K (.ref f_law) = true)
    (pg_Choice : PySem.W.plainGet K C_Choice Str.empty = true)
    (hd_Choice : PySem.W.hasDictIn K C_Choice = true)
    (po_Choice : PySem.W.plainOver K C_Choice = true)
    (sa_Choice : PySem.W.findIn K (.ref C_Choice) "__setattr__" = some (some (.builtin "object.__setattr__")))
    (kc_Choice : PySem.W.keepIn K (.ref C_Choice) = true)
    (ca_Choice : PySem.W.findIn K (.ref C_Choice) "__class__" = some (some (.builtin "object.__class__")))
    (cn_Choice : PySem.W.specialIn K (.builtin "object.__class__") "__get__" = some (some (.builtin "getset_descriptor.__get__")))
    (ctk_Choice : PySem.W.takesIn K (.builtin "object.__class__") = some true)
    (cm_Choice : PySem.W.mroIn K C_Choice (.type "object") = some true)
    (ic_Choice : PySem.W.isClsIn K C_Choice = true)
    (tc_Choice : PySem.W.typeIn K (.ref C_Choice) = some (.type "type"))
    (ne_Choice : PySem.W.findIn K (.ref C_Choice) "__ne__" = some (some (.builtin "object.__ne__")))
    (mk_Choice : PySem.W.makesIn K C_Choice = true)
    (rd_Choice : PySem.W.readsIn K C_Choice (.type "type") = true)
    (ga_Choice : PySem.W.specialIn K (.ref C_Choice) "__getattribute__" = some (some (.builtin "type.__getattribute__")))
    (nq_Choice : PySem.W.noSeq K C_Choice = true)
    (fm_Choice : PySem.W.findIn K (.ref C_Choice) "__format__" = some (some (.builtin "object.__format__")))
    (sf_Choice : PySem.W.selfFirst K C_Choice = true)
    (ki_Choice_int : PySem.W.mroIn K C_Choice (.type "int") = some false)
    (n_Choice_listed : PySem.W.findIn K (.ref C_Choice) "listed" = some none)
    (n_Choice_is_rest : PySem.W.findIn K (.ref C_Choice) "is_rest" = some none)
    (b_len : PySem.W.nsIn K mainGlobals "len" = some none)
    (b_abs : PySem.W.nsIn K mainGlobals "abs" = some none)
    (b_int : PySem.W.nsIn K mainGlobals "int" = some none)
    (b_range : PySem.W.nsIn K mainGlobals "range" = some none)
    (b_isinstance : PySem.W.nsIn K mainGlobals "isinstance" = some none)
    (b_max : PySem.W.nsIn K mainGlobals "max" = some none)
    (b_min : PySem.W.nsIn K mainGlobals "min" = some none)
    (b_list : PySem.W.nsIn K mainGlobals "list" = some none)
    (b_tuple : PySem.W.nsIn K mainGlobals "tuple" = some none)
    (b_all : PySem.W.nsIn K mainGlobals "all" = some none)
    (b_bool : PySem.W.nsIn K mainGlobals "bool" = some none)
    (b_set : PySem.W.nsIn K mainGlobals "set" = some none)
    (b_sorted : PySem.W.nsIn K mainGlobals "sorted" = some none)
    (b_str : PySem.W.nsIn K mainGlobals "str" = some none)
    (b_repr : PySem.W.nsIn K mainGlobals "repr" = some none) :
    Txt K mg ⟨f_is_integer, PySem.W.fnOf "is_integer" "is_integer" (defArgs s_is_integer) (defBody s_is_integer) (defScope s_is_integer) .none kV_is_integer dc_is_integer pm_is_integer an_is_integer cd_is_integer ct_is_integer, f_Choice__init, PySem.W.fnOf "__init__" "Choice.__init__" (defArgs s_Choice__init) (defBody s_Choice__init) (defScope s_Choice__init) .none (.ref D_Choice__init) dc_Choice__init pm_Choice__init an_Choice__init cd_Choice__init ct_Choice__init, f_Choice_first, PySem.W.fnOf "first" "Choice.first" (defArgs s_Choice_first) (defBody s_Choice_first) (defScope s_Choice_first) .none kV_Choice_first dc_Choice_first pm_Choice_first an_Choice_first cd_Choice_first ct_Choice_first, p_Choice_first, f_Choice__contains, PySem.W.fnOf "__contains__" "Choice.__contains__" (defArgs s_Choice__contains) (defBody s_Choice__contains) (defScope s_Choice__contains) .none kV_Choice__contains dc_Choice__contains pm_Choice__contains an_Choice__contains cd_Choice__contains ct_Choice__contains, f_Choice__and, PySem.W.fnOf "__and__" "Choice.__and__" (defArgs s_Choice__and) (defBody s_Choice__and) (defScope s_Choice__and) .none kV_Choice__and dc_Choice__and pm_Choice__and an_Choice__and cd_Choice__and ct_Choice__and, f_Choice__or, PySem.W.fnOf "__or__" "Choice.__or__" (defArgs s_Choice__or) (defBody s_Choice__or) (defScope s_Choice__or) .none kV_Choice__or dc_Choice__or pm_Choice__or an_Choice__or cd_Choice__or ct_Choice__or, f_Choice__invert, PySem.W.fnOf "__invert__" "Choice.__invert__" (defArgs s_Choice__invert) (defBody s_Choice__invert) (defScope s_Choice__invert) .none kV_Choice__invert dc_Choice__invert pm_Choice__invert an_Choice__invert cd_Choice__invert ct_Choice__invert, f_Choice__eq, PySem.W.fnOf "__eq__" "Choice.__eq__" (defArgs s_Choice__eq) (defBody s_Choice__eq) (defScope s_Choice__eq) .none kV_Choice__eq dc_Choice__eq pm_Choice__eq an_Choice__eq cd_Choice__eq ct_Choice__eq, f_Choice__str, PySem.W.fnOf "__str__" "Choice.__str__" (defArgs s_Choice__str) (defBody s_Choice__str) (defScope s_Choice__str) .none kV_Choice__str dc_Choice__str pm_Choice__str an_Choice__str cd_Choice__str ct_Choice__str, f_Choice__repr, PySem.W.fnOf "__repr__" "Choice.__repr__" (defArgs s_Choice__repr) (defBody s_Choice__repr) (defScope s_Choice__repr) .none kV_Choice__repr dc_Choice__repr pm_Choice__repr an_Choice__repr cd_Choice__repr ct_Choice__repr, f_l_bag, PySem.W.fnOf "_law_bag" "_law_bag" (defArgs s_l_bag) (defBody s_l_bag) (defScope s_l_bag) .none kV_l_bag dc_l_bag pm_l_bag an_l_bag cd_l_bag ct_l_bag, f_l_take, PySem.W.fnOf "_law_take" "_law_take" (defArgs s_l_take) (defBody s_l_take) (defScope s_l_take) .none kV_l_take dc_l_take pm_l_take an_l_take cd_l_take ct_l_take, f_l_drawn, PySem.W.fnOf "_law_drawn" "_law_drawn" (defArgs s_l_drawn) (defBody s_l_drawn) (defScope s_l_drawn) .none kV_l_drawn dc_l_drawn pm_l_drawn an_l_drawn cd_l_drawn ct_l_drawn, f_l_has, PySem.W.fnOf "_law_has" "_law_has" (defArgs s_l_has) (defBody s_l_has) (defScope s_l_has) .none kV_l_has dc_l_has pm_l_has an_l_has cd_l_has ct_l_has, f_l_written, PySem.W.fnOf "_law_written" "_law_written" (defArgs s_l_written) (defBody s_l_written) (defScope s_l_written) .none kV_l_written dc_l_written pm_l_written an_l_written cd_l_written ct_l_written, f_l_merged, PySem.W.fnOf "_law_merged" "_law_merged" (defArgs s_l_merged) (defBody s_l_merged) (defScope s_l_merged) .none kV_l_merged dc_l_merged pm_l_merged an_l_merged cd_l_merged ct_l_merged, f_l_agrees, PySem.W.fnOf "_law_agrees" "_law_agrees" (defArgs s_l_agrees) (defBody s_l_agrees) (defScope s_l_agrees) .none kV_l_agrees dc_l_agrees pm_l_agrees an_l_agrees cd_l_agrees ct_l_agrees, f_l_right, PySem.W.fnOf "_law_right" "_law_right" (defArgs s_l_right) (defBody s_l_right) (defScope s_l_right) .none kV_l_right dc_l_right pm_l_right an_l_right cd_l_right ct_l_right, f_law, PySem.W.fnOf "law" "law" (defArgs s_law) (defBody s_law) (defScope s_law) .none kV_law dc_law pm_law an_law cd_law ct_law, C_Choice⟩ where
  k_is_integer := k_is_integer
  F_is_integer := fun_mk (st := s_is_integer) l_is_integer c_is_integer k_is_integer
  a_is_integer := (fun_mk (st := s_is_integer) l_is_integer c_is_integer k_is_integer).binds (ps := ["value"]) fun _ _ _ _ _ _ us hl => match us, hl with | [_], _ => rfl
  m_is_integer := PySem.W.mg_of X Gm a_is_integer
  k_Choice__init := k_Choice__init
  F_Choice__init := ⟨⟨oc_Choice__init, od_Choice__init, _, _, dc_Choice__init, pm_Choice__init, an_Choice__init, cd_Choice__init, ct_Choice__init, sl_Choice__init, rfl, l_Choice__init, c_Choice__init, .inl ⟨rfl, rfl⟩, .inr ⟨D_Choice__init, rfl, fun q hq => by (simp only [List.mem_cons, List.not_mem_nil, or_false] at hq; rcases hq with rfl; exact ⟨_, kw_Choice__init_is_rest, rfl⟩)⟩⟩, k_Choice__init⟩
  t_Choice__init := ⟨a_Choice__init, i_Choice__init, k_Choice__init⟩
  f_Choice__init := a_Choice__init
  i_Choice__init := i_Choice__init
  fi_Choice__init := fi_Choice__init
  k_Choice_first := k_Choice_first
  F_Choice_first := fun_mk (st := s_Choice_first) l_Choice_first c_Choice_first k_Choice_first
  a_Choice_first := (fun_mk (st := s_Choice_first) l_Choice_first c_Choice_first k_Choice_first).binds (ps := ["cls", "many"]) fun _ _ _ _ _ _ us hl => match us, hl with | [_, _], _ => rfl
  cm_Choice_first := ⟨at_Choice_first, ⟨_, rc_Choice_first⟩, fi_Choice_first⟩
  k_Choice__contains := k_Choice__contains
  F_Choice__contains := fun_mk (st := s_Choice__contains) l_Choice__contains c_Choice__contains k_Choice__contains
  a_Choice__contains := (fun_mk (st := s_Choice__contains) l_Choice__contains c_Choice__contains k_Choice__contains).binds (ps := ["self", "value"]) fun _ _ _ _ _ _ us hl => match us, hl with | [_, _], _ => rfl
  t_Choice__contains := ⟨a_Choice__contains, i_Choice__contains, k_Choice__contains⟩
  f_Choice__contains := a_Choice__contains
  i_Choice__contains := i_Choice__contains
  fi_Choice__contains := fi_Choice__contains
  k_Choice__and := k_Choice__and
  F_Choice__and := fun_mk (st := s_Choice__and) l_Choice__and c_Choice__and k_Choice__and
  a_Choice__and := (fun_mk (st := s_Choice__and) l_Choice__and c_Choice__and k_Choice__and).binds (ps := ["self", "other"]) fun _ _ _ _ _ _ us hl => match us, hl with | [_, _], _ => rfl
  t_Choice__and := ⟨a_Choice__and, i_Choice__and, k_Choice__and⟩
  f_Choice__and := a_Choice__and
  i_Choice__and := i_Choice__and
  fi_Choice__and := fi_Choice__and
  k_Choice__or := k_Choice__or
  F_Choice__or := fun_mk (st := s_Choice__or) l_Choice__or c_Choice__or k_Choice__or
  a_Choice__or := (fun_mk (st := s_Choice__or) l_Choice__or c_Choice__or k_Choice__or).binds (ps := ["self", "other"]) fun _ _ _ _ _ _ us hl => match us, hl with | [_, _], _ => rfl
  t_Choice__or := ⟨a_Choice__or, i_Choice__or, k_Choice__or⟩
  f_Choice__or := a_Choice__or
  i_Choice__or := i_Choice__or
  fi_Choice__or := fi_Choice__or
  k_Choice__invert := k_Choice__invert
  F_Choice__invert := fun_mk (st := s_Choice__invert) l_Choice__invert c_Choice__invert k_Choice__invert
  a_Choice__invert := (fun_mk (st := s_Choice__invert) l_Choice__invert c_Choice__invert k_Choice__invert).binds (ps := ["self"]) fun _ _ _ _ _ _ us hl => match us, hl with | [_], _ => rfl
  t_Choice__invert := ⟨a_Choice__invert, i_Choice__invert, k_Choice__invert⟩
  f_Choice__invert := a_Choice__invert
  i_Choice__invert := i_Choice__invert
  fi_Choice__invert := fi_Choice__invert
  k_Choice__eq := k_Choice__eq
  F_Choice__eq := fun_mk (st := s_Choice__eq) l_Choice__eq c_Choice__eq k_Choice__eq
  a_Choice__eq := (fun_mk (st := s_Choice__eq) l_Choice__eq c_Choice__eq k_Choice__eq).binds (ps := ["self", "other"]) fun _ _ _ _ _ _ us hl => match us, hl with | [_, _], _ => rfl
  t_Choice__eq := ⟨a_Choice__eq, i_Choice__eq, k_Choice__eq⟩
  f_Choice__eq := a_Choice__eq
  i_Choice__eq := i_Choice__eq
  fi_Choice__eq := fi_Choice__eq
  k_Choice__str := k_Choice__str
  F_Choice__str := fun_mk (st := s_Choice__str) l_Choice__str c_Choice__str k_Choice__str
  a_Choice__str := (fun_mk (st := s_Choice__str) l_Choice__str c_Choice__str k_Choice__str).binds (ps := ["self"]) fun _ _ _ _ _ _ us hl => match us, hl with | [_], _ => rfl
  t_Choice__str := ⟨a_Choice__str, i_Choice__str, k_Choice__str⟩
  f_Choice__str := a_Choice__str
  i_Choice__str := i_Choice__str
  fi_Choice__str := fi_Choice__str
  k_Choice__repr := k_Choice__repr
  F_Choice__repr := fun_mk (st := s_Choice__repr) l_Choice__repr c_Choice__repr k_Choice__repr
  a_Choice__repr := (fun_mk (st := s_Choice__repr) l_Choice__repr c_Choice__repr k_Choice__repr).binds (ps := ["self"]) fun _ _ _ _ _ _ us hl => match us, hl with | [_], _ => rfl
  t_Choice__repr := ⟨a_Choice__repr, i_Choice__repr, k_Choice__repr⟩
  f_Choice__repr := a_Choice__repr
  i_Choice__repr := i_Choice__repr
  fi_Choice__repr := fi_Choice__repr
  k_l_bag := k_l_bag
  F_l_bag := fun_mk (st := s_l_bag) l_l_bag c_l_bag k_l_bag
  a_l_bag := (fun_mk (st := s_l_bag) l_l_bag c_l_bag k_l_bag).binds (ps := ["_law_script", "_law_at"]) fun _ _ _ _ _ _ us hl => match us, hl with | [_, _], _ => rfl
  m_l_bag := PySem.W.mg_of X Gm a_l_bag
  k_l_take := k_l_take
  F_l_take := fun_mk (st := s_l_take) l_l_take c_l_take k_l_take
  a_l_take := (fun_mk (st := s_l_take) l_l_take c_l_take k_l_take).binds (ps := ["_law_bag_here", "_law_many"]) fun _ _ _ _ _ _ us hl => match us, hl with | [_, _], _ => rfl
  m_l_take := PySem.W.mg_of X Gm a_l_take
  k_l_drawn := k_l_drawn
  F_l_drawn := fun_mk (st := s_l_drawn) l_l_drawn c_l_drawn k_l_drawn
  a_l_drawn := (fun_mk (st := s_l_drawn) l_l_drawn c_l_drawn k_l_drawn).binds (ps := ["_law_bag_here"]) fun _ _ _ _ _ _ us hl => match us, hl with | [_], _ => rfl
  m_l_drawn := PySem.W.mg_of X Gm a_l_drawn
  k_l_has := k_l_has
  F_l_has := fun_mk (st := s_l_has) l_l_has c_l_has k_l_has
  a_l_has := (fun_mk (st := s_l_has) l_l_has c_l_has k_l_has).binds (ps := ["_law_twin", "_law_value"]) fun _ _ _ _ _ _ us hl => match us, hl with | [_, _], _ => rfl
  m_l_has := PySem.W.mg_of X Gm a_l_has
  k_l_written := k_l_written
  F_l_written := fun_mk (st := s_l_written) l_l_written c_l_written k_l_written
  a_l_written := (fun_mk (st := s_l_written) l_l_written c_l_written k_l_written).binds (ps := ["_law_twin"]) fun _ _ _ _ _ _ us hl => match us, hl with | [_], _ => rfl
  m_l_written := PySem.W.mg_of X Gm a_l_written
  k_l_merged := k_l_merged
  F_l_merged := fun_mk (st := s_l_merged) l_l_merged c_l_merged k_l_merged
  a_l_merged := (fun_mk (st := s_l_merged) l_l_merged c_l_merged k_l_merged).binds (ps := ["_law_one", "_law_other"]) fun _ _ _ _ _ _ us hl => match us, hl with | [_, _], _ => rfl
  m_l_merged := PySem.W.mg_of X Gm a_l_merged
  k_l_agrees := k_l_agrees
  F_l_agrees := fun_mk (st := s_l_agrees) l_l_agrees c_l_agrees k_l_agrees
  a_l_agrees := (fun_mk (st := s_l_agrees) l_l_agrees c_l_agrees k_l_agrees).binds (ps := ["_law_choice", "_law_twin", "_law_numbers"]) fun _ _ _ _ _ _ us hl => match us, hl with | [_, _, _], _ => rfl
  m_l_agrees := PySem.W.mg_of X Gm a_l_agrees
  k_l_right := k_l_right
  F_l_right := fun_mk (st := s_l_right) l_l_right c_l_right k_l_right
  a_l_right := (fun_mk (st := s_l_right) l_l_right c_l_right k_l_right).binds (ps := ["_law_bag_here"]) fun _ _ _ _ _ _ us hl => match us, hl with | [_], _ => rfl
  m_l_right := PySem.W.mg_of X Gm a_l_right
  k_law := k_law
  F_law := fun_mk (st := s_law) l_law c_law k_law
  a_law := (fun_mk (st := s_law) l_law c_law k_law).binds (ps := ["_law_script"]) fun _ _ _ _ _ _ us hl => match us, hl with | [_], _ => rfl
  m_law := PySem.W.mg_of X Gm a_law
  ct_Choice := ⟨⟨pg_Choice, hd_Choice, po_Choice, sa_Choice⟩, ca_Choice, cn_Choice, ctk_Choice, cm_Choice, isc_mk ic_Choice tc_Choice, ne_Choice⟩
  m_Choice := PySem.W.mg_of X Gm aC_Choice
  mk_Choice := ⟨mk_Choice, a_Choice__init, i_Choice__init, kc_Choice⟩
  r_Choice := ⟨rd_Choice, ga_Choice⟩
  nq_Choice := nq_Choice
  fm_Choice := fm_Choice
  sf_Choice := sf_Choice
  ki_Choice_int := kit_refTy (by decide +kernel) ki_Choice_int
  n_Choice_listed := n_Choice_listed
  n_Choice_is_rest := n_Choice_is_rest
  b_len := PySem.W.mg_none_of X Gm b_len
  b_abs := PySem.W.mg_none_of X Gm b_abs
  b_int := PySem.W.mg_none_of X Gm b_int
  b_range := PySem.W.mg_none_of X Gm b_range
  b_isinstance := PySem.W.mg_none_of X Gm b_isinstance
  b_max := PySem.W.mg_none_of X Gm b_max
  b_min := PySem.W.mg_none_of X Gm b_min
  b_list := PySem.W.mg_none_of X Gm b_list
  b_tuple := PySem.W.mg_none_of X Gm b_tuple
  b_all := PySem.W.mg_none_of X Gm b_all
  b_bool := PySem.W.mg_none_of X Gm b_bool
  b_set := PySem.W.mg_none_of X Gm b_set
  b_sorted := PySem.W.mg_none_of X Gm b_sorted
  b_str := PySem.W.mg_none_of X Gm b_str
  b_repr := PySem.W.mg_none_of X Gm b_repr
theorem all_mk {l : PySem.W.OpenLaw} {w : World} {K : PySem.W.Frag} {h : Heap} {mg : Str → Option Value} {fa : Addr} {a : Ad} {kV' dc pm cd ct : Value} {an : Option Addr} (hfa : mg "law" = some (.ref fa)) (T : Txt K mg a) (e0 : a.d_law = PySem.W.fnOf "law" "law" (defArgs s_law) (defBody s_law) (defScope s_law) .none kV' dc pm an cd ct) :
    ∃ fd : FuncData, (∀ (s : Shared) (v : Value), BindsTo s fd ⟨[v], []⟩ [("_law_script", v)]) ∧ ∀ base : Heap, K.In base → base.Ns mainGlobals mg → FnOk l.prog w K mg base CX0 7 fa fd ["_law_script"] (spLaw K) := by
  have e := hfa.symm.trans T.m_law
  cases e
  refine ⟨a.d_law, fun s v => by rw [e0]; exact .of_eq rfl, fun base _ _ => ok_law T⟩
theorem walk {l : PySem.W.OpenLaw} {q : Program} {loose : List Str} {XP : (Str → Option Value) → Heap → Prop} {YP : World → Heap → Prop} {d : DefRec} {K : Params → PySem.W.Frag} (hn : l.most = some 63) (hdf : d.params.defaults = [])
    (hY : ∀ (w : World) (h : Heap), YP w h → (K w.params).In h)
    (F : ∀ (w : World) (mg : Str → Option Value) (fa : Addr) (h : Heap), (K w.params).In h → h.Ns mainGlobals mg → mg d.name = some (.ref fa) →
      ∃ fd : FuncData, (∀ (s : Shared) (u : Value), BindsTo s fd ⟨[u], []⟩ [("_law_script", u)]) ∧ ∀ base : Heap, (K w.params).In base → base.Ns mainGlobals mg → FnOk l.prog w (K w.params) mg base CX0 7 fa fd ["_law_script"] (spLaw (K w.params))) :
    PySem.W.WalkO q loose XP YP l.row.toRowW d [] (fun f vs => PySem.call f vs) :=
  L2.walk_of (n := 63) (k := 7) (x := "_law_script") (CX := fun _ => CX0) (sp := fun w => spLaw (K w.params)) hn (by decide) hdf ⟨rfl, by decide, by decide⟩ hY F (fun _ _ a ns hl _ hS => ⟨a, ns, rfl, hS, hl, fun _ => rfl⟩) fun _ _ _ _ _ z => z
end Toy
open PySem PySem.W PyProof.Rows
set_option maxRecDepth 100000 in
set_option maxHeartbeats 0 in
theorem PySem.Challenge.cw_linkedfilters_k02_choices_combined_holds : PySem.Challenge.rw_linkedfilters_k02_choices_combined.Holds := by
  w_on; o_law; k_head; (case hw => w_witness2)
  k_fill
  refine Toy.walk (l := PySem.Challenge.rw_linkedfilters_k02_choices_combined) rfl rfl (fun w h Y => PySem.W.kIn_of Y) ?F
  case F =>
    intro w mg fa h KX G hmg
    refine' Toy.all_mk (h := h) hmg (Toy.txt_mk KX G ?h_aC_Choice ?h_a_is_integer ?h_l_is_integer ?h_c_is_integer ?h_k_is_integer ?h_a_Choice__init ?h_i_Choice__init ?h_fi_Choice__init ?h_l_Choice__init ?h_kw_Choice__init_is_rest ?h_c_Choice__init ?h_k_Choice__init ?h_at_Choice_first ?h_rc_Choice_first ?h_fi_Choice_first ?h_l_Choice_first ?h_c_Choice_first ?h_k_Choice_first ?h_a_Choice__contains ?h_i_Choice__contains ?h_fi_Choice__contains ?h_l_Choice__contains ?h_c_Choice__contains ?h_k_Choice__contains ?h_a_Choice__and ?h_i_Choice__and ?h_fi_Choice__and ?h_l_Choice__and ?h_c_Choice__and ?h_k_Choice__and ?h_a_Choice__or ?h_i_Choice__or ?h_fi_Choice__or ?h_l_Choice__or ?h_c_Choice__or ?h_k_Choice__or ?h_a_Choice__invert ?h_i_Choice__invert ?h_fi_Choice__invert ?h_l_Choice__invert ?h_c_Choice__invert ?h_k_Choice__invert ?h_a_Choice__eq ?h_i_Choice__eq ?h_fi_Choice__eq ?h_l_Choice__eq ?h_c_Choice__eq ?h_k_Choice__eq ?h_a_Choice__str ?h_i_Choice__str ?h_fi_Choice__str ?h_l_Choice__str ?h_c_Choice__str ?h_k_Choice__str ?h_a_Choice__repr ?h_i_Choice__repr ?h_fi_Choice__repr ?h_l_Choice__repr ?h_c_Choice__repr ?h_k_Choice__repr ?h_a_l_bag ?h_l_l_bag ?h_c_l_bag ?h_k_l_bag ?h_a_l_take ?h_l_l_take ?h_c_l_take ?h_k_l_take ?h_a_l_drawn ?h_l_l_drawn ?h_c_l_drawn ?h_k_l_drawn ?h_a_l_has ?h_l_l_has ?h_c_l_has ?h_k_l_has ?h_a_l_written ?h_l_l_written ?h_c_l_written ?h_k_l_written ?h_a_l_merged ?h_l_l_merged ?h_c_l_merged ?h_k_l_merged ?h_a_l_agrees ?h_l_l_agrees ?h_c_l_agrees ?h_k_l_agrees ?h_a_l_right ?h_l_l_right ?h_c_l_right ?h_k_l_right ?h_a_law ?h_l_law ?h_c_law ?h_k_law ?h_pg_Choice ?h_hd_Choice ?h_po_Choice ?h_sa_Choice ?h_kc_Choice ?h_ca_Choice ?h_cn_Choice ?h_ctk_Choice ?h_cm_Choice ?h_ic_Choice ?h_tc_Choice ?h_ne_Choice ?h_mk_Choice ?h_rd_Choice ?h_ga_Choice ?h_nq_Choice ?h_fm_Choice ?h_sf_Choice ?h_ki_Choice_int ?h_n_Choice_listed ?h_n_Choice_is_rest ?h_b_len ?h_b_abs ?h_b_int ?h_b_range ?h_b_isinstance ?h_b_max ?h_b_min ?h_b_list ?h_b_tuple ?h_b_all ?h_b_bool ?h_b_set ?h_b_sorted ?h_b_str ?h_b_repr) rfl
    (case h_aC_Choice => k_is); (case h_a_is_integer => k_is); (case h_l_is_integer => k_is); (case h_c_is_integer => k_is); (case h_k_is_integer => k_is); (case h_a_Choice__init => k_is)
    (case h_i_Choice__init => k_is); (case h_fi_Choice__init => k_is); (case h_l_Choice__init => k_is); (case h_kw_Choice__init_is_rest => k_is); (case h_c_Choice__init => k_is); (case h_k_Choice__init => k_is)
    (case h_at_Choice_first => k_is); (case h_rc_Choice_first => k_is); (case h_fi_Choice_first => k_is); (case h_l_Choice_first => k_is); (case h_c_Choice_first => k_is); (case h_k_Choice_first => k_is)
    (case h_a_Choice__contains => k_is); (case h_i_Choice__contains => k_is); (case h_fi_Choice__contains => k_is); (case h_l_Choice__contains => k_is); (case h_c_Choice__contains => k_is); (case h_k_Choice__contains => k_is)
    (case h_a_Choice__and => k_is); (case h_i_Choice__and => k_is); (case h_fi_Choice__and => k_is); (case h_l_Choice__and => k_is); (case h_c_Choice__and => k_is); (case h_k_Choice__and => k_is)
    (case h_a_Choice__or => k_is); (case h_i_Choice__or => k_is); (case h_fi_Choice__or => k_is); (case h_l_Choice__or => k_is); (case h_c_Choice__or => k_is); (case h_k_Choice__or => k_is)
    (case h_a_Choice__invert => k_is); (case h_i_Choice__invert => k_is); (case h_fi_Choice__invert => k_is); (case h_l_Choice__invert => k_is); (case h_c_Choice__invert => k_is); (case h_k_Choice__invert => k_is)
    (case h_a_Choice__eq => k_is); (case h_i_Choice__eq => k_is); (case h_fi_Choice__eq => k_is); (case h_l_Choice__eq => k_is); (case h_c_Choice__eq => k_is); (case h_k_Choice__eq => k_is)
    (case h_a_Choice__str => k_is); (case h_i_Choice__str => k_is); (case h_fi_Choice__str => k_is); (case h_l_Choice__str => k_is); (case h_c_Choice__str => k_is); (case h_k_Choice__str => k_is)
    (case h_a_Choice__repr => k_is); (case h_i_Choice__repr => k_is); (case h_fi_Choice__repr => k_is); (case h_l_Choice__repr => k_is); (case h_c_Choice__repr => k_is); (case h_k_Choice__repr => k_is)
    (case h_a_l_bag => k_is); (case h_l_l_bag => k_is); (case h_c_l_bag => k_is); (case h_k_l_bag => k_is); (case h_a_l_take => k_is); (case h_l_l_take => k_is)
    (case h_c_l_take => k_is); (case h_k_l_take => k_is); (case h_a_l_drawn => k_is); (case h_l_l_drawn => k_is); (case h_c_l_drawn => k_is); (case h_k_l_drawn => k_is)
    (case h_a_l_has => k_is); (case h_l_l_has => k_is); (case h_c_l_has => k_is); (case h_k_l_has => k_is); (case h_a_l_written => k_is); (case h_l_l_written => k_is)
    (case h_c_l_written => k_is); (case h_k_l_written => k_is); (case h_a_l_merged => k_is); (case h_l_l_merged => k_is); (case h_c_l_merged => k_is); (case h_k_l_merged => k_is)
    (case h_a_l_agrees => k_is); (case h_l_l_agrees => k_is); (case h_c_l_agrees => k_is); (case h_k_l_agrees => k_is); (case h_a_l_right => k_is); (case h_l_l_right => k_is)
    (case h_c_l_right => k_is); (case h_k_l_right => k_is); (case h_a_law => k_is); (case h_l_law => k_is); (case h_c_law => k_is); (case h_k_law => k_is)
    (case h_pg_Choice => k_is); (case h_hd_Choice => k_is); (case h_po_Choice => k_is); (case h_sa_Choice => k_is); (case h_kc_Choice => k_is); (case h_ca_Choice => k_is)
    (case h_cn_Choice => k_is); (case h_ctk_Choice => k_is); (case h_cm_Choice => k_is); (case h_ic_Choice => k_is); (case h_tc_Choice => k_is); (case h_ne_Choice => k_is)
    (case h_mk_Choice => k_is); (case h_rd_Choice => k_is); (case h_ga_Choice => k_is); (case h_nq_Choice => k_is); (case h_fm_Choice => k_is); (case h_sf_Choice => k_is)
    (case h_ki_Choice_int => k_is); (case h_n_Choice_listed => k_is); (case h_n_Choice_is_rest => k_is); (case h_b_len => k_is); (case h_b_abs => k_is); (case h_b_int => k_is)
    (case h_b_range => k_is); (case h_b_isinstance => k_is); (case h_b_max => k_is); (case h_b_min => k_is); (case h_b_list => k_is); (case h_b_tuple => k_is)
    (case h_b_all => k_is); (case h_b_bool => k_is); (case h_b_set => k_is); (case h_b_sorted => k_is); (case h_b_str => k_is); (case h_b_repr => k_is)

