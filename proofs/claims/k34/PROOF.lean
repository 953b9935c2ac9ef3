import PyProof.Rows.All
import Wide.All
import OpenK.AllK
import Wide.FinOn
import HandS.ForMost
import HandS.More
import HandS.IsInst
import HandS.ClsMeth
import HandS.FStr
import KE.KCallOwn
import KE.KFmtOwn
import HandS.TupAny
import HandS.SetFor
import HandS.Conv
import HandS.Defaults
import HandS.MakeKwOnly
import HandS.Comp
import PyProof.MeetsStr3
import PyProof.StrLawsLast
import PyProof.StrLawsIn
import HandS.Text
import HandS.Exc
import HandS.ExcOwn
import HandS.ExcInit
import HandS.ExcField
import HandS.ExcIs
import HandS.WordsExc
import HandS.Star
import KE.KExcIs
import HandS.Walk
import HandS.Deep
import HandS.Wide
import HandS.SortOrd
import HandS.SortRule
import HandS.SortInts
import HandS.Dict
import HandS.TupMul
import HandS.Steps
import HandS.Iter
import KE.KUnpackStar
import HandS.TryOnly
import HandS.Zip
import HandS.Zip0
import PyProof.Draws
import PyProof.EnumMake
import HandS.DeepEq
import HandS.Style
import HandS.RaiseMore
import KE.SortData
import KE.DataCmp
import KE.KDictZip
import KE.KDictList
import PySem.Challenge.RW_linkedfilters_k34_short_rows
set_option Elab.async false
set_option linter.all false
set_option maxRecDepth 100000
set_option maxHeartbeats 4000000
/-! Rules of our own: ==, != and str by own methods of a plain class, a class called from a slot. -/
namespace Lf
open PySem PySem.Spec PyProof.Rows L2

section
variable {prog : Program} {w : World} {A : Around} {E : Value → Shared → Prop} {s : Shared} {K : PySem.W.Frag} {x C f : Addr} {ox : Obj} {od : Option Obj} {b tb : Value}
theorem ifBound_objNe {M : Model} {args : List Value} {Q : Option Value → Shared → Prop} (X : K.In s.heap) (I : PySem.W.InstAt s.heap x ox C od)
    (hs : PySem.W.findIn K (.ref C) "__ne__" = some (some (.builtin "object.__ne__")))
    (h : wpAny M A (call (.builtin "object.__ne__") (.ref x :: args)) (fun v => Q (some v)) E s) : wpAny M A (callSpecialIfBound? (.ref x) "__ne__" args) Q E s := by
  simp only [callSpecialIfBound?, bindSpecialIfBound?]
  refine wpAny_holding (wpAny_bind (wpAny_bind (wpAny_bind (I.type.here ((PySem.W.looks_findIn X hs).here ?_)))))
  refine wpAny_bind (wpAny_askSetting (wpAny_ite ?_))
  have fin : wpAny M A (call (.builtin "object.__ne__") ([.ref x] ++ args) >>= fun v => pure (some v)) Q E s :=
    wpAny_bind (wpAny_mono h (fun v s' h' => wpAny_pure h') fun _ _ h' => h')
  split
  · exact wpAny_bind (wpAny_of_eq (F.cmp_object.ne.bind _) (wpAny_pure (by exact fin)))
  · exact wpAny_tryCatch (wpAny_bind (wpAny_of_eq (F.cmp_object.ne.bind _) (wpAny_pure (by exact fin))))
theorem call_objNe {Q : Value → Shared → Prop} (hu : A.in1.units < cLine) (X : K.In s.heap) (I : PySem.W.InstAt s.heap x ox C od) (hm : PySem.W.mroIn K C (.type "object") = some true)
    (hs : PySem.W.findIn K (.ref C) "__eq__" = some (some (.ref f))) (hf : PySem.W.isFn K (.ref f) = true)
    (h : wpAny (model prog w) A.in1 (call (.ref f) [.ref x, b]) (fun v s' => ∃ k, v = .bool k ∧ Q (.bool (!k)) s') E s) :
    wpAny (model prog w) A (call (.builtin "object.__ne__") [.ref x, b]) Q E s := by
  refine wpAny_call (codeAny_call_builtin F.cmp_object.ne.plain F.cmpEntry_ne (PySem.W.check_slot F.cmpKind_ne F.cmpSplit_ne (I.type.andThen (PySem.W.looks_mroIn X hm)) (F.cmpArgs_ne _ _) ?_))
  unfold Builtin.«object.__ne__»
  refine wpAny_bind (m := slotArgs "__ne__" 1 _) (wpAny_pure ?_)
  refine wpAny_bind (m := cRoomFor _ _) (wpAny_cRoomFor hu ?_)
  refine wpAny_bind (m := callSpecialIfBound? (.ref x) (Str.ofString "__eq__") _) (PySem.W.ifBound_K X I hs hf (wpAny_mono h (fun r s' hq => ?_) fun _ _ y => y))
  obtain ⟨k, rfl, hq⟩ := hq
  exact wpAny_bind (wpAny_truthy_bool (wpAny_pure hq))
/-- x != b by an own __eq__ that answers a bool -/
theorem cmp_ne_K {Q : Value → Shared → Prop} (hu : A.units < cLine) (hu1 : A.in1.units < cLine) (X : K.In s.heap) (I : PySem.W.InstAt s.heap x ox C od)
    (hb : PySem.W.Looks (model prog w) s.heap (typeOf b) tb) (hn : PySem.W.notFirst K C tb = true) (hm : PySem.W.mroIn K C (.type "object") = some true)
    (hne : PySem.W.findIn K (.ref C) "__ne__" = some (some (.builtin "object.__ne__"))) (hs : PySem.W.findIn K (.ref C) "__eq__" = some (some (.ref f))) (hf : PySem.W.isFn K (.ref f) = true)
    (h : wpAny (model prog w) A.in1 (call (.ref f) [.ref x, b]) (fun v s' => ∃ k, v = .bool k ∧ Q (.bool (!k)) s') E s) :
    wpAny (model prog w) A (richCompare .NotEq (.ref x) b) Q E s := by
  have one : wpAny (model prog w) A (tryCompare (.ref x) "__ne__" b) (fun r s' => ∃ v, r = some v ∧ Q v s') E s := by
    unfold tryCompare
    refine wpAny_bind (ifBound_objNe X I hne (call_objNe hu1 X I hm hs hf (wpAny_mono h (fun v s' hv => ?_) fun _ _ e => e)))
    obtain ⟨k, rfl, hq⟩ := hv
    exact ⟨k, rfl, wpAny_pure ⟨_, rfl, hq⟩⟩
  unfold richCompare
  simp only [oneThing_ref]
  refine wpAny_holding (wpAny_bind (wpAny_cRoomFor hu ?_))
  refine wpAny_bind (I.type.here (wpAny_bind (hb.here ?_)))
  split
  · rename_i q
    have e : PySem.W.subIn K tb (.ref C) = some false := by
      rcases Bool.or_eq_true_iff.mp hn with e | e
      · rw [beq_iff_eq.mp e] at q; simp at q
      · exact beq_iff_eq.mp e
    refine wpAny_bind ((PySem.W.looks_subIn X e).here ?_)
    simp only [Bool.false_eq_true, if_false]
    refine wpAny_bind (wpAny_mono one (fun r s' z => ?_) fun _ _ e => e)
    obtain ⟨v, rfl, hq⟩ := z
    exact wpAny_pure hq
  · refine wpAny_bind (wpAny_pure ?_)
    simp only [Bool.false_eq_true, if_false]
    refine wpAny_bind (wpAny_mono one (fun r s' z => ?_) fun _ _ e => e)
    obtain ⟨v, rfl, hq⟩ := z
    exact wpAny_pure hq
end

theorem cmpback {P : Value → Shared → Prop} {z : V} {v : Value} {s' : Shared} (r : RelV z v) (h : P v s') : PySem.W.CmpBack P v s' := by
  cases z with
  | non => cases (show v = Value.none from r); exact h
  | bl b => cases (show v = Value.bool b from r); exact h
  | int i => obtain ⟨t, e⟩ := (show ∃ t, v = Value.int i t from r); cases e; exact h
  | str x => obtain ⟨t, e⟩ := (show ∃ t, v = Value.str x t from r); cases e; exact h
  | byt b => obtain ⟨t, e⟩ := (show ∃ t, v = Value.bytes b t from r); cases e; exact h
  | flt b => obtain ⟨t, e⟩ := (show ∃ t, v = Value.float b t from r); cases e; exact h
  | ref a => cases (show v = Value.ref a from r); exact h
  | ty n => cases (show v = Value.type n from r); exact h

section
variable {X : Cx} {CX : CXT} {pins : List (Addr × Obj)} {σ : L2.St} {H : Hp} {s : Shared} {a C dx p g : Addr} {fs : List (Str × V)} {n : Nat} {sp : Sp} {E : XK}
theorem run_atR {A : Around} {Q : VK} {us : List Value} {ws : List V} (F : FnR X.prog X.w X.K X.mg X.base CX n g sp) (hr : Room n A) (e0 : Env0 X.prog X.w X.K X.mg X.base A X.stack s H) (hx : Passes CX X E)
    (I : Inv X pins σ H s) (r : Vals ws us) (h : sp ws H Q E) :
    codeAny (model X.prog X.w) A (.call (.ref g) ⟨us, []⟩) (fun r s' => match r with | .ok (.ret v) => EP X pins σ Q v s' | .ok _ => False | .error e => X.xe e s') s := by
  refine codeAny_mono (F A X.stack s H us ws Q E hr e0 r h) fun r s' hq => ?_
  cases r with
  | error e => exact hx pins σ H s e s' I hq
  | ok fl =>
    cases fl with
    | ret u => exact I.after hq
    | next => exact False.elim hq
    | brk => exact False.elim hq
    | cont => exact False.elim hq
/-- x == y, x an instance of C with an own __eq__ -/
def rOwnEq (K : PySem.W.Frag) (C : Addr) (sp : Sp) (E : XK) : R2 := fun x y H Q => ∃ (a dx : Addr) (fs : List (Str × V)) (t : Value), x = .ref a ∧ H a = some (.ins C dx fs) ∧ TyX K H y t ∧ PySem.W.notFirst K C t = true ∧ sp [x, y] H Q E
def rOwnNe (K : PySem.W.Frag) (C : Addr) (sp : Sp) (E : XK) : R2 := fun x y H Q => ∃ (a dx : Addr) (fs : List (Str × V)) (t : Value), x = .ref a ∧ H a = some (.ins C dx fs) ∧ TyX K H y t ∧ PySem.W.notFirst K C t = true ∧
  sp [x, y] H (fun v H' => ∃ k, v = .bl k ∧ Q (.bl (!k)) H') E
theorem op_ownEq (hs : PySem.W.findIn X.K (.ref C) "__eq__" = some (some (.ref g))) (hf : PySem.W.isFn X.K (.ref g) = true) (F : FnR X.prog X.w X.K X.mg X.base CX n g sp) (hr : Room n X.A) (hx : Passes CX X E) :
    OpR X (compareOp .Eq) (rOwnEq X.K C sp E) := by
  intro pins s σ H x y v u Q I rx ry h
  obtain ⟨a, dx, fs, t, rfl, ha, ty, hn, q⟩ := h
  cases (show v = Value.ref a from rx)
  obtain ⟨mA, O, _⟩ := ins_get I.hok ha
  obtain ⟨od, J, _⟩ := O.look
  obtain ⟨P, Z, hp, _⟩ := kit_of I ry ty
  obtain ⟨m, hF⟩ := I.fr
  show wpAny _ _ (richCompare .Eq (.ref a) u) _ _ _
  refine PySem.W.cmp_K (op := .Eq) (tb := t) hr.units0 hF I.ok.mod.kin J (Z.ty _ _ I.kIn hp) hn hs hf ?_
  refine wpAny_mono (wpAny_call (run_fnR (us := [.ref a, u]) (vs := [.ref a, y]) F hr hx I (.cons rfl (.cons ry .nil)) q)) (fun w s' z => ?_) fun _ _ x => x
  obtain ⟨z', H', I', rz, qz⟩ := z
  exact cmpback rz ⟨z', H', I', rz, qz⟩
theorem op_ownNe (hm : PySem.W.mroIn X.K C (.type "object") = some true) (hne : PySem.W.findIn X.K (.ref C) "__ne__" = some (some (.builtin "object.__ne__")))
    (hs : PySem.W.findIn X.K (.ref C) "__eq__" = some (some (.ref g))) (hf : PySem.W.isFn X.K (.ref g) = true) (F : FnR X.prog X.w X.K X.mg X.base CX n g sp) (hr : Room (n + 1) X.A) (hx : Passes CX X E) :
    OpR X (compareOp .NotEq) (rOwnNe X.K C sp E) := by
  intro pins s σ H x y v u Q I rx ry h
  obtain ⟨a, dx, fs, t, rfl, ha, ty, hn, q⟩ := h
  cases (show v = Value.ref a from rx)
  obtain ⟨mA, O, _⟩ := ins_get I.hok ha
  obtain ⟨od, J, _⟩ := O.look
  obtain ⟨P, Z, hp, _⟩ := kit_of I ry ty
  show wpAny _ _ (richCompare .NotEq (.ref a) u) _ _ _
  refine cmp_ne_K (tb := t) hr.units0 hr.in1.units0 I.kIn J (Z.ty _ _ I.kIn hp) hn hm hne hs hf ?_
  refine wpAny_mono (wpAny_call (run_atR (us := [.ref a, u]) (ws := [.ref a, y]) F hr.in1 I.env0.in1 hx I (.cons rfl (.cons ry .nil)) q)) (fun w s' z => ?_) fun _ _ x => x
  obtain ⟨z', H', I', rz, k, ek, qz⟩ := z
  subst ek
  exact ⟨k, rz, .bl (!k), H', I', rfl, qz⟩
/-- str(x) by an own __str__ -/
def rStrOwn (C : Addr) (sp : Sp) (E : XK) : List V → Hp → VK → Prop := fun xs H Q => ∃ (a dx : Addr) (fs : List (Str × V)), xs = [V.ref a] ∧ H a = some (.ins C dx fs) ∧ sp [.ref a] H (fun z H' => ∃ y, z = .str y ∧ Q z H') E
theorem call_strOwn (hs : PySem.W.findIn X.K (.ref C) "__str__" = some (some (.ref g))) (hf : PySem.W.isFn X.K (.ref g) = true) (F : FnR X.prog X.w X.K X.mg X.base CX n g sp) (hr : Room (n + 2) X.A) (hx : Passes CX X E) :
    CallR X (.type "str") (rStrOwn C sp E) := by
  intro pins s σ H xs us Q I r h
  obtain ⟨a, dx, fs, rfl, ha, q⟩ := h
  obtain ⟨u, rfl, ru⟩ := vals1 r
  cases (show u = Value.ref a from ru)
  obtain ⟨mA, O, _⟩ := ins_get I.hok ha
  obtain ⟨od, J, _⟩ := O.look
  have hr2 : Room n X.A.in1.in1 := (show Room (n + 1) X.A.in1 from Room.in1 hr).in1
  refine PySem.W.kso_call hr2.units0 I.kIn J hs hf (wpAny_mono (wpAny_call (run_atR (us := [.ref a]) (ws := [.ref a]) F hr2 I.env0.in1.in1 hx I (.cons rfl .nil) q)) (fun w s' z => ?_) fun _ _ x => x)
  obtain ⟨z', H', I', rz, y, ey, qz⟩ := z
  subst ey
  obtain ⟨t, e⟩ := (show ∃ t, w = Value.str y t from rz)
  cases e
  exact ⟨.str y, H', I', ⟨t, rfl⟩, qz⟩
end

/-- cls(..), the class at C in the i-th slot -/
def tMakeL (i : Nat) (C : Addr) (sp : Sp) (dvs : List V) (E : XK) (t : TA) : TE := fun σ H Q => σ[i]? = some (some (.ref C)) ∧ t σ H fun vs H1 => ∀ x dx, H1 x = none → H1 dx = none → dx ≠ x →
  sp (.ref x :: (vs ++ dvs)) (upd (upd H1 dx (.own x)) x (.ins C dx [])) (fun v H2 => v = .non ∧ Q (.ref x) H2) E
section
variable {X : Cx} {CX : CXT} {k i : Nat} {f C : Addr} {fd : FuncData} {ps : List Str} {sp : Sp} {dvs : List V} {ds : List Value} {E : XK} {x : Str} {p pos : Pos} {e : Expr} {es : List Expr} {t : TA}
theorem pe_makeL (M : Mk X.K C f) (F : FnOk X.prog X.w X.K X.mg X.base CX k f fd ps sp) (hr : Room (k + 1) X.A) (hN : X.N[i]? = some x) (hv : Vis X.env.scope x) (hb : Binds X.K fd ps ds) (hd : Vals dvs ds) (hx : Passes CX X E)
    (ha : PA X (e :: es) t) (hdb : (x == ("__debug__" : Str)) = false := by decide) (hcd : (x == ("__classdict__" : Str)) = false := by decide)
    (he : starEach (e :: es) X.env = (false, eval e X.env) :: starEach es X.env := by rfl) (hpl : (backTo pos (starEach es X.env)).any (·.1) = false := by rfl) :
    PE X (.Call (.Name x p) (e :: es) [] pos) (tMakeL i C sp dvs E t) := by
  refine ⟨fun pins s σ H Q I h => ?_⟩
  obtain ⟨hs, ht⟩ := h
  refine wpAny_Call_Name_kw (thn ((pe_var (pos := p) hN hv hdb hcd).run pins s σ H (fun v H1 => v = .ref C ∧ H1 = H) I ⟨.ref C, hs, rfl, rfl⟩) fun u s1 ⟨v, H1, I1, r1, q1⟩ => ?_)
  obtain ⟨rfl, rfl⟩ := q1
  cases r1
  refine PySem.W.callWith_K (h₀ := X.base) I.ok.mod.kin M.kp (thn (ha.run pos pins s1 σ _ _ I1 ht) fun us s2 ⟨vs, H2, I2, r, q⟩ => ⟨I2.kIn, ?_⟩) he hpl
  exact run_make M F hr hb hd hx I2 r q
end

/-! ### types of values, classes -/
def notRef : Value → Bool
  | .ref _ => false
  | _ => true
def noRefs (l : List Value) : Bool := l.all notRef
theorem noRefs_of {l : List Value} {C : Addr} (h : noRefs l = true) : l.contains (.ref C) = false := by
  induction l with
  | nil => rfl
  | cons v l ih =>
    unfold noRefs at h
    rw [List.all_cons, Bool.and_eq_true] at h
    have h2 : l.contains (.ref C) = false := ih h.2
    rw [List.contains_cons, h2, Bool.or_false]
    cases v with
    | ref a => exact absurd h.1 (by show ¬ (false = true); decide)
    | _ => rfl
theorem sub_ty {K : PySem.W.Frag} {T : String} {C : Addr} (h : (fastBuiltinMro T).any noRefs = true) : PySem.W.subIn K (.type T) (.ref C) = some false := by
  show (fastBuiltinMro T).map (·.contains (.ref C)) = some false
  cases e : fastBuiltinMro T with
  | none => rw [e] at h; cases h
  | some l =>
    rw [e] at h
    exact congrArg some (noRefs_of h)
theorem nf_ty {K : PySem.W.Frag} {T : String} {C : Addr} (h : (fastBuiltinMro T).any noRefs = true) : PySem.W.notFirst K C (.type T) = true := by
  unfold PySem.W.notFirst
  rw [sub_ty h]
  exact Bool.or_true _
theorem nf_own {K : PySem.W.Frag} {C : Addr} : PySem.W.notFirst K C (.ref C) = true := by
  unfold PySem.W.notFirst
  rw [beq_self_eq_true]
  exact Bool.true_or _
theorem mro_str : (fastBuiltinMro "str").any noRefs = true := by decide +kernel
theorem mro_int : (fastBuiltinMro "int").any noRefs = true := by decide +kernel
theorem mro_bool : (fastBuiltinMro "bool").any noRefs = true := by decide +kernel
theorem mro_none : (fastBuiltinMro "NoneType").any noRefs = true := by decide +kernel
theorem mro_tuple : (fastBuiltinMro "tuple").any noRefs = true := by decide +kernel
theorem mro_list : (fastBuiltinMro "list").any noRefs = true := by decide +kernel
/-- what of the text a class must have: its instances are read, compared, asked for their class -/
structure ClsT (K : PySem.W.Frag) (C : Addr) : Prop where
  cl : Cls K C
  ca : PySem.W.findIn K (.ref C) "__class__" = some (some (.builtin "object.__class__"))
  cn : PySem.W.specialIn K (.builtin "object.__class__") "__get__" = some (some (.builtin "getset_descriptor.__get__"))
  ct : PySem.W.takesIn K (.builtin "object.__class__") = some true
  cm : PySem.W.mroIn K C (.type "object") = some true
  isc : ((PySem.W.clsIn K C).isSome && PySem.W.typeIn K (.ref C) == some (.type "type")) = true
  ne : PySem.W.findIn K (.ref C) "__ne__" = some (some (.builtin "object.__ne__"))
theorem isc_mk {K : PySem.W.Frag} {C : Addr} (a : PySem.W.isClsIn K C = true) (b : PySem.W.typeIn K (.ref C) = some (.type "type")) : ((PySem.W.clsIn K C).isSome && PySem.W.typeIn K (.ref C) == some (.type "type")) = true := by
  rw [b, show (PySem.W.clsIn K C).isSome = true from a]
  rfl
theorem ClsT.ty {K : PySem.W.Frag} {C : Addr} (c : ClsT K C) {H : Hp} {a dx : Addr} {fs : List (Str × V)} (h : H a = some (.ins C dx fs)) : TyX K H (.ref a) (.ref C) := .base (.ins h c.cl c.ca c.cn c.ct c.cm)
theorem kit_own {K : PySem.W.Frag} {C : Addr} : PySem.W.kitOne K (.ref C) (.ref C) = some true := by
  unfold PySem.W.kitOne
  rw [beq_self_eq_true]
  exact if_pos rfl
theorem ClsT.kitTy {K : PySem.W.Frag} {C : Addr} (c : ClsT K C) {T : String} (h : (fastBuiltinMro T).any noRefs = true) : PySem.W.kitOne K (.type T) (.ref C) = some false := by
  unfold PySem.W.kitOne
  rw [if_neg (by show ¬ ((Value.type T == Value.ref C) = true); exact fun q => nomatch (beq_iff_eq.mp q))]
  show (if ((PySem.W.clsIn K C).isSome && PySem.W.typeIn K (.ref C) == some (.type "type")) = true then PySem.W.subIn K (.type T) (.ref C) else none) = some false
  rw [if_pos c.isc]
  exact sub_ty h

/-! ### heaps: all but one address stays -/
/-- what stood at another address than b stands -/
def But (b : Addr) (H H' : Hp) : Prop := ∀ q o, H q = some o → q ≠ b → H' q = some o
theorem But.refl {b : Addr} {H : Hp} : But b H H := fun _ _ h _ => h
theorem But.trans {b : Addr} {H H1 H2 : Hp} (x : But b H H1) (y : But b H1 H2) : But b H H2 := fun q o h n => y q o (x q o h n) n
theorem But.of {b : Addr} {H H' : Hp} (s : Same H H') : But b H H' := fun q o h _ => s q o h
theorem But.upd {b : Addr} {H : Hp} {o : HO} : But b H (upd H b o) := fun q u h n => by rw [upd_ne n]; exact h
theorem But.same {b : Addr} {H H' : Hp} (x : But b H H') (h : H b = none) : Same H H' := fun q o e => x q o e (ne_of_none e h)
theorem But.free {b q : Addr} {H H' : Hp} (x : But b H H') (n : q ≠ b) (h : H' q = none) : H q = none := by
  cases e : H q with
  | none => rfl
  | some o => rw [x q o e n] at h; cases h
theorem But.seq {K : PySem.W.Frag} {b a : Addr} {xs : List V} {H H' : Hp} (x : But b H H') (n : a ≠ b) (h : SqL K H a xs) : SqL K H' a xs := by
  rcases h with (h | ⟨o, h⟩) | h
  · exact .inl (.inl (x _ _ h n))
  · exact .inl (.inr ⟨o, x _ _ h n⟩)
  · exact .inr h
theorem Same.new {H : Hp} {p : Addr} {o : HO} (h : H p = none) : Same H (upd H p o) := fun q u e => by
  rw [upd_ne (ne_of_none e h)]; exact e
/-- a new instance is laid -/
theorem Same.make {H : Hp} {x dx C : Addr} {fs : List (Str × V)} (nx : H x = none) (nd : H dx = none) : Same H (L2.upd (L2.upd H dx (.own x)) x (.ins C dx fs)) := fun b o e => by
  rw [upd_ne (ne_of_none e nx), upd_ne (ne_of_none e nd)]; exact e
theorem two_upd {H : Hp} {a : Addr} {o u : HO} : L2.upd (L2.upd H a o) a u = L2.upd H a u := upd_upd

/-! ### attributes -/
theorem lk0 {f : Str} {v : V} {fs : List (Str × V)} : List.lookup f ((f, v) :: fs) = some v := by
  rw [List.lookup_cons]; simp
theorem lk1 {f g : Str} {v : V} {fs : List (Str × V)} (h : (f == g) = false) : List.lookup f ((g, v) :: fs) = List.lookup f fs := by
  rw [List.lookup_cons, h]
theorem pf0 {f : Str} {v : V} : putF f v [] = [(f, v)] := rfl
theorem pf1 {f g : Str} {v u : V} {fs : List (Str × V)} (h : ¬ g = f) : putF f v ((g, u) :: fs) = (g, u) :: putF f v fs := by
  show (if g = f then (g, v) :: fs else (g, u) :: putF f v fs) = _
  rw [if_neg h]

/-! ### readings by short names -/
abbrev rAddI : R2 := rI0 fun i j => .int (i + j)
abbrev rSubI : R2 := rI0 fun i j => .int (i - j)
abbrev rMulI : R2 := rI CMul fun i j => .int (i * j)
abbrev rFdivI : R2 := rI CDiv fun i j => .int (i / j)
abbrev rModI : R2 := rI (fun _ j => 0 < j) fun i j => .int (i % j)
abbrev rPowI : R2 := rI CPow fun i j => .int (i ^ j.toNat)
abbrev rLtI : R2 := rI0 fun i j => .bl (decide (i < j))
abbrev rLeI : R2 := rI0 fun i j => .bl (decide (i ≤ j))
abbrev rGtI : R2 := rI0 fun i j => .bl (decide (j < i))
abbrev rGeI : R2 := rI0 fun i j => .bl (decide (j ≤ i))
abbrev rNegI : V → Hp → VK → Prop := rU fun i => .int (-i)
abbrev rAddS : R2 := fun x y H Q => ∃ i j, x = .str i ∧ y = .str j ∧ i.length + j.length ≤ sizeLine ∧ Q (.str (i ++ j)) H
abbrev rIsNn : R2 := fun x y H Q => y = .non ∧ Q (.bl (decide (x = .non))) H
abbrev rNotNn : R2 := fun x y H Q => y = .non ∧ Q (.bl (!decide (x = .non))) H
abbrev rLenSq (K : PySem.W.Frag) : List V → Hp → VK → Prop := fun xs H Q => ∃ p ys, xs = [.ref p] ∧ (SqL K H p ys ∨ SqT K H p ys) ∧ Q (.int ys.length) H
abbrev rStrI : List V → Hp → VK → Prop := fun xs H Q => ∃ i, xs = [.int i] ∧ i.natAbs.log2 < 1920 ∧ Q (.str (toString i)) H

/-! ### new objects, by what is true of the heap behind them -/
section
variable {X : Cx} {e : Expr} {es : List Expr} {t t' : TE} {ta : TA} {pos : Pos}
theorem PE.weak (h : PE X e t) (k : ∀ σ H Q, t' σ H Q → t σ H Q) : PE X e t' := ⟨fun pins s σ H Q I q => h.run pins s σ H Q I (k σ H Q q)⟩
def tTupS (t : TA) : TE := fun σ H Q => t σ H fun xs H1 => xs.length ≤ sizeLine ∧ ∀ p H', H1 p = none → Same H1 H' → H' p = some (.tup xs) → Q (.ref p) H'
def tLstS (t : TA) : TE := fun σ H Q => t σ H fun xs H1 => xs.length ≤ sizeLine ∧ ∀ p H', H1 p = none → Same H1 H' → H' p = some (.lst xs) → Q (.ref p) H'
theorem pe_tupS {x1} (h : PA X es ta) : PE X (.Tuple es x1 pos) (tTupS ta) := by
  refine ⟨fun pins s σ H Q I hq => ?_⟩
  refine wpAny_Tuple_spliced (thn (h.run pos pins s σ H _ I hq) fun us s1 ⟨xs, H1, I1, r, z, q⟩ => ⟨by rw [← r.length]; exact z, ?_⟩)
  have hf : H1 s1.heap.objs.size = none := I1.hok.fresh (Nat.le_refl _)
  refine ⟨.ref s1.heap.objs.size, L2.upd H1 s1.heap.objs.size (.tup xs), I1.laid (t' := s1.toks) (fun b u e => Heap.get?_push_of_some _ e) (Nat.le_refl _) ?_, rfl, q _ _ hf (Same.new hf) upd_same⟩
  exact ⟨z, us, r, ⟨_, Heap.get?_push_size _ rfl, rfl, _, rfl⟩⟩
theorem pe_lstS (h : PA X es ta) : PE X (.List es pos) (tLstS ta) := by
  refine ⟨fun pins s σ H Q I hq => ?_⟩
  refine wpAny_List_spliced (thn (h.run pos pins s σ H _ I hq) fun us s1 ⟨xs, H1, I1, r, z, q⟩ => ⟨by rw [← r.length]; exact z, ?_⟩)
  have hf : H1 s1.heap.objs.size = none := I1.hok.fresh (Nat.le_refl _)
  refine ⟨.ref s1.heap.objs.size, L2.upd H1 s1.heap.objs.size (.lst xs), I1.laid (t' := s1.toks) (fun b u e => Heap.get?_push_of_some _ e) (Nat.le_refl _) ?_, rfl, q _ _ hf (Same.new hf) upd_same⟩
  exact ⟨z, us, 0, r, Heap.get?_push_size _ rfl⟩
def rCatS : R2 := fun x y H Q => ∃ l b xs zs, x = .ref l ∧ y = .ref b ∧ H l = some (.lst xs) ∧ H b = some (.lst zs) ∧ xs.length + zs.length ≤ sizeLine ∧ ∀ p H', H p = none → Same H H' → H' p = some (.lst (xs ++ zs)) → Q (.ref p) H'
theorem op_catS : OpR X (binaryOp .Add) rCatS := by
  intro pins s σ H x y v u Q I rx ry h
  obtain ⟨l, b, xs, zs, h1, h2, h3, h4, h5, h6⟩ := h
  exact op_cat pins s σ H x y v u Q I rx ry ⟨l, b, xs, zs, h1, h2, h3, h4, h5, fun p hp => h6 p _ hp (Same.new hp) upd_same⟩
def rSlLS (K : PySem.W.Frag) : V → Option Int → Option Int → Hp → VK → Prop := fun x lo hi H Q => ∃ a xs, x = .ref a ∧ SqL K H a xs ∧ ∀ p H', H p = none → Same H H' → H' p = some (.lst (cutV xs lo hi)) → Q (.ref p) H'
theorem sl_listS : SlR X (rSlLS X.K) := by
  intro pins s σ H x v vl vu lo hi sl Q I rx hs pl pu h
  obtain ⟨a, xs, h1, h2, h3⟩ := h
  exact sl_list pins s σ H x v vl vu lo hi sl Q I rx hs pl pu ⟨a, xs, h1, h2, fun p hp => h3 p _ hp (Same.new hp) upd_same⟩
def rListOfS (K : PySem.W.Frag) : List V → Hp → VK → Prop := fun xs H Q => ∃ p ys, xs = [.ref p] ∧ (SqL K H p ys ∨ SqT K H p ys) ∧ ∀ l H', H l = none → Same H H' → H' l = some (.lst ys) → Q (.ref l) H'
theorem call_list_ofS : CallR X (.type "list") (rListOfS X.K) := by
  intro pins s σ H xs us Q I r h
  obtain ⟨p, ys, h1, h2, h3⟩ := h
  exact call_list_of pins s σ H xs us Q I r ⟨p, ys, h1, h2, fun l hl => h3 l _ hl (Same.new hl) upd_same⟩
end
/-- a new object at x, whatever its attributes: what stood before stands -/
theorem made_same {H H' : Hp} {x dx C : Addr} {fs : List (Str × V)} (nx : H x = none) (nd : H dx = none) (b : But x (L2.upd (L2.upd H dx (.own x)) x (.ins C dx fs)) H') : Same H H' := fun q o e =>
  b q o (by rw [upd_ne (ne_of_none e nx), upd_ne (ne_of_none e nd)]; exact e) (ne_of_none e nx)
end Lf

set_option Elab.async false
set_option linter.all false
set_option maxRecDepth 100000
set_option maxHeartbeats 4000000
/-! len, in, subscripts and slices by own methods; count of tuples. -/
namespace Lf
open PySem PySem.Spec PyProof.Rows L2
section
variable {X : Cx} {CX : CXT} {pins : List (Addr × Obj)} {σ : L2.St} {H : Hp} {s : Shared} {C g : Addr} {n : Nat} {sp : Sp} {E : XK}
/-- len(x) by an own __len__ -/
def rLenOwn (C : Addr) (sp : Sp) (E : XK) : List V → Hp → VK → Prop := fun xs H Q => ∃ (a dx : Addr) (fs : List (Str × V)), xs = [V.ref a] ∧ H a = some (.ins C dx fs) ∧ sp [.ref a] H (fun z H' => ∃ i : Int, z = .int i ∧ 0 ≤ i ∧ i < 2 ^ 63 ∧ Q z H') E
theorem call_lenOwn (hs : PySem.W.findIn X.K (.ref C) "__len__" = some (some (.ref g))) (hf : PySem.W.isFn X.K (.ref g) = true) (F : FnR X.prog X.w X.K X.mg X.base CX n g sp) (hr : Room (n + 1) X.A) (hx : Passes CX X E) :
    CallR X (.builtin "len") (rLenOwn C sp E) := by
  intro pins s σ H xs us Q I r h
  obtain ⟨a, dx, fs, rfl, ha, q⟩ := h
  obtain ⟨u, rfl, ru⟩ := vals1 r
  cases (show u = Value.ref a from ru)
  obtain ⟨mA, O, _⟩ := ins_get I.hok ha
  obtain ⟨od, J, _⟩ := O.look
  obtain ⟨m, hF⟩ := I.fr
  refine PySem.W.len_K hF I.ok.mod.kin J hs hf (wpAny_mono (wpAny_call (run_atR (us := [.ref a]) (ws := [.ref a]) F hr.in1 I.env0.in1 hx I (.cons rfl .nil) q)) (fun w s' z => ?_) fun _ _ x => x)
  obtain ⟨z', H', I', rz, i, ei, i0, i1, qz⟩ := z
  subst ei
  obtain ⟨t, e⟩ := (show ∃ t, w = Value.int i t from rz)
  cases e
  exact ⟨⟨i0, i1⟩, .int i, H', I'.tok _, ⟨_, rfl⟩, qz⟩
/-- v in x by an own __contains__ that answers a bool -/
def rInOwn (C : Addr) (sp : Sp) (E : XK) (neg : Bool) : R2 := fun x y H Q => ∃ (a dx : Addr) (fs : List (Str × V)), y = .ref a ∧ H a = some (.ins C dx fs) ∧ sp [y, x] H (fun z H' => ∃ b, z = .bl b ∧ Q (.bl (if neg then !b else b)) H') E
theorem op_inOwn (hs : PySem.W.findIn X.K (.ref C) "__contains__" = some (some (.ref g))) (hf : PySem.W.isFn X.K (.ref g) = true) (F : FnR X.prog X.w X.K X.mg X.base CX n g sp) (hr : Room n X.A) (hx : Passes CX X E) :
    OpR X (compareOp .In) (rInOwn C sp E false) := by
  intro pins s σ H x y v u Q I rx ry h
  obtain ⟨a, dx, fs, rfl, ha, q⟩ := h
  cases (show u = Value.ref a from ry)
  obtain ⟨mA, O, _⟩ := ins_get I.hok ha
  obtain ⟨od, J, _⟩ := O.look
  obtain ⟨m, hF⟩ := I.fr
  refine PySem.W.in_K hF I.ok.mod.kin J hs hf (wpAny_mono (wpAny_call (run_fnR (us := [.ref a, v]) (vs := [.ref a, x]) F hr hx I (.cons rfl (.cons rx .nil)) q)) (fun w s' z => ?_) fun _ _ x => x)
  obtain ⟨z', H', I', rz, b, eb, qz⟩ := z
  subst eb
  cases (show w = Value.bool b from rz)
  exact wpAny_truthy_bool ⟨.bl b, H', I', rfl, qz⟩
theorem op_notInOwn (hs : PySem.W.findIn X.K (.ref C) "__contains__" = some (some (.ref g))) (hf : PySem.W.isFn X.K (.ref g) = true) (F : FnR X.prog X.w X.K X.mg X.base CX n g sp) (hr : Room n X.A) (hx : Passes CX X E) :
    OpR X (compareOp .NotIn) (rInOwn C sp E true) := by
  intro pins s σ H x y v u Q I rx ry h
  obtain ⟨a, dx, fs, rfl, ha, q⟩ := h
  cases (show u = Value.ref a from ry)
  obtain ⟨mA, O, _⟩ := ins_get I.hok ha
  obtain ⟨od, J, _⟩ := O.look
  obtain ⟨m, hF⟩ := I.fr
  refine PySem.W.notIn_K hF I.ok.mod.kin J hs hf (wpAny_mono (wpAny_call (run_fnR (us := [.ref a, v]) (vs := [.ref a, x]) F hr hx I (.cons rfl (.cons rx .nil)) q)) (fun w s' z => ?_) fun _ _ x => x)
  obtain ⟨z', H', I', rz, b, eb, qz⟩ := z
  subst eb
  cases (show w = Value.bool b from rz)
  exact wpAny_truthy_bool ⟨.bl (!b), H', I', rfl, qz⟩
/-! ### subscripts -/
/-- x[i] by an own __getitem__ -/
def rIxOwn (C : Addr) (sp : Sp) (E : XK) : R2 := fun x y H Q => ∃ (a dx : Addr) (fs : List (Str × V)), x = .ref a ∧ H a = some (.ins C dx fs) ∧ sp [x, y] H Q E
theorem pe_ixOwn {a b : Expr} {ta tb : TE} {pos : Pos} (hs : PySem.W.findIn X.K (.ref C) "__getitem__" = some (some (.ref g))) (hfi : PySem.W.fnIn X.K g = true) (hf : PySem.W.isFn X.K (.ref g) = true)
    (F : FnR X.prog X.w X.K X.mg X.base CX n g sp) (hr : Room (n + 1) X.A) (hx : Passes CX X E) (ha : PE X a ta) (hb : PE X b tb)
    (hsl : ∀ (x : Addr) (i : Value), subscripted b true (.ref x) i = runValue (.builtin "lifetime.subscript" ⟨[.ref x, i], []⟩)) : PE X (.Subscript a b pos) (tOp (rIxOwn C sp E) ta tb) := by
  refine ⟨fun pins s σ H Q I h => ?_⟩
  refine Subscript_ (binT ha hb I h fun v u s2 x y H2 I2 rx ry q => ?_)
  obtain ⟨p, dx, fs, rfl, hp, q⟩ := q
  cases (show v = Value.ref p from rx)
  obtain ⟨mA, O, _⟩ := ins_get I2.hok hp
  obtain ⟨od, J, _⟩ := O.look
  obtain ⟨m, hF⟩ := I2.fr
  exact PySem.W.sub_K hF I2.ok.mod.kin J hs hfi hf (wpAny_mono (wpAny_call (run_atR (us := [.ref p, u]) (ws := [.ref p, y]) F hr.in1 I2.env0.in1 hx I2 (.cons rfl (.cons ry .nil)) q)) (fun _ _ z => z) fun _ _ x => x) (hsl p u)
/-- a slice object -/
def SliceO (sl : Addr) (lo hi : Option Int) : HO := .ext fun h => ∃ vl vu, h.IsSliceOf sl vl vu .none ∧ IsPart vl lo ∧ IsPart vu hi
def tSlOwn (C : Addr) (sp : Sp) (E : XK) (te : TE) (tl th : TO) : TE := fun σ H Q => te σ H fun x H1 => tl σ H1 fun l H2 => th σ H2 fun u H3 => ∃ (a dx : Addr) (fs : List (Str × V)), x = .ref a ∧ H3 a = some (.ins C dx fs) ∧
  ∀ p H', H3 p = none → Same H3 H' → H' p = some (SliceO p l u) → sp [x, .ref p] H' Q E
theorem sub_sliceK {prog : Program} {w : World} {A : Around} {E : Value → Shared → Prop} {s : Shared} {K : PySem.W.Frag} {x C L f : Addr} {h₀ : Heap} {m : Str → Option Value} {ox : Obj} {od : Option Obj} {value : Expr} {lo hi : Option Expr} {p2 : Pos} {i : Value} {Q : Value → Shared → Prop} (F : Fr h₀ L s.heap m) (X₀ : K.In h₀) (I : PySem.W.InstAt s.heap x ox C od)
    (hq : PySem.W.noSeq K C = true) (hs : PySem.W.findIn K (.ref C) "__getitem__" = some (some (.ref f))) (hf : PySem.W.fnIn K f = true) (hfn : PySem.W.isFn K (.ref f) = true)
    (h : wpAny (model prog w) A (call (.ref f) [.ref x, i]) Q E s) : wpAny (model prog w) A (subscriptTail value (.Slice lo hi none p2) (.ref x) i) Q E s := by
  have X := X₀.keeps F.keep
  unfold PySem.W.fnIn at hf
  split at hf
  · rename_i e
    unfold subscriptTail getitemInPython
    refine wpAny_bind (wpAny_bind (wpAny_bind (I.type.here ((PySem.W.looks_findIn X hs).here ?_))))
    dsimp only
    refine wpAny_bind (wpAny_load (X _ _ e) (wpAny_pure ?_))
    dsimp only
    show wpAny (model prog w) A (operate [i, .ref x] (getItem (.ref x) i) >>= _) Q E s
    refine wpAny_bind (wpAny_operateT (PySem.W.getItem_K F X₀ I hq hs hfn (wpAny_mono h (fun v s' z => ?_) fun _ _ z => z)))
    exact wpAny_bind (wpAny_letTemporaryGo (wpAny_pure z))
  · cases hf
theorem pe_sliceOwn {e : Expr} {te : TE} {lo hi : Option Expr} {tl th : TO} {pos p2 : Pos} (hq : PySem.W.noSeq X.K C = true) (hs : PySem.W.findIn X.K (.ref C) "__getitem__" = some (some (.ref g))) (hfi : PySem.W.fnIn X.K g = true) (hf : PySem.W.isFn X.K (.ref g) = true)
    (F : FnR X.prog X.w X.K X.mg X.base CX n g sp) (hr : Room n X.A) (hx : Passes CX X E) (he : PE X e te) (hl : PO X lo tl) (hu : PO X hi th) :
    PE X (.Subscript e (.Slice lo hi none p2) pos) (tSlOwn C sp E te tl th) := by
  refine ⟨fun pins s σ H Q I h => ?_⟩
  refine Subscript_ (thn (he.run pins s σ H _ I h) fun v s1 ⟨x, H1, I1, r1, q1⟩ => ?_)
  refine wpAny_Slice (thn (hl.run pins s1 σ H1 _ I1 q1) fun vl s2 ⟨l, H2, I2, pl, q2⟩ => thn (hu.run pins s2 σ H2 _ I2 q2) fun vu s3 ⟨u, H3, I3, pu, q3⟩ => ?_)
  rw [evalPart_none]
  refine wpAny_pure ?_
  have hn : H3 s3.heap.objs.size = none := I3.hok.fresh (Nat.le_refl _)
  have kp : ∀ b ob, s3.heap.get? b = some ob → (s3.heap.push { cls := .type "slice", data := .fields #[vl, vu, .none] }).get? b = some ob := fun b ob q => Heap.get?_push_of_some _ q
  have new : ObjOk X.prog X.w (L2.upd H3 s3.heap.objs.size (SliceO s3.heap.objs.size l u)) (s3.heap.push { cls := .type "slice", data := .fields #[vl, vu, .none] }) s3.heap.objs.size (SliceO s3.heap.objs.size l u) := by
    refine ⟨⟨vl, vu, Heap.IsSliceOf.new .., pl, pu⟩, ⟨_, Heap.get?_push_size _ rfl⟩, fun h1 h2 z k => ?_⟩
    obtain ⟨a1, a2, ⟨o, z1, z2⟩, z3⟩ := z
    exact ⟨a1, a2, ⟨o, k o z1, z2⟩, z3⟩
  have I4 := I3.laid (t' := s3.toks) kp (Nat.le_refl _) new
  obtain ⟨p, dx, fs, rfl, hp, q⟩ := q3
  cases (show v = Value.ref p from r1)
  have hp4 := Same.new (o := SliceO s3.heap.objs.size l u) hn p _ hp
  obtain ⟨mA, O, _⟩ := ins_get I4.hok hp4
  obtain ⟨od, J, _⟩ := O.look
  obtain ⟨m, hF⟩ := I4.fr
  show wpAny (model X.prog X.w) X.A (subscriptTail e (.Slice lo hi none p2) (.ref p) (.ref s3.heap.objs.size)) (EP X pins σ Q) X.xe { s3 with heap := s3.heap.push { cls := .type "slice", data := .fields #[vl, vu, .none] } }
  refine sub_sliceK hF I4.ok.mod.kin J hq hs hfi hf ?_
  exact wpAny_mono (wpAny_call (run_fnR (us := [.ref p, .ref s3.heap.objs.size]) (vs := [.ref p, .ref s3.heap.objs.size]) F hr hx I4 (.cons rfl (.cons rfl .nil)) (q _ _ hn (Same.new hn) upd_same))) (fun _ _ z => z) fun _ _ x => x
/-- t[i], t a tuple, i an int or a slice object -/
def rIxTS (K : PySem.W.Frag) : R2 := fun x y H Q => rIxT K x y H Q ∨ ∃ (sl : Addr) (lo hi : Option Int), y = .ref sl ∧ H sl = some (SliceO sl lo hi) ∧ rSlA K x lo hi H Q
theorem ix_tupS : IxR X (rIxTS X.K) := by
  intro value slice pins s σ H x y v u Q I rx ry h hs
  rcases h with h | ⟨sl, lo, hi, rfl, hsl, q⟩
  · exact ix_tup value slice pins s σ H x y v u Q I rx ry h hs
  · cases (show u = Value.ref sl from ry)
    obtain ⟨⟨vl, vu, z1, z2, z3⟩, _⟩ := (show ObjOk X.prog X.w H s.heap sl (SliceO sl lo hi) from I.hok sl _ hsl)
    obtain ⟨T, id, hT, ht, hg⟩ := sl_tupA pins s σ H x v vl vu lo hi sl Q I rx z1 z2 z3 q
    exact tail_any (ops := [v, .ref sl]) ht hT hg hs
/-! ### tuples of which the object is known: their methods -/
/-- a tuple of xs at a, of the built-in class itself -/
def TupD (H : Hp) (a : Addr) (xs : List V) : Prop := ∃ o : Obj, H a = some (.frz o (.tup xs)) ∧ o.dict = none ∧ o.cls = .type "tuple"
theorem TupD.keep {H H' : Hp} {a : Addr} {xs : List V} (h : TupD H a xs) (s : Same H H') : TupD H' a xs := by
  obtain ⟨o, h1, h2⟩ := h
  exact ⟨o, s _ _ h1, h2⟩
theorem TupD.but {H H' : Hp} {a b : Addr} {xs : List V} (h : TupD H a xs) (s : But b H H') (n : a ≠ b) : TupD H' a xs := by
  obtain ⟨o, h1, h2⟩ := h
  exact ⟨o, s _ _ h1 n, h2⟩
theorem TupD.ne {H : Hp} {a b : Addr} {xs : List V} (h : TupD H a xs) (n : H b = none) : a ≠ b := by
  obtain ⟨o, h1, h2⟩ := h
  exact ne_of_none h1 n
theorem TupD.seq {K : PySem.W.Frag} {H : Hp} {a : Addr} {xs : List V} (h : TupD H a xs) : SqT K H a xs := by
  obtain ⟨o, h1, _⟩ := h
  exact .inl (.inr ⟨o, h1⟩)
theorem TupD.ty {K : PySem.W.Frag} {H : Hp} {a : Addr} {xs : List V} (h : TupD H a xs) : TyX K H (.ref a) (.type "tuple") := by
  obtain ⟨o, h1, _⟩ := h
  exact .fTuple h1
/-- tuple(list): a new one, known -/
def rTupleD (K : PySem.W.Frag) : List V → Hp → VK → Prop := fun xs H Q => ∃ p ys, xs = [.ref p] ∧ SqL K H p ys ∧ ∀ l H', H l = none → Same H H' → TupD H' l ys → Q (.ref l) H'
theorem call_tupleD : CallR X (.type "tuple") (rTupleD X.K) := by
  intro pins s σ H xs us Q I r h
  obtain ⟨p, ys, rfl, hq, q⟩ := h
  obtain ⟨u, rfl, rx⟩ := vals1 r
  cases rx
  obtain ⟨its, r', pl, hz⟩ := I.list hq
  have hlen := r'.length
  refine call_tuple_list pl.isList (fun h' kp => ?_) (by simp only [List.size_toArray] <;> omega)
  have I1 : L2.Inv X pins σ H { s with heap := h' } := I.kept (t' := s.toks) kp
  have hn := I1.hok.fresh (Nat.le_refl h'.objs.size)
  have I2 : L2.Inv X pins σ (L2.upd H h'.objs.size (.frz { cls := .type "tuple", data := .seq its.toArray } (.tup ys))) { s with heap := h'.push { cls := .type "tuple", data := .seq its.toArray } } :=
    I1.laid (t' := s.toks) (fun b o e => Heap.get?_push_of_some _ e) (Nat.le_refl _) (show ObjOk X.prog X.w _ _ _ (.frz _ (.tup ys)) from ⟨Heap.get?_push_size _ rfl, hz, its, r', IsTup.new _ _⟩)
  exact ⟨.ref h'.objs.size, _, I2, rfl, q _ _ hn (Same.new hn) ⟨_, upd_same, rfl, rfl⟩⟩
/-- a method of such a tuple -/
def tBMT (r : V → List V → Hp → VK → Prop) (to : TE) (t : TA) : TE := fun σ H Q => to σ H fun x H1 => (∃ p xs, x = .ref p ∧ TupD H1 p xs) ∧ t σ H1 fun xs H2 => r x xs H2 Q
theorem pe_bmT {o e : Expr} {es : List Expr} {to : TE} {t : TA} {name : Str} {apos cpos : Pos} {id : String} {r : V → List V → Hp → VK → Prop} (pa : PlainAttrs "tuple") (slot : Slot "tuple" name id) (hty : typeOf (.builtin id) = pure (.type "method_descriptor")) (hm : MtR X id r) (ho : PE X o to) (ha : PA X (e :: es) t)
    (hbase : attributeBase o name X.env (eval o X.env) = eval o X.env := by rfl)
    (hfew : ((backTo cpos (starEach (e :: es) X.env)).all (fun x => !x.1) && (backToKw cpos (keywordEach [] X.env)).all (fun x => x.1.isSome)
      && decide ((e :: es).length + ([] : List Keyword).length + (if ([] : List Keyword).isEmpty then 0 else 1) < 30)) = true := by rfl)
    (hline : (apos.endLine == cpos.line) = true := by rfl) (hs : starEach (e :: es) X.env = (false, eval e X.env) :: starEach es X.env := by rfl) (hplain : (backTo cpos (starEach es X.env)).any (·.1) = false := by rfl) :
    PE X (.Call (.Attribute o name apos) (e :: es) [] cpos) (tBMT r to t) := by
  refine ⟨fun pins s σ H Q I h => ?_⟩
  refine wpAny_Call_method_late hbase hfew hline rfl (thn (ho.run pins s σ H _ I h) fun v s1 ⟨x, H1, I1, r1, ty, q1⟩ => ?_)
  obtain ⟨p, xs, rfl, ob, hp, hd, hc⟩ := ty
  cases (show v = Value.ref p from r1)
  obtain ⟨hg, _⟩ := (show ObjOk X.prog X.w H1 s1.heap p (.frz ob (.tup xs)) from I1.hok p _ hp)
  refine ⟨"tuple", id, pa, slot, hty, ⟨ob, hg, hc⟩, fun b eb => by cases eb; exact ⟨ob, hg, hd⟩, ?_⟩
  have hA := ha.run cpos pins s1 σ H1 _ I1 q1
  rw [hs] at hA ⊢
  refine Calls.callWith_builtin (by show (false || (backTo cpos (starEach es X.env)).any (·.1)) = false; rw [hplain] <;> rfl) (Calls.evalArgs_plain ?_)
  exact thn hA fun us s2 ⟨vs, H2, I2, r2, q2⟩ => hm pins s2 σ H2 (.ref p) vs (.ref p) us Q I2 rfl r2 q2
def rCntT (K : PySem.W.Frag) : V → List V → Hp → VK → Prop := fun x xs H Q => ∃ (p : Addr) (ns : List Int) (k : Int), x = .ref p ∧ xs = [.int k] ∧ SqT K H p (ns.map V.int) ∧ Q (.int (ns.count k : Nat)) H
theorem mt_tcount : MtR X "tuple.count" (rCntT X.K) := by
  intro pins s σ H x xs v us Q I rx rxs h
  obtain ⟨p, ns, k, rfl, rfl, hs, q⟩ := h
  cases rx
  obtain ⟨u, rfl, ru⟩ := vals1 rxs
  obtain ⟨t, rfl⟩ := ru
  obtain ⟨its, rv, ⟨⟨cls, dd, data, sl⟩, ho, hc, n, hd⟩, hlen⟩ := I.tuple hs
  simp only at hc hd
  subst hc hd
  have hi := ints_of_vals rv
  refine call_meets PySem.F.slot_tuple_count ⟨_, ho, rfl⟩ PySem.F.entry_tuple_count (PySem.F.args_tuple_count_2 _ _)
    (SeqAt.tuple_countAt p its.toArray n dd sl (.int k t) (eqk k)) ⟨ho, fun y hy => (eqk_gives hi y (by simpa using hy)).at _ _, ?_⟩
  have ec : its.toArray.toList.countP (eqk k) = ns.count k := eqk_count hi
  refine ⟨.int (ns.count k : Nat), H, I.tok _, ⟨s.toks, ?_⟩, q⟩
  show Value.int ((its.toArray.toList.countP (eqk k) : Nat) : Int) s.toks = Value.int ((ns.count k : Nat) : Int) s.toks
  rw [ec]
end
/-! ### data: lists and tuples of ints compared -/
theorem dp_ints {K : PySem.W.Frag} {H : Hp} : ∀ ns : List Int, DpAll K H (ns.map V.int) (ns.map PyData.int)
  | [] => .nil
  | n :: ns => .cons (.int n) (dp_ints ns)
theorem eqv_ints : ∀ ns ms : List Int, PyData.eqvAll (ns.map PyData.int) (ms.map PyData.int) = decide (ns = ms)
  | [], [] => rfl
  | [], m :: ms => by rw [decide_eq_false (by simp)]; rfl
  | n :: ns, [] => by rw [decide_eq_false (by simp)]; rfl
  | n :: ns, m :: ms => by
    show (n == m && PyData.eqvAll (ns.map PyData.int) (ms.map PyData.int)) = decide (n :: ns = m :: ms)
    rw [eqv_ints ns ms]
    by_cases h1 : n = m
    · by_cases h2 : ns = ms
      · rw [h1, h2]; simp
      · rw [h1]; simp [h2]
    · simp [h1]
theorem lay_ints : ∀ ns : List Int, PyData.canLayAll0 (ns.map PyData.int) = true
  | [] => by simp only [List.map_nil, PyData.canLayAll0]
  | n :: ns => by simp only [List.map_cons, PyData.canLayAll0, PyData.canLay0, lay_ints ns, Bool.and_self]
theorem deep_ints : ∀ ns : List Int, PyData.depthAll (ns.map PyData.int) = 0
  | [] => by simp only [List.map_nil, PyData.depthAll]
  | n :: ns => by simp only [List.map_cons, PyData.depthAll, PyData.depth, deep_ints ns, Nat.max_self]
theorem shaped_intsL (ns : List Int) : SeqAt.shaped (.list (ns.map PyData.int)) = true := by
  unfold SeqAt.shaped
  simp only [PyData.canLay0, lay_ints, PyData.depth, deep_ints]
  decide
theorem shaped_intsT (ns : List Int) : SeqAt.shaped (.tuple (ns.map PyData.int)) = true := by
  unfold SeqAt.shaped
  simp only [PyData.canLay0, lay_ints, PyData.depth, deep_ints]
  decide
section
variable {X : Cx}
def rEqIL (K : PySem.W.Frag) : R2 := fun x y H Q => ∃ (p q : Addr) (ns ms : List Int), x = .ref p ∧ y = .ref q ∧ SqL K H p (ns.map V.int) ∧ SqL K H q (ms.map V.int) ∧ Q (.bl (decide (ns = ms))) H
def rNeIL (K : PySem.W.Frag) : R2 := fun x y H Q => ∃ (p q : Addr) (ns ms : List Int), x = .ref p ∧ y = .ref q ∧ SqL K H p (ns.map V.int) ∧ SqL K H q (ms.map V.int) ∧ Q (.bl (!decide (ns = ms))) H
def rEqIT (K : PySem.W.Frag) : R2 := fun x y H Q => ∃ (p q : Addr) (ns ms : List Int), x = .ref p ∧ y = .ref q ∧ SqT K H p (ns.map V.int) ∧ SqT K H q (ms.map V.int) ∧ Q (.bl (decide (ns = ms))) H
def rNeIT (K : PySem.W.Frag) : R2 := fun x y H Q => ∃ (p q : Addr) (ns ms : List Int), x = .ref p ∧ y = .ref q ∧ SqT K H p (ns.map V.int) ∧ SqT K H q (ms.map V.int) ∧ Q (.bl (!decide (ns = ms))) H
theorem op_eqIL (hu : X.A.units + 64 < cLine) : OpR X (compareOp .Eq) (rEqIL X.K) := by
  intro pins s σ H x y v u Q I rx ry h
  obtain ⟨p, q, ns, ms, rfl, rfl, h1, h2, h3⟩ := h
  refine op_eqD hu pins s σ H _ _ v u Q I rx ry ⟨_, _, .lst h1 (dp_ints ns), .lst h2 (dp_ints ms), shaped_intsL ns, shaped_intsL ms, ?_⟩
  show Q (.bl (PyData.eqvAll (ns.map PyData.int) (ms.map PyData.int))) H
  rw [eqv_ints]
  exact h3
theorem op_neIL (hu : X.A.units + 64 < cLine) : OpR X (compareOp .NotEq) (rNeIL X.K) := by
  intro pins s σ H x y v u Q I rx ry h
  obtain ⟨p, q, ns, ms, rfl, rfl, h1, h2, h3⟩ := h
  refine op_neD hu pins s σ H _ _ v u Q I rx ry ⟨_, _, .lst h1 (dp_ints ns), .lst h2 (dp_ints ms), shaped_intsL ns, shaped_intsL ms, ?_⟩
  show Q (.bl (!PyData.eqvAll (ns.map PyData.int) (ms.map PyData.int))) H
  rw [eqv_ints]
  exact h3
theorem op_eqIT (hu : X.A.units + 64 < cLine) : OpR X (compareOp .Eq) (rEqIT X.K) := by
  intro pins s σ H x y v u Q I rx ry h
  obtain ⟨p, q, ns, ms, rfl, rfl, h1, h2, h3⟩ := h
  refine op_eqD hu pins s σ H _ _ v u Q I rx ry ⟨_, _, .tup h1 (dp_ints ns), .tup h2 (dp_ints ms), shaped_intsT ns, shaped_intsT ms, ?_⟩
  show Q (.bl (PyData.eqvAll (ns.map PyData.int) (ms.map PyData.int))) H
  rw [eqv_ints]
  exact h3
theorem op_neIT (hu : X.A.units + 64 < cLine) : OpR X (compareOp .NotEq) (rNeIT X.K) := by
  intro pins s σ H x y v u Q I rx ry h
  obtain ⟨p, q, ns, ms, rfl, rfl, h1, h2, h3⟩ := h
  refine op_neD hu pins s σ H _ _ v u Q I rx ry ⟨_, _, .tup h1 (dp_ints ns), .tup h2 (dp_ints ms), shaped_intsT ns, shaped_intsT ms, ?_⟩
  show Q (.bl (!PyData.eqvAll (ns.map PyData.int) (ms.map PyData.int))) H
  rw [eqv_ints]
  exact h3
end

section
variable {X : Cx}
def rRepS : R2 := fun x y H Q => ∃ l k xs, x = .ref l ∧ y = .int k ∧ H l = some (.lst xs) ∧ -(2 ^ 63) ≤ k ∧ k < 2 ^ 63 ∧ xs.length * k.toNat ≤ sizeLine ∧
  ∀ p H', H p = none → Same H H' → H' p = some (.lst (List.replicate k.toNat xs).flatten) → Q (.ref p) H'
theorem op_repS : OpR X (binaryOp .Mult) rRepS := by
  intro pins s σ H x y v u Q I rx ry h
  obtain ⟨l, k, xs, h1, h2, h3, h4, h5, h6, h7⟩ := h
  exact op_rep pins s σ H x y v u Q I rx ry ⟨l, k, xs, h1, h2, h3, h4, h5, h6, fun p hp => h7 p _ hp (Same.new hp) upd_same⟩
end
theorem flat1 {α : Type} (x : α) : ∀ n : Nat, (List.replicate n [x]).flatten = List.replicate n x
  | 0 => rfl
  | n + 1 => by rw [List.replicate_succ, List.flatten_cons, flat1 x n, List.replicate_succ]; rfl
def tLstRgS (te : L2.St → Hp → (Int → Int → Hp → Prop) → Prop) : TE := fun σ H Q => te σ H fun a b H1 => RgOk a b ∧ ∀ q H', H1 q = none → Same H1 H' → H' q = some (.lst (rgV a b)) → Q (.ref q) H'
/-- is_integer's answer -/
def isIntV : V → Bool
  | .int _ => true
  | _ => false
/-- the attributes of a new object: what an __init__ leaves -/
theorem sz_of {n : Nat} (h : n ≤ 100000) : n ≤ sizeLine := Nat.le_trans h (by decide)
theorem sz_lt {n : Nat} (h : n < 100000) : n < sizeLine := Nat.lt_of_lt_of_le h (by decide)

theorem atI_some {α : Type} {rs : List α} {i : Int} (h1 : -(rs.length : Int) ≤ i) (h2 : i < rs.length) : ∃ v, v ∈ rs ∧ atI rs i = some v := by
  unfold atI ixN
  by_cases h0 : 0 ≤ i
  · rw [if_pos h0, if_pos h2]
    have hj : i.toNat < rs.length := by omega
    exact ⟨rs[i.toNat], List.getElem_mem hj, by show rs[i.toNat]? = _; exact List.getElem?_eq_getElem hj⟩
  · rw [if_neg h0, if_pos h1]
    have hj : ((rs.length : Int) + i).toNat < rs.length := by omega
    refine ⟨rs[((rs.length : Int) + i).toNat], List.getElem_mem hj, ?_⟩
    first
      | exact List.getElem?_eq_getElem hj
      | (show rs[(i + rs.length).toNat]? = _; rw [Int.add_comm]; exact List.getElem?_eq_getElem hj)
theorem cutV_tail (x : V) (xs : List V) : cutV (x :: xs) (some 1) none = xs := by
  unfold cutV
  have e : HT.sIx (x :: xs).length 0 (some 1) = 1 := by
    unfold HT.sIx
    simp
  have e2 : HT.sIx (x :: xs).length (x :: xs).length none = (x :: xs).length := rfl
  rw [e, e2, List.drop_one, List.tail_cons, List.length_cons, Nat.add_sub_cancel, List.take_length]
/-- a rule's own words: the promise of a def without defaults -/
abbrev rawS (sp : Sp) : Sp := fun vs H Q E => sp (vs ++ []) H Q E
end Lf

set_option Elab.async false
set_option linter.all false
set_option maxRecDepth 100000
set_option maxHeartbeats 4000000
/-! Comprehensions over a tuple or a list that only add objects: each item told by a function. -/
namespace Lf
open PySem PySem.Spec PyProof.Rows L2
/-- what one turn does: F tells what is added, if anything -/
def Turn1 (g : TG) (tt : TT) (te : TE) (vs : List Nat) (σ : L2.St) (H1 : Hp) (x : V) (r : Option V) : Prop :=
  ∀ (H' : Hp) (N : Option V → Hp → Prop), Same H1 H' → (∀ H4, Same H' H4 → N r H4) →
    g x (wipe σ vs) H' fun σ2 H2 => wipe σ2 vs = wipe σ vs ∧ tt σ2 H2 fun b H3 => if b = true then te σ2 H3 fun y H4 => N (some y) H4 else N none H3
theorem lc_tupF {K : PySem.W.Frag} {a : Addr} {xs : List V} {g : TG} {tt : TT} {te : TE} {vs : List Nat} {σ : L2.St} {H1 : Hp} {D : Addr} {Qd : Hp → Prop} (F : V → Option V) (nD : H1 D = none) (hz : xs.length < 100000)
    (hl : ∀ H', Same H1 H' → SqT K H' a xs) (hs : ∀ x ∈ xs, Turn1 g tt te vs σ H1 x (F x)) (hd : ∀ H', Same H1 H' → H' D = some (.lst (xs.filterMap F)) → Qd H') :
    ∃ W : Nat → Nat → Hp → Prop, (∃ m, W 0 m (upd H1 D (.lst []))) ∧ ∀ i m H, W i m H →
      ((Itt K a).stop i H ∧ Qd H) ∨ ((Itt K a).go i H ∧ ∃ Nx : Hp → Prop, (∀ H', Nx H' → ∃ m', m' < m ∧ W (i + 1) m' H') ∧ ∀ x H', (Itt K a).yld i H x H' → g x (wipe σ vs) H' fun σ2 H2 => wipe σ2 vs = wipe σ vs ∧ tt σ2 H2 fun b H3 =>
        if b = true then te σ2 H3 fun y H4 => ∃ acc, H4 D = some (.lst acc) ∧ acc.length < sizeLine ∧ Nx (upd H4 D (.lst (acc ++ [y]))) else Nx H3) := by
  refine lc_tup (K := K) (a := a) (xs := xs) (fun i H' => Same H1 H' ∧ H' D = some (.lst ((xs.take i).filterMap F))) ⟨Same.new nD, upd_same⟩ (fun i H' _ z => hl H' z.1) ?_ ?_
  · rintro i x H' hx ⟨s1, hD⟩
    have tk : (xs.take (i + 1)).filterMap F = (xs.take i).filterMap F ++ (F x).toList := by
      rw [List.take_add_one, hx, Option.toList_some, List.filterMap_append]
      cases e : F x <;> simp [e]
    have z := hs x (List.mem_of_getElem? hx) H' (fun r H4 => match r with
      | some y => ∃ acc, H4 D = some (.lst acc) ∧ acc.length < sizeLine ∧ (Same H1 (upd H4 D (.lst (acc ++ [y]))) ∧ upd H4 D (.lst (acc ++ [y])) D = some (.lst ((xs.take (i + 1)).filterMap F)))
      | none => Same H1 H4 ∧ H4 D = some (.lst ((xs.take (i + 1)).filterMap F))) s1 fun H4 s4 => ?_
    · exact z
    · cases e : F x with
      | none =>
        rw [e] at tk
        refine ⟨s1.trans s4, ?_⟩
        rw [tk, Option.toList_none, List.append_nil]
        exact s4 _ _ hD
      | some y =>
        rw [e] at tk
        refine ⟨_, s4 _ _ hD, ?_, fun q o h => ?_, ?_⟩
        · refine Nat.lt_of_lt_of_le ?_ (show 100000 ≤ sizeLine by decide)
          refine Nat.lt_of_le_of_lt (List.length_filterMap_le ..) (Nat.lt_of_le_of_lt ?_ hz)
          rw [List.length_take]
          exact Nat.min_le_right ..
        · rw [upd_ne (ne_of_none h nD)]
          exact s4 _ _ (s1 _ _ h)
        · rw [upd_same, tk]
          rfl
  · rintro H' ⟨s1, hD⟩
    rw [List.take_length] at hD
    exact hd H' s1 hD
theorem lc_listF {K : PySem.W.Frag} {a : Addr} {xs : List V} {g : TG} {tt : TT} {te : TE} {vs : List Nat} {σ : L2.St} {H1 : Hp} {D : Addr} {Qd : Hp → Prop} (F : V → Option V) (nD : H1 D = none) (hz : xs.length < 100000)
    (hl : ∀ H', Same H1 H' → SqL K H' a xs) (hs : ∀ x ∈ xs, Turn1 g tt te vs σ H1 x (F x)) (hd : ∀ H', Same H1 H' → H' D = some (.lst (xs.filterMap F)) → Qd H') :
    ∃ W : Nat → Nat → Hp → Prop, (∃ m, W 0 m (upd H1 D (.lst []))) ∧ ∀ i m H, W i m H →
      ((Itl K a).stop i H ∧ Qd H) ∨ ((Itl K a).go i H ∧ ∃ Nx : Hp → Prop, (∀ H', Nx H' → ∃ m', m' < m ∧ W (i + 1) m' H') ∧ ∀ x H', (Itl K a).yld i H x H' → g x (wipe σ vs) H' fun σ2 H2 => wipe σ2 vs = wipe σ vs ∧ tt σ2 H2 fun b H3 =>
        if b = true then te σ2 H3 fun y H4 => ∃ acc, H4 D = some (.lst acc) ∧ acc.length < sizeLine ∧ Nx (upd H4 D (.lst (acc ++ [y]))) else Nx H3) := by
  refine lc_list (K := K) (a := a) (xs := xs) (fun i H' => Same H1 H' ∧ H' D = some (.lst ((xs.take i).filterMap F))) ⟨Same.new nD, upd_same⟩ (fun i H' _ z => hl H' z.1) ?_ ?_
  · rintro i x H' hx ⟨s1, hD⟩
    have tk : (xs.take (i + 1)).filterMap F = (xs.take i).filterMap F ++ (F x).toList := by
      rw [List.take_add_one, hx, Option.toList_some, List.filterMap_append]
      cases e : F x <;> simp [e]
    have z := hs x (List.mem_of_getElem? hx) H' (fun r H4 => match r with
      | some y => ∃ acc, H4 D = some (.lst acc) ∧ acc.length < sizeLine ∧ (Same H1 (upd H4 D (.lst (acc ++ [y]))) ∧ upd H4 D (.lst (acc ++ [y])) D = some (.lst ((xs.take (i + 1)).filterMap F)))
      | none => Same H1 H4 ∧ H4 D = some (.lst ((xs.take (i + 1)).filterMap F))) s1 fun H4 s4 => ?_
    · exact z
    · cases e : F x with
      | none =>
        rw [e] at tk
        refine ⟨s1.trans s4, ?_⟩
        rw [tk, Option.toList_none, List.append_nil]
        exact s4 _ _ hD
      | some y =>
        rw [e] at tk
        refine ⟨_, s4 _ _ hD, ?_, fun q o h => ?_, ?_⟩
        · refine Nat.lt_of_lt_of_le ?_ (show 100000 ≤ sizeLine by decide)
          refine Nat.lt_of_le_of_lt (List.length_filterMap_le ..) (Nat.lt_of_le_of_lt ?_ hz)
          rw [List.length_take]
          exact Nat.min_le_right ..
        · rw [upd_ne (ne_of_none h nD)]
          exact s4 _ _ (s1 _ _ h)
        · rw [upd_same, tk]
          rfl
  · rintro H' ⟨s1, hD⟩
    rw [List.take_length] at hD
    exact hd H' s1 hD
/-- t + u of tuples -/
def rCatTS (K : PySem.W.Frag) : R2 := fun x y H Q => ∃ a b xs ys, x = .ref a ∧ y = .ref b ∧ SqT K H a xs ∧ SqT K H b ys ∧ xs.length + ys.length ≤ sizeLine ∧ ∀ p H', Same H H' → SqT K H' p (xs ++ ys) → Q (.ref p) H'
theorem op_catTS {X : Cx} : OpR X (binaryOp .Add) (rCatTS X.K) := by
  intro pins s σ H x y v u Q I rx ry h
  obtain ⟨a, b, xs, ys, h1, h2, h3, h4, h5, h6⟩ := h
  refine op_catA pins s σ H x y v u Q I rx ry ⟨a, b, xs, ys, h1, h2, h3, h4, h5, fun e => ?_, fun _ e => ?_, fun _ _ p hp => ?_⟩
  · exact h6 b H (Same.refl _) (by rw [e, List.nil_append]; exact h4)
  · exact h6 a H (Same.refl _) (by rw [e, List.append_nil]; exact h3)
  · exact h6 p _ (Same.new hp) (SqT.of upd_same)
/-- items told one for one -/
theorem fm_all {xs : List V} {F : V → V} : xs.filterMap (fun x => some (F x)) = xs.map F := by
  induction xs with
  | nil => rfl
  | cons x xs ih => rw [List.filterMap_cons, List.map_cons, ih]
def intF (p : Int → Bool) : V → Option V
  | .int c => if p c then some (.int c) else none
  | _ => none
theorem fm_ints (p : Int → Bool) : ∀ ns : List Int, (ns.map V.int).filterMap (intF p) = (ns.filter p).map V.int
  | [] => rfl
  | c :: ns => by
    rw [List.map_cons, List.filterMap_cons, List.filter_cons]
    have e : intF p (.int c) = if p c then some (.int c) else none := rfl
    rw [e]
    cases h : p c
    · simp [fm_ints p ns]
    · simp [fm_ints p ns]
end Lf

set_option Elab.async false
set_option linter.all false
set_option maxRecDepth 100000
set_option maxHeartbeats 4000000
/-! x.rpartition(y); what stands above a path. -/
namespace Lf
open PySem PySem.Spec PyProof.Rows L2
def rRpart : V → List V → Hp → VK → Prop := fun x xs H Q => ∃ a b, x = .str a ∧ xs = [.str b] ∧ (b.length == 0) = false ∧ a.length ≤ sizeLine ∧
  ∀ p H', H p = none → Same H H' → H' p = some (.tup [.str (Txt.rpartition a b).1, .str (Txt.rpartition a b).2.1, .str (Txt.rpartition a b).2.2]) → Q (.ref p) H'
theorem mt_rpart {X : Cx} : MtR X "str.rpartition" rRpart := by
  intro pins s σ H x xs v us Q I rx rs h
  obtain ⟨a, b, rfl, rfl, hb, hz, h⟩ := h
  obtain ⟨t, rfl⟩ := rx
  cases rs with
  | cons r1 rs =>
    cases rs
    obtain ⟨u, rfl⟩ := r1
    have h' : ∀ p, H p = none → Q (.ref p) (upd H p (.tup [.str (Txt.rpartition a b).1, .str (Txt.rpartition a b).2.1, .str (Txt.rpartition a b).2.2])) := fun p hp => h p _ hp (Same.new hp) upd_same
    refine call_meets F.slot_str_rpartition (typeIs_str _ _ _) F.entry_str_rpartition (F.args_str_rpartition_2 _ _) (meets_str_rpartition a b t u hb hz) ?_
    unfold Txt.rpartition at h'
    revert h'
    cases Builtin.Str.lastOccurrence a b 0 a.length with
    | none => intro h'; exact laid_parts I h'
    | some i => intro h'; exact laid_parts I h'
theorem pe_rpart {X : Cx} {o e : Expr} {to te : TE} {apos pos : Pos} (ho : PE X o to) (he : PE X e te) (hs : starEach [e] X.env = [(false, eval e X.env)] := by rfl) (hbase : attributeBase o "rpartition" X.env (eval o X.env) = eval o X.env := by rfl) (hline : (apos.endLine == pos.line) = true := by rfl) :
    PE X (.Call (.Attribute o "rpartition" apos) [e] [] pos) (tM1 rRpart to te) := pe_m1 F.slot_str_rpartition F.type_str_rpartition mt_rpart ho he hs hbase hline
/-- the path above a path -/
def above (p : Str) : Str := (Txt.rpartition p "_").1
theorem us_eq : (Str.ofString "_") = (⟨#[95]⟩ : Str) := by decide +kernel
theorem above_plain {w : Str} (hw : 95 ∉ TL.tl w) : above w = "" := by
  unfold above Txt.rpartition
  rcases StrLaws.last_spec w "_" with ⟨e, _⟩ | ⟨i, e, hi, _⟩
  · rw [e]
    rfl
  · exfalso
    have h : w.cps.toList[i]? = some 95 := (StrLaws.subAt_one w 95 i).mp (by rw [← us_eq]; exact hi)
    exact hw (List.mem_of_getElem? h)
theorem rpart_join {u w : Str} (hw : 95 ∉ TL.tl w) : (Txt.rpartition (u ++ "_" ++ w) "_").1 = u ∧ (Txt.rpartition (u ++ "_" ++ w) "_").2.2 = w := by
  have ex : TL.tl (u ++ "_" ++ w) = TL.tl u ++ (95 :: TL.tl w) := by
    rw [TL.tl_append, TL.tl_append, us_eq, List.append_assoc]
    rfl
  have at_ : ∀ i, StrLaws.At (u ++ "_" ++ w) "_" (u ++ "_" ++ w).length i ↔ (TL.tl u ++ (95 :: TL.tl w))[i]? = some 95 := fun i => by
    rw [← ex]
    have := StrLaws.subAt_one (u ++ "_" ++ w) 95 i
    rw [← us_eq] at this
    exact this
  have lu : (TL.tl u).length = u.length := (TL.len_tl u).symm
  have here : StrLaws.At (u ++ "_" ++ w) "_" (u ++ "_" ++ w).length (TL.tl u).length := (at_ _).mpr (by rw [List.getElem?_append_right (Nat.le_refl _), Nat.sub_self]; rfl)
  have none_ : ∀ k, (TL.tl u).length < k → ¬ StrLaws.At (u ++ "_" ++ w) "_" (u ++ "_" ++ w).length k := fun k hk z => by
    have z' := (at_ k).mp z
    rw [List.getElem?_append_right (by omega)] at z'
    obtain ⟨j, hj⟩ : ∃ j, k - (TL.tl u).length = j + 1 := ⟨k - (TL.tl u).length - 1, by omega⟩
    rw [hj, List.getElem?_cons_succ] at z'
    exact hw (List.mem_of_getElem? z')
  have e0 : (Txt.rpartition (u ++ "_" ++ w) "_").1 = Builtin.Str.strSub (u ++ "_" ++ w) 0 (TL.tl u).length ∧ (Txt.rpartition (u ++ "_" ++ w) "_").2.2 = Builtin.Str.strSub (u ++ "_" ++ w) ((TL.tl u).length + (Str.ofString "_").length) (u ++ "_" ++ w).length := by
    unfold Txt.rpartition
    rcases StrLaws.last_spec (u ++ "_" ++ w) "_" with ⟨e, hno⟩ | ⟨i, e, hi, hno⟩
    · exact absurd here (hno _)
    · rw [e]
      have : i = (TL.tl u).length := by
        rcases Nat.lt_trichotomy i (TL.tl u).length with h | h | h
        · exact absurd here (hno _ h)
        · exact h
        · exact absurd hi (none_ i h)
      rw [this]
      exact ⟨rfl, rfl⟩
  rw [e0.1, e0.2]
  refine ⟨TL.ext_tl ?_, TL.ext_tl ?_⟩
  rotate_left
  · have l1 : (Str.ofString "_").length = 1 := by decide +kernel
    have l2 : (u ++ "_" ++ w).length = (TL.tl u).length + (1 + (TL.tl w).length) := by rw [TL.len_tl, ex, List.length_append, List.length_cons, Nat.add_comm 1]
    show ((u ++ "_" ++ w).cps.extract ((TL.tl u).length + (Str.ofString "_").length) (u ++ "_" ++ w).length).toList = TL.tl w
    rw [Array.toList_extract, l1, l2]
    show (TL.tl (u ++ "_" ++ w)).extract ((TL.tl u).length + 1) _ = TL.tl w
    rw [ex]
    have d1 : (TL.tl u ++ 95 :: TL.tl w).drop ((TL.tl u).length + 1) = TL.tl w := by
      rw [← List.drop_drop, List.drop_left]
      rfl
    unfold List.extract
    rw [d1]
    exact List.take_of_length_le (by omega)
  show ((u ++ "_" ++ w).cps.extract 0 (TL.tl u).length).toList = TL.tl u
  rw [Array.toList_extract]
  show (TL.tl (u ++ "_" ++ w)).extract 0 (TL.tl u).length = TL.tl u
  rw [ex]
  simp [List.extract]
theorem above_join {u w : Str} (hw : 95 ∉ TL.tl w) : above (u ++ "_" ++ w) = u := (rpart_join hw).1
end Lf

set_option Elab.async false
set_option linter.all false
set_option maxRecDepth 100000
set_option maxHeartbeats 4000000
/-! Own errors with fields: made, raised, caught, asked; an instance made inside a try. -/
namespace Lf
open PySem PySem.Spec PyProof.Rows L2

/-- what an own error class says, one row -/
structure ErrC (K : PySem.W.Frag) (C : Addr) : Prop where
  ox : OexC K C
  ga : PySem.W.findIn K (.ref C) "__getattribute__" = some (some (.builtin "BaseException.__getattribute__"))
  gg : PySem.W.findIn K (.ref C) "__getattr__" = some none
  hd : PySem.W.hasDictIn K C = true
  ca : PySem.W.findIn K (.ref C) "__class__" = some (some (.builtin "object.__class__"))
  cn : PySem.W.specialIn K (.builtin "object.__class__") "__get__" = some (some (.builtin "getset_descriptor.__get__"))
  ct : PySem.W.takesIn K (.builtin "object.__class__") = some true
  cm : PySem.W.mroIn K C (.type "object") = some true
theorem ErrC.xf {K : PySem.W.Frag} {C : Addr} (T : ErrC K C) : XfC K C := ⟨T.ga, T.gg, T.ox.exC, T.hd⟩
theorem ErrC.isc {K : PySem.W.Frag} {C : Addr} (T : ErrC K C) : (PySem.W.clsIn K C).isSome = true := by
  obtain ⟨cd, hc, _⟩ := PySem.W.any_some T.hd
  rw [hc]
  rfl
/-- «except C» of an error of the class at D -/
theorem ErrC.ex {K : PySem.W.Frag} {C : Addr} {cls : Value} {b : Bool} (T : ErrC K C) (h : PySem.W.subIn K cls (.ref C) = some b) : PySem.W.exmOne K cls (.ref C) = some b := PySem.W.exm_ref T.ox.exC T.hd T.ox.tyC h
theorem sub_self {K : PySem.W.Frag} {C : Addr} (T : ErrC K C) : PySem.W.subIn K (.ref C) (.ref C) = some true := by
  obtain ⟨nm, q, N, bs, bm, sn, sub, ab, col, dd, k0, k1, k2, k3, k5, hC, hbm⟩ := T.ox.cls
  show PySem.W.mroIn K C (.ref C) = some true
  have hcl : PySem.W.clsIn K C = some { name := nm, bases := bs, mro := .ref C :: bm, ns := N, qualname := q, hasDict := true, slotNames := sn, subclasses := sub, abstract := ab, collection := col, hasDel := false } := by
    unfold PySem.W.clsIn
    rw [hC] <;> rfl
  unfold PySem.W.mroIn
  rw [hcl, Option.bind_some]
  simp
/-- isinstance(e, c), e the error that the suite holds -/
def rIsX (K : PySem.W.Frag) (a : Addr) (cls : Value) (d : Option Addr) : List V → Hp → VK → Prop := fun xs H Q => ∃ (D dd : Addr) (fs : List (Str × V)) (c : V) (cv : Value) (b : Bool), xs = [.ref a, c] ∧ cls = .ref D ∧ d = some dd ∧ H dd = some (.xd fs) ∧ ErrC K D ∧ (∀ u, RelV c u → u = cv) ∧ PySem.W.kitOne K (.ref D) cv = some b ∧ Q (.bl b) H
theorem call_isX {X : Cx} {a : Addr} {cls : Value} {d : Option Addr} {oe : Obj} {pn : List (Addr × Obj)} (hz : Zc cls d oe) (hf : ∃ vs, oe.data = .fields vs) : CallR (X.suite a ((a, oe) :: pn)) (.builtin "isinstance") (rIsX X.K a cls d) := by
  intro pins s σ H xs us Q I r h
  obtain ⟨D, dd, fs, c, cv, b, rfl, rfl, rfl, hdd, C, hcv, e, q⟩ := h
  cases r with
  | cons rx rr =>
    cases rr with
    | cons rt rr =>
      cases rr
      cases rx
      have ec := hcv _ rt
      subst ec
      obtain ⟨hget, _⟩ := I.pin (a, oe) (List.mem_append_left _ List.mem_cons_self)
      obtain ⟨vs, hv⟩ := hf
      have hx : ObjOk X.prog X.w H s.heap dd (.xd fs) := I.hok dd _ hdd
      obtain ⟨mA, hns, hr⟩ := hx
      obtain ⟨od, ho, hl⟩ := lookIn_ns hns
      have J : PySem.W.InstAt s.heap a oe D (some od) := ⟨hget, hz.1, by unfold PySem.W.notCls; rw [hv] <;> rfl, by rw [hz.2]; exact ho⟩
      exact PySem.W.kia_one (PySem.W.kitx_exc C.isc C.ga C.gg C.ox.exC C.ca C.cn C.ct C.cm) I.kIn J e (fun z => nomatch z) fun tk => ⟨.bl b, H, I.kept (t' := tk) fun _ _ z => z, rfl, q⟩

theorem kit_refs {K : PySem.W.Frag} {T L : Addr} {b : Bool} (hi : PySem.W.isClsIn K L = true) (ht : PySem.W.typeIn K (.ref L) = some (.type "type")) (hs : PySem.W.mroIn K T (.ref T) = some true) (h : PySem.W.mroIn K T (.ref L) = some b) : PySem.W.kitOne K (.ref T) (.ref L) = some b := by
  by_cases e : T = L
  · subst e
    rw [kit_own, ← hs, h]
  · unfold PySem.W.kitOne
    rw [if_neg (by show ¬ ((Value.ref T == Value.ref L) = true); exact fun q => e (Value.ref.inj (beq_iff_eq.mp q)))]
    show (if ((PySem.W.clsIn K L).isSome && PySem.W.typeIn K (.ref L) == some (.type "type")) = true then PySem.W.subIn K (.ref T) (.ref L) else none) = some b
    rw [if_pos (isc_mk hi ht)]
    exact h
theorem kit_refTyB {K : PySem.W.Frag} {C : Addr} {T : String} {b : Bool} (hm : PySem.W.kitMeta T = true) (h : PySem.W.mroIn K C (.type T) = some b) : PySem.W.kitOne K (.ref C) (.type T) = some b := by
  unfold PySem.W.kitOne
  rw [if_neg (by show ¬ ((Value.ref C == Value.type T) = true); exact fun q => nomatch (beq_iff_eq.mp q))]
  show (if PySem.W.kitMeta T = true then PySem.W.mroIn K C (.type T) else none) = some b
  rw [if_pos hm, h]
/-! ### making an instance where an error may be let out -/
def tMakeAt (C : Addr) (sp : Sp) (E : L2.St → XK) (t : TA) : TE := fun σ H Q => t σ H fun vs H1 => ∀ x dx, H1 x = Option.none → H1 dx = Option.none → dx ≠ x →
  sp (V.ref x :: vs) (upd (upd H1 dx (.own x)) x (.ins C dx [])) (fun v H2 => v = .non ∧ Q (.ref x) H2) (E σ)
section
variable {X : Cx} {CX : CXT} {k : Nat} {f C : Addr} {sp : Sp} {E : L2.St → XK} {x : Str} {e : Expr} {es : List Expr} {t : TA} {p pos : Pos}
theorem pe_makeAt (M : Mk X.K C f) (F : FnR X.prog X.w X.K X.mg X.base CX k f sp) (hr : Room (k + 1) X.A) (hg : Gl X x) (hm : X.mg x = some (.ref C)) (hx : ∀ σ, PassesAt CX X σ (E σ)) (ha : PA X (e :: es) t) (hdb : (x == ("__debug__" : Str)) = false := by decide)
    (he : starEach (e :: es) X.env = (false, eval e X.env) :: starEach es X.env := by rfl) (hpl : (backTo pos (starEach es X.env)).any (·.1) = false := by rfl) : PE X (.Call (.Name x p) (e :: es) [] pos) (tMakeAt C sp E t) := by
  refine ⟨fun pins s σ H Q I h => ?_⟩
  refine wpAny_Call_Name_kw (ld_glob I hg hm ?_ hdb)
  refine PySem.W.callWith_K (h₀ := X.base) I.ok.mod.kin M.kp (thn (ha.run pos pins s σ H _ I h) fun us s1 ⟨vs, H1, I1, r, q⟩ => ⟨I1.kIn, ?_⟩) he hpl
  have hq := q (s1.heap.objs.size + 1) s1.heap.objs.size (I1.hok.fresh (Nat.le_succ _)) (I1.hok.fresh (Nat.le_refl _)) (Nat.ne_of_lt (Nat.lt_succ_self _))
  have I2 := Inv.made (C := C) I1
  have r2 : Vals (V.ref (s1.heap.objs.size + 1) :: vs) (Value.ref (s1.heap.objs.size + 1) :: us) := .cons rfl r
  refine wpAny_call (make_map (f := f) I1.kIn M.makes M.init (beq_iff_eq.mp M.fn) (codeAny_mono (F _ X.stack _ _ (Value.ref (s1.heap.objs.size + 1) :: us) _ _ (E σ) (hr.make C us []) (I2.env0.make C us []) r2 hq) fun r s' hq' => ?_))
  cases r with
  | error e => exact hx σ pins _ _ e s' I2 hq'
  | ok fl =>
    cases fl with
    | ret u =>
      obtain ⟨v, H', I3, rv, ev, q3⟩ := I2.after hq'
      subst ev
      exact ⟨rv, ⟨V.ref (s1.heap.objs.size + 1), H', I3, rfl, q3⟩⟩
    | next => exact False.elim hq'
    | brk => exact False.elim hq'
    | cont => exact False.elim hq'
end
/-- the promise of an error's __init__ that sets one field -/
def spErr (C : Addr) (f : Str) : Sp := fun vs H Q _ => ∃ (e : Addr) (y : V), vs = [.ref e, y] ∧ H e = some (exo e C none) ∧ ∀ d, H d = none → d ≠ e → Q .non (upd (upd H d (exd d [(f, y)])) e (exo e C (some d)))
/-- what a raise of such an error leaves -/
theorem mkErr {C : Addr} {f : Str} {y : V} {H : Hp} {Q : XK} (h : ∀ d H', H d = none → Same H H' → H' d = some (.xd [(f, y)]) → Q (.ref C) (some d) H') (a : Addr) (na : H a = none) :
    spErr C f [.ref a, y] (upd H a (exo a C none)) (fun v H2 => v = .non ∧ ∃ (d : Addr) (fs : List (Str × V)), H2 a = some (exo a C (some d)) ∧ H2 d = some (exd d fs) ∧ H d = none ∧ Q (.ref C) (some d) (upd (del H2 a) d (.xd fs))) (fun _ _ _ => False) := by
  refine ⟨a, y, rfl, upd_same, fun d nd nda => ⟨rfl, d, [(f, y)], upd_same, ?_, ?_, ?_⟩⟩
  · rw [upd_ne nda, upd_same]
  · rw [upd_ne nda] at nd
    exact nd
  · have nd' : H d = none := by
      rw [upd_ne nda] at nd
      exact nd
    refine h d _ nd' (fun q o e => ?_) upd_same
    have n1 : q ≠ d := ne_of_none e nd'
    have n2 : q ≠ a := ne_of_none e na
    rw [upd_ne n1, del_ne n2, upd_ne n2, upd_ne n1, upd_ne n2]
    exact e
end Lf

set_option Elab.async false
set_option linter.all false
set_option maxRecDepth 100000
set_option maxHeartbeats 4000000
/-! Data in the heap: what stands and is not changed; expressions that only add objects, by the data they give. -/
namespace Lf
open PySem PySem.Spec PyProof.Rows L2
abbrev RH := Addr → HO → Prop
inductive D where
  | non
  | bl (b : Bool)
  | int (i : Int)
  | str (s : Str)
  | lst (ds : List D)
  | tup (ds : List D)
  | ob (C : Addr) (ns : List Str) (ds : List D)
  | dk (ks : List Key) (ds : List D)
  | rf (a : Addr)
  | ty (n : String)
/-- a tuple to be read: by R, or written -/
def TpR (K : PySem.W.Frag) (R : RH) (a : Addr) (vs : List V) : Prop := R a (.tup vs) ∨ (∃ o, R a (.frz o (.tup vs))) ∨
  ∃ (o : Obj) (its : Array Value) (n : Nat), K.lookup a = some o ∧ o.cls = .type "tuple" ∧ o.data = .seq its n ∧ its.size ≤ sizeLine ∧ Vals vs its.toList
mutual
def rD (K : PySem.W.Frag) (R : RH) : D → V → Prop
  | .non, v => v = .non
  | .bl b, v => v = .bl b
  | .int i, v => v = .int i
  | .str s, v => v = .str s
  | .lst ds, v => ∃ a vs, v = .ref a ∧ R a (.lst vs) ∧ rDs K R ds vs
  | .tup ds, v => ∃ a vs, v = .ref a ∧ TpR K R a vs ∧ rDs K R ds vs
  | .ob C ns ds, v => ∃ a dx fs, v = .ref a ∧ R a (.ins C dx fs) ∧ fs.map Prod.fst = ns ∧ rDs K R ds (fs.map Prod.snd)
  | .dk ks ds, v => ∃ a o kvs, v = .ref a ∧ R a (.frz o (.dK kvs)) ∧ kvs.map Prod.fst = ks ∧ rDs K R ds (kvs.map Prod.snd)
  | .rf a, v => v = .ref a
  | .ty n, v => v = .ty n
def rDs (K : PySem.W.Frag) (R : RH) : List D → List V → Prop
  | [], vs => vs = []
  | d :: ds, vs => ∃ v ws, vs = v :: ws ∧ rD K R d v ∧ rDs K R ds ws
end
theorem TpR.mono {K : PySem.W.Frag} {R R' : RH} (h : ∀ q o, R q o → R' q o) {a : Addr} {vs : List V} (z : TpR K R a vs) : TpR K R' a vs := by
  rcases z with z | ⟨o, z⟩ | z
  · exact .inl (h _ _ z)
  · exact .inr (.inl ⟨o, h _ _ z⟩)
  · exact .inr (.inr z)
mutual
theorem rD.mono {K : PySem.W.Frag} {R R' : RH} (h : ∀ q o, R q o → R' q o) : ∀ (d : D) (v : V), rD K R d v → rD K R' d v
  | .non, v, z => z
  | .bl b, v, z => z
  | .int i, v, z => z
  | .str s, v, z => z
  | .lst ds, v, z => by
    obtain ⟨a, vs, h1, h2, h3⟩ := z
    exact ⟨a, vs, h1, h _ _ h2, rDs.mono h ds vs h3⟩
  | .tup ds, v, z => by
    obtain ⟨a, vs, h1, h2, h3⟩ := z
    exact ⟨a, vs, h1, h2.mono h, rDs.mono h ds vs h3⟩
  | .ob C ns ds, v, z => by
    obtain ⟨a, dx, fs, h1, h2, h3, h4⟩ := z
    exact ⟨a, dx, fs, h1, h _ _ h2, h3, rDs.mono h ds _ h4⟩
  | .dk ks ds, v, z => by
    obtain ⟨a, o, kvs, h1, h2, h3, h4⟩ := z
    exact ⟨a, o, kvs, h1, h _ _ h2, h3, rDs.mono h ds _ h4⟩
  | .rf a, v, z => z
  | .ty n, v, z => z
theorem rDs.mono {K : PySem.W.Frag} {R R' : RH} (h : ∀ q o, R q o → R' q o) : ∀ (ds : List D) (vs : List V), rDs K R ds vs → rDs K R' ds vs
  | [], vs, z => z
  | d :: ds, vs, z => by
    obtain ⟨v, ws, h1, h2, h3⟩ := z
    exact ⟨v, ws, h1, rD.mono h d v h2, rDs.mono h ds ws h3⟩
end
section
variable {K : PySem.W.Frag} {R R' : RH}
theorem rDs.len : ∀ {ds : List D} {vs : List V}, rDs K R ds vs → vs.length = ds.length
  | [], vs, z => by cases (show vs = [] from z); rfl
  | d :: ds, vs, z => by
    obtain ⟨v, ws, rfl, _, h3⟩ := z
    rw [List.length_cons, List.length_cons, rDs.len h3]
theorem rDs.get : ∀ {ds : List D} {vs : List V} {i : Nat} {v : V}, rDs K R ds vs → vs[i]? = some v → ∃ d, ds[i]? = some d ∧ rD K R d v
  | [], vs, i, v, z, e => by cases (show vs = [] from z); simp at e
  | d :: ds, vs, 0, v, z, e => by
    obtain ⟨w, ws, rfl, h2, h3⟩ := z
    cases e
    exact ⟨d, rfl, h2⟩
  | d :: ds, vs, i + 1, v, z, e => by
    obtain ⟨w, ws, rfl, h2, h3⟩ := z
    exact rDs.get (i := i) h3 (by simpa using e)
theorem rDs.at : ∀ {ds : List D} {vs : List V} {i : Nat} {d : D}, rDs K R ds vs → ds[i]? = some d → ∃ v, vs[i]? = some v ∧ rD K R d v
  | [], vs, i, v, z, e => by simp at e
  | d :: ds, vs, 0, d', z, e => by
    obtain ⟨w, ws, rfl, h2, h3⟩ := z
    cases e
    exact ⟨w, rfl, h2⟩
  | d :: ds, vs, i + 1, d', z, e => by
    obtain ⟨w, ws, rfl, h2, h3⟩ := z
    exact rDs.at (i := i) h3 (by simpa using e)
theorem rDs.append : ∀ {ds es : List D} {vs ws : List V}, rDs K R ds vs → rDs K R es ws → rDs K R (ds ++ es) (vs ++ ws)
  | [], es, vs, ws, z, y => by cases (show vs = [] from z); exact y
  | d :: ds, es, vs, ws, z, y => by
    obtain ⟨v, us, rfl, h2, h3⟩ := z
    exact ⟨v, us ++ ws, rfl, h2, rDs.append h3 y⟩
theorem rDs.one {d : D} {v : V} (h : rD K R d v) : rDs K R [d] [v] := ⟨v, [], rfl, h, rfl⟩
theorem rDs.drop : ∀ (n : Nat) {ds : List D} {vs : List V}, rDs K R ds vs → rDs K R (ds.drop n) (vs.drop n)
  | 0, _, _, z => z
  | n + 1, [], vs, z => by cases (show vs = [] from z); exact rfl
  | n + 1, d :: ds, vs, z => by
    obtain ⟨v, us, rfl, h2, h3⟩ := z
    exact rDs.drop n h3
theorem rDs.take : ∀ (n : Nat) {ds : List D} {vs : List V}, rDs K R ds vs → rDs K R (ds.take n) (vs.take n)
  | 0, _, _, z => rfl
  | n + 1, [], vs, z => by cases (show vs = [] from z); exact rfl
  | n + 1, d :: ds, vs, z => by
    obtain ⟨v, us, rfl, h2, h3⟩ := z
    exact ⟨v, _, rfl, h2, rDs.take n h3⟩
theorem rDs.set : ∀ {ds : List D} {vs : List V} {i : Nat} {d : D} {v : V}, rDs K R ds vs → rD K R d v → rDs K R (ds.set i d) (vs.set i v)
  | [], vs, i, d, v, z, _ => by cases (show vs = [] from z); exact rfl
  | e :: ds, vs, 0, d, v, z, y => by
    obtain ⟨w, us, rfl, h2, h3⟩ := z
    exact ⟨v, us, rfl, y, h3⟩
  | e :: ds, vs, i + 1, d, v, z, y => by
    obtain ⟨w, us, rfl, h2, h3⟩ := z
    exact ⟨w, _, rfl, h2, rDs.set h3 y⟩
theorem rDs.atI {ds : List D} {vs : List V} {i : Int} {d : D} (z : rDs K R ds vs) (e : L2.atI ds i = some d) : ∃ v, L2.atI vs i = some v ∧ rD K R d v := by
  unfold L2.atI at e ⊢
  rw [z.len]
  cases h : ixN ds.length i with
  | none => rw [h] at e; cases e
  | some j =>
    rw [h] at e
    exact z.at e
theorem rDs.rep {ds : List D} {vs : List V} (z : rDs K R ds vs) : ∀ n : Nat, rDs K R (List.replicate n ds).flatten (List.replicate n vs).flatten
  | 0 => rfl
  | n + 1 => by rw [List.replicate_succ, List.flatten_cons, List.replicate_succ, List.flatten_cons]; exact z.append (z.rep n)
theorem rDs.strs {xs : List Str} {vs : List V} (z : rDs K R (xs.map D.str) vs) : vs = xs.map V.str := by
  induction xs generalizing vs with
  | nil => exact z
  | cons x xs ih =>
    obtain ⟨v, ws, rfl, h2, h3⟩ := z
    rw [ih h3, List.map_cons, show v = .str x from h2]
theorem rDs.ints {xs : List Int} {vs : List V} (z : rDs K R (xs.map D.int) vs) : vs = xs.map V.int := by
  induction xs generalizing vs with
  | nil => exact z
  | cons x xs ih =>
    obtain ⟨v, ws, rfl, h2, h3⟩ := z
    rw [ih h3, List.map_cons, show v = .int x from h2]
theorem rDs.bls {xs : List Bool} {vs : List V} (z : rDs K R (xs.map D.bl) vs) : vs = xs.map V.bl := by
  induction xs generalizing vs with
  | nil => exact z
  | cons x xs ih =>
    obtain ⟨v, ws, rfl, h2, h3⟩ := z
    rw [ih h3, List.map_cons, show v = .bl x from h2]
theorem rDs.of_strs : ∀ xs : List Str, rDs K R (xs.map D.str) (xs.map V.str)
  | [] => rfl
  | x :: xs => ⟨_, _, rfl, rfl, rDs.of_strs xs⟩
end
/-! ### the world: what may change stands and is told by M -/
def Fx (M : Addr → Prop) (H : Hp) : RH := fun q o => H q = some o ∧ ¬ M q
def Wd (M : Addr → Prop) (H : Hp) : Prop := ∀ q, M q → H q ≠ none
section
variable {M : Addr → Prop} {H H' : Hp} {K : PySem.W.Frag}
theorem Fx.same (s : Same H H') : ∀ q o, Fx M H q o → Fx M H' q o := fun q o h => ⟨s q o h.1, h.2⟩
theorem Wd.same (w : Wd M H) (s : Same H H') : Wd M H' := fun q hq => by
  cases e : H q with
  | none => exact absurd e (w q hq)
  | some o => rw [s q o e]; exact fun z => nomatch z
theorem Wd.free (w : Wd M H) {p : Addr} (n : H p = none) : ¬ M p := fun h => w p h n
theorem Wd.new (w : Wd M H) {p : Addr} {o : HO} (n : H p = none) (h : H' p = some o) : Fx M H' p o := ⟨h, w.free n⟩
theorem rD.same {d : D} {v : V} (h : rD K (Fx M H) d v) (s : Same H H') : rD K (Fx M H') d v := rD.mono (Fx.same s) d v h
theorem rDs.same {d : List D} {v : List V} (h : rDs K (Fx M H) d v) (s : Same H H') : rDs K (Fx M H') d v := rDs.mono (Fx.same s) d v h
theorem TpR.sq {a : Addr} {vs : List V} (h : TpR K (Fx M H) a vs) : SqT K H a vs := by
  rcases h with h | ⟨o, h⟩ | h
  · exact .inl (.inl h.1)
  · exact .inl (.inr ⟨o, h.1⟩)
  · exact .inr h
end
/-- more may change: new objects alone; what stood stands -/
structure Ex (M M' : Addr → Prop) (H H' : Hp) : Prop where
  s : Same H H'
  u : ∀ q, M q → M' q
  n : ∀ q, M' q → M q ∨ H q = none
/-- what is told by R stays told -/
def Lx (M M' : Addr → Prop) (H H' : Hp) : Prop := ∀ q o, Fx M H q o → Fx M' H' q o
section
variable {M M1 M2 : Addr → Prop} {H H1 H2 : Hp} {K : PySem.W.Frag}
theorem Ex.refl : Ex M M H H := ⟨Same.refl _, fun _ h => h, fun _ h => .inl h⟩
theorem Ex.same (s : Same H H1) : Ex M M H H1 := ⟨s, fun _ h => h, fun _ h => .inl h⟩
theorem Ex.trans (a : Ex M M1 H H1) (b : Ex M1 M2 H1 H2) : Ex M M2 H H2 := ⟨a.s.trans b.s, fun q h => b.u q (a.u q h), fun q h => by
  rcases b.n q h with h | h
  · exact a.n q h
  · exact .inr (a.s.free h)⟩
theorem Ex.lx (a : Ex M M1 H H1) : Lx M M1 H H1 := fun q o h => ⟨a.s q o h.1, fun z => by
  rcases a.n q z with z | z
  · exact h.2 z
  · rw [h.1] at z; cases z⟩
theorem Ex.sm (a : Ex M M1 H H1) (b : Same H1 H2) : Ex M M1 H H2 := a.trans (Ex.same b)
theorem Lx.refl : Lx M M H H := fun _ _ h => h
theorem Lx.trans (a : Lx M M1 H H1) (b : Lx M1 M2 H1 H2) : Lx M M2 H H2 := fun q o h => b q o (a q o h)
theorem Lx.same (s : Same H H1) : Lx M M H H1 := Fx.same s
/-- one more object that may change -/
def adM (M : Addr → Prop) (L : Addr) : Addr → Prop := fun q => M q ∨ q = L
theorem Ex.add {L : Addr} (s : Same H H1) (n : H L = none) : Ex M (adM M L) H H1 := ⟨s, fun _ h => .inl h, fun q h => by
  rcases h with h | rfl
  · exact .inl h
  · exact .inr n⟩
theorem Lx.del {L : Addr} : Lx (adM M L) M H H := fun q o h => ⟨h.1, fun z => h.2 (.inl z)⟩
/-- a store in what may change -/
theorem Lx.upd {L : Addr} {o : HO} (h : M L) : Lx M M H (L2.upd H L o) := fun q u z => by
  have n : q ≠ L := fun e => z.2 (by rw [e]; exact h)
  exact ⟨by rw [upd_ne n]; exact z.1, z.2⟩
theorem Wd.upd {L : Addr} {o : HO} (w : Wd M H) : Wd M (L2.upd H L o) := fun q hq => by
  by_cases e : q = L
  · rw [e, upd_same]; exact fun z => nomatch z
  · rw [upd_ne e]; exact w q hq
theorem Wd.add {L : Addr} (w : Wd M H) (h : H L ≠ none) : Wd (adM M L) H := fun q hq => by
  rcases hq with hq | rfl
  · exact w q hq
  · exact h
end
/-! ### expressions that only add objects -/
/-- a value: data, or a list that may change -/
inductive DV where
  | im (d : D)
  | mu (L : Addr) (ds : List D)
  | md (L : Addr) (kvs : List (Str × D))
def rV (K : PySem.W.Frag) (M : Addr → Prop) (H : Hp) : DV → V → Prop
  | .im d, v => rD K (Fx M H) d v
  | .mu L ds, v => v = .ref L ∧ ∃ vs, H L = some (.lst vs) ∧ rDs K (Fx M H) ds vs
  | .md L kvs, v => v = .ref L ∧ ∃ ws : List (Key × V), H L = some (.dK ws) ∧ ws.map Prod.fst = kvs.map (fun p => (Sum.inr p.1 : Key)) ∧ rDs K (Fx M H) (kvs.map Prod.snd) (ws.map Prod.snd)
theorem rV.same {K : PySem.W.Frag} {M : Addr → Prop} {H H' : Hp} (s : Same H H') : ∀ {d : DV} {v : V}, rV K M H d v → rV K M H' d v
  | .im d, v, h => rD.same h s
  | .mu L ds, v, ⟨h1, vs, h2, h3⟩ => ⟨h1, vs, s _ _ h2, h3.same s⟩
  | .md L ds, v, ⟨h1, vs, h2, h0, h3⟩ => ⟨h1, vs, s _ _ h2, h0, h3.same s⟩
theorem rV.ex {K : PySem.W.Frag} {M M' : Addr → Prop} {H H' : Hp} (s : Ex M M' H H') : ∀ {d : DV} {v : V}, rV K M H d v → rV K M' H' d v
  | .im d, v, h => rD.mono s.lx d v h
  | .mu L ds, v, ⟨h1, vs, h2, h3⟩ => ⟨h1, vs, s.s _ _ h2, rDs.mono s.lx _ _ h3⟩
  | .md L ds, v, ⟨h1, vs, h2, h0, h3⟩ => ⟨h1, vs, s.s _ _ h2, h0, rDs.mono s.lx _ _ h3⟩
/-- list-like -/
def LsOf (d : DV) (ds : List D) : Prop := d = .im (.lst ds) ∨ ∃ L, d = .mu L ds
theorem LsOf.im {ds : List D} : LsOf (.im (.lst ds)) ds := .inl rfl
theorem LsOf.mu {L : Addr} {ds : List D} : LsOf (.mu L ds) ds := .inr ⟨L, rfl⟩
theorem LsOf.get {K : PySem.W.Frag} {M : Addr → Prop} {H : Hp} {d : DV} {ds : List D} {v : V} (h : LsOf d ds) (r : rV K M H d v) : ∃ a vs, v = .ref a ∧ H a = some (.lst vs) ∧ rDs K (Fx M H) ds vs := by
  rcases h with rfl | ⟨L, rfl⟩
  · obtain ⟨a, vs, h1, h2, h3⟩ := r
    exact ⟨a, vs, h1, h2.1, h3⟩
  · obtain ⟨h1, vs, h2, h3⟩ := r
    exact ⟨L, vs, h1, h2, h3⟩
/-- list or tuple -/
def SqOf (d : DV) (ds : List D) : Prop := LsOf d ds ∨ d = .im (.tup ds)
theorem SqOf.get {K : PySem.W.Frag} {M : Addr → Prop} {H : Hp} {d : DV} {ds : List D} {v : V} (h : SqOf d ds) (r : rV K M H d v) : ∃ a vs, v = .ref a ∧ (SqL K H a vs ∨ SqT K H a vs) ∧ rDs K (Fx M H) ds vs := by
  rcases h with h | rfl
  · obtain ⟨a, vs, h1, h2, h3⟩ := h.get r
    exact ⟨a, vs, h1, .inl (SqL.of h2), h3⟩
  · obtain ⟨a, vs, h1, h2, h3⟩ := r
    exact ⟨a, vs, h1, .inr h2.sq, h3⟩
section
variable (K : PySem.W.Frag) (M : Addr → Prop)
def EV (σ : L2.St) (H : Hp) (t : TE) (d : DV) : Prop := ∀ M' H1, Wd M' H1 → Ex M M' H H1 → ∀ Q : VK, (∀ v H2, Wd M' H2 → Same H1 H2 → rV K M' H2 d v → Q v H2) → t σ H1 Q
def EVT (σ : L2.St) (H : Hp) (t : TT) (b : Bool) : Prop := ∀ M' H1, Wd M' H1 → Ex M M' H H1 → ∀ Q : Bool → Hp → Prop, (∀ H2, Wd M' H2 → Same H1 H2 → Q b H2) → t σ H1 Q
def EVO (σ : L2.St) (H : Hp) (t : TO) (b : Option Int) : Prop := ∀ M' H1, Wd M' H1 → Ex M M' H H1 → ∀ Q : Option Int → Hp → Prop, (∀ H2, Wd M' H2 → Same H1 H2 → Q b H2) → t σ H1 Q
inductive rVs (H : Hp) : List DV → List V → Prop
  | nil : rVs H [] []
  | cons {d : DV} {v : V} {ds : List DV} {vs : List V} : rV K M H d v → rVs H ds vs → rVs H (d :: ds) (v :: vs)
def EVA (σ : L2.St) (H : Hp) (t : TA) (ds : List DV) : Prop := ∀ M' H1, Wd M' H1 → Ex M M' H H1 → ∀ Q : List V → Hp → Prop, (∀ vs H2, Wd M' H2 → Same H1 H2 → rVs K M' H2 ds vs → Q vs H2) → t σ H1 Q
end
section
variable (K : PySem.W.Frag)
/-- an operator of two values -/
def OpD (r : R2) (d e f : DV) : Prop := ∀ M H, Wd M H → ∀ x y, rV K M H d x → rV K M H e y → ∀ Q : VK, (∀ v H2, Wd M H2 → Same H H2 → rV K M H2 f v → Q v H2) → r x y H Q
def UnD (r : V → Hp → VK → Prop) (d f : DV) : Prop := ∀ M H, Wd M H → ∀ x, rV K M H d x → ∀ Q : VK, (∀ v H2, Wd M H2 → Same H H2 → rV K M H2 f v → Q v H2) → r x H Q
/-- a call of some values -/
def CaD (r : List V → Hp → VK → Prop) (ds : List DV) (f : DV) : Prop := ∀ M H, Wd M H → ∀ xs, rVs K M H ds xs → ∀ Q : VK, (∀ v H2, Wd M H2 → Same H H2 → rV K M H2 f v → Q v H2) → r xs H Q
def MtD (r : V → List V → Hp → VK → Prop) (d : DV) (ds : List DV) (f : DV) : Prop := ∀ M H, Wd M H → ∀ x xs, rV K M H d x → rVs K M H ds xs → ∀ Q : VK, (∀ v H2, Wd M H2 → Same H H2 → rV K M H2 f v → Q v H2) → r x xs H Q
end
section
variable {K : PySem.W.Frag} {M M' : Addr → Prop} {σ : L2.St} {H H' : Hp} {t ta tb tc : TE} {tt tu : TT} {tA : TA} {d e f : DV} {b c : Bool} {ds : List DV}
theorem rVs.same (s : Same H H') : ∀ {ds : List DV} {vs : List V}, rVs K M H ds vs → rVs K M H' ds vs
  | _, _, .nil => .nil
  | _, _, .cons h1 h2 => .cons (h1.same s) (rVs.same s h2)
theorem EV.go (h : EV K M σ H t d) (w : Wd M H) {Q : VK} (k : ∀ v H2, Wd M H2 → Same H H2 → rV K M H2 d v → Q v H2) : t σ H Q := h M H w Ex.refl Q k
theorem EVT.go (h : EVT M σ H tt b) (w : Wd M H) {Q : Bool → Hp → Prop} (k : ∀ H2, Wd M H2 → Same H H2 → Q b H2) : tt σ H Q := h M H w Ex.refl Q k
theorem EVA.go (h : EVA K M σ H tA ds) (w : Wd M H) {Q : List V → Hp → Prop} (k : ∀ vs H2, Wd M H2 → Same H H2 → rVs K M H2 ds vs → Q vs H2) : tA σ H Q := h M H w Ex.refl Q k
theorem EV.ex (h : EV K M σ H t d) (s : Ex M M' H H') : EV K M' σ H' t d := fun M2 H1 w s1 Q k => h M2 H1 w (s.trans s1) Q k
theorem ev_var {i : Nat} {v : V} (hs : σ[i]? = some (some v)) (hv : rV K M H d v) : EV K M σ H (tVar i) d := fun M' H1 w s Q k => ⟨v, hs, k v H1 w (Same.refl _) (hv.ex s)⟩
theorem ev_c {x : D} {v : V} (hv : ∀ R, rD K R x v) : EV K M σ H (tC v) (.im x) := fun M' H1 w s Q k => k v H1 w (Same.refl _) (hv _)
theorem ev_int {i : Int} : EV K M σ H (tC (.int i)) (.im (.int i)) := ev_c fun _ => rfl
theorem ev_str {i : Str} : EV K M σ H (tC (.str i)) (.im (.str i)) := ev_c fun _ => rfl
theorem ev_bl {i : Bool} : EV K M σ H (tC (.bl i)) (.im (.bl i)) := ev_c fun _ => rfl
theorem ev_non : EV K M σ H (tC .non) (.im .non) := ev_c fun _ => rfl
theorem ev_rf {a : Addr} : EV K M σ H (tC (.ref a)) (.im (.rf a)) := ev_c fun _ => rfl
theorem ev_ty {a : String} : EV K M σ H (tC (.ty a)) (.im (.ty a)) := ev_c fun _ => rfl
theorem ev_op {r : R2} (ha : EV K M σ H ta d) (hb : EV K M σ H tb e) (ho : OpD K r d e f) : EV K M σ H (tOp r ta tb) f := fun M' H1 w s Q k =>
  ha M' H1 w s _ fun x H2 w2 s2 hx => hb M' H2 w2 (s.sm s2) _ fun y H3 w3 s3 hy => ho M' H3 w3 x y (hx.same s3) hy Q fun v H4 w4 s4 hv => k v H4 w4 ((s2.trans s3).trans s4) hv
theorem ev_un {r : V → Hp → VK → Prop} (ha : EV K M σ H ta d) (ho : UnD K r d f) : EV K M σ H (tUn r ta) f := fun M' H1 w s Q k =>
  ha M' H1 w s _ fun x H2 w2 s2 hx => ho M' H2 w2 x hx Q fun v H4 w4 s4 hv => k v H4 w4 (s2.trans s4) hv
theorem eva_nil : EVA K M σ H tNil [] := fun M' H1 w s Q k => k [] H1 w (Same.refl _) .nil
theorem eva_cons (ha : EV K M σ H ta d) (hb : EVA K M σ H tA ds) : EVA K M σ H (tCons ta tA) (d :: ds) := fun M' H1 w s Q k =>
  ha M' H1 w s _ fun x H2 w2 s2 hx => hb M' H2 w2 (s.sm s2) _ fun xs H3 w3 s3 hxs => k (x :: xs) H3 w3 (s2.trans s3) (.cons (hx.same s3) hxs)
theorem ev_cb {r : List V → Hp → VK → Prop} (ha : EVA K M σ H tA ds) (ho : CaD K r ds f) : EV K M σ H (tCB r tA) f := fun M' H1 w s Q k =>
  ha M' H1 w s _ fun xs H2 w2 s2 hx => ho M' H2 w2 xs hx Q fun v H4 w4 s4 hv => k v H4 w4 (s2.trans s4) hv
/-- a call of a def by what it gives -/
theorem ev_call {sp : Sp} {E : XK} (ha : EVA K M σ H tA ds) (ho : CaD K (fun vs H Q => sp vs H Q E) ds f) : EV K M σ H (tCall sp [] E tA) f := fun M' H1 w s Q k =>
  ha M' H1 w s _ fun xs H2 w2 s2 hx => by
    show sp (xs ++ []) H2 Q E
    rw [List.append_nil]
    exact ho M' H2 w2 xs hx Q fun v H4 w4 s4 hv => k v H4 w4 (s2.trans s4) hv
/-- a list's method that only reads -/
theorem ev_bm {r : V → List V → Hp → VK → Prop} {es : List D} (ha : EV K M σ H ta d) (hl : LsOf d es) (hb : EVA K M σ H tA ds) (ho : MtD K r d ds f) : EV K M σ H (tBM K "list" r ta tA) f := fun M' H1 w s Q k =>
  ha M' H1 w s _ fun x H2 w2 s2 hx => by
    obtain ⟨a, vs, rfl, h2, h3⟩ := hl.get hx
    exact ⟨.inl ⟨rfl, _, SqL.of h2⟩, hb M' H2 w2 (s.sm s2) _ fun xs H3 w3 s3 hxs => ho M' H3 w3 _ xs (hx.same s3) hxs Q fun v H4 w4 s4 hv => k v H4 w4 ((s2.trans s3).trans s4) hv⟩
/-- a text's method of one argument -/
theorem ev_m1 {r : V → List V → Hp → VK → Prop} {x : Str} (ha : EV K M σ H ta (.im (.str x))) (hb : EV K M σ H tb e) (ho : MtD K r (.im (.str x)) [e] f) : EV K M σ H (tM1 r ta tb) f := fun M' H1 w s Q k =>
  ha M' H1 w s _ fun v H2 w2 s2 hx => ⟨⟨x, hx⟩, hb M' H2 w2 (s.sm s2) _ fun y H3 w3 s3 hy => ho M' H3 w3 v [y] (hx.same s3) (.cons hy .nil) Q fun v H4 w4 s4 hv => k v H4 w4 ((s2.trans s3).trans s4) hv⟩
/-! tests -/
theorem evt_test (h : EV K M σ H t (.im (.bl b))) : EVT M σ H (tTest t) b := fun M' H1 w s Q k => h M' H1 w s _ fun v H2 w2 s2 hv => ⟨b, hv, k H2 w2 s2⟩
theorem evt_b (h : EV K M σ H t (.im (.bl b))) : EVT M σ H (tB t) b := fun M' H1 w s Q k => h M' H1 w s _ fun v H2 w2 s2 hv => ⟨b, hv, k H2 w2 s2⟩
theorem evt_and (h1 : EVT M σ H tt b) (h2 : b = true → EVT M σ H tu c) : EVT M σ H (tAnd tt tu) (b && c) := fun M' H1 w s Q k => h1 M' H1 w s _ fun H2 w2 s2 => by
  cases b with
  | true => exact h2 rfl M' H2 w2 (s.sm s2) _ fun H3 w3 s3 => k H3 w3 (s2.trans s3)
  | false => exact k H2 w2 s2
theorem evt_or (h1 : EVT M σ H tt b) (h2 : b = false → EVT M σ H tu c) : EVT M σ H (tOr tt tu) (b || c) := fun M' H1 w s Q k => h1 M' H1 w s _ fun H2 w2 s2 => by
  cases b with
  | true => exact k H2 w2 s2
  | false => exact h2 rfl M' H2 w2 (s.sm s2) _ fun H3 w3 s3 => k H3 w3 (s2.trans s3)
theorem evt_not (h1 : EVT M σ H tt b) : EVT M σ H (tNot tt) (!b) := fun M' H1 w s Q k => h1 M' H1 w s _ fun H2 w2 s2 => k H2 w2 s2
theorem evt_yes : EVT M σ H tYes true := fun M' H1 w s Q k => k H1 w (Same.refl _)
theorem ev_and (h1 : EV K M σ H ta (.im (.bl b))) (h2 : b = true → EV K M σ H tb (.im (.bl c))) : EV K M σ H (tAndV ta tb) (.im (.bl (b && c))) := fun M' H1 w s Q k => h1 M' H1 w s _ fun v H2 w2 s2 hv => by
  refine ⟨b, hv, ?_⟩
  cases b with
  | true => exact h2 rfl M' H2 w2 (s.sm s2) _ fun v H3 w3 s3 hv => k v H3 w3 (s2.trans s3) hv
  | false => exact k _ H2 w2 s2 rfl
theorem ev_or (h1 : EV K M σ H ta (.im (.bl b))) (h2 : b = false → EV K M σ H tb (.im (.bl c))) : EV K M σ H (tOrV ta tb) (.im (.bl (b || c))) := fun M' H1 w s Q k => h1 M' H1 w s _ fun v H2 w2 s2 hv => by
  refine ⟨b, hv, ?_⟩
  cases b with
  | true => exact k _ H2 w2 s2 rfl
  | false => exact h2 rfl M' H2 w2 (s.sm s2) _ fun v H3 w3 s3 hv => k v H3 w3 (s2.trans s3) hv
theorem ev_not (h1 : EV K M σ H ta (.im (.bl b))) : EV K M σ H (tNotV ta) (.im (.bl (!b))) := fun M' H1 w s Q k => h1 M' H1 w s _ fun v H2 w2 s2 hv => ⟨b, hv, k _ H2 w2 s2 rfl⟩
theorem ev_if {α : Type} {en : α → DV} {x y : α} (hc : EVT M σ H tt b) (h1 : b = true → EV K M σ H ta (en x)) (h2 : b = false → EV K M σ H tb (en y)) : EV K M σ H (tIf tt ta tb) (en (if b = true then x else y)) := fun M' H1 w s Q k => hc M' H1 w s _ fun H2 w2 s2 => by
  cases b with
  | true => exact h1 rfl M' H2 w2 (s.sm s2) _ fun v H3 w3 s3 hv => k v H3 w3 (s2.trans s3) hv
  | false => exact h2 rfl M' H2 w2 (s.sm s2) _ fun v H3 w3 s3 hv => k v H3 w3 (s2.trans s3) hv
/-! displays -/
theorem rVs.ims : ∀ {ds : List D} {vs : List V}, rVs K M H (ds.map .im) vs → rDs K (Fx M H) ds vs
  | [], _, .nil => rfl
  | d :: ds, _, .cons h1 h2 => ⟨_, _, rfl, h1, rVs.ims h2⟩
theorem rVs.len : ∀ {ds : List DV} {vs : List V}, rVs K M H ds vs → vs.length = ds.length
  | [], _, .nil => rfl
  | d :: ds, _, .cons h1 h2 => congrArg Nat.succ (rVs.len h2)
theorem ev_tup {ds : List D} (ha : EVA K M σ H tA (ds.map .im)) (hz : ds.length ≤ 1000) : EV K M σ H (tTupS tA) (.im (.tup ds)) := fun M' H1 w s Q k =>
  ha M' H1 w s _ fun xs H2 w2 s2 hx => ⟨sz_of (by rw [hx.len, List.length_map]; omega), fun p H3 np s3 hp => k _ H3 (w2.same s3) (s2.trans s3) ⟨p, xs, rfl, .inl (w2.new np hp), hx.ims.same s3⟩⟩
theorem ev_lst {ds : List D} (ha : EVA K M σ H tA (ds.map .im)) (hz : ds.length ≤ 1000) : EV K M σ H (tLstS tA) (.im (.lst ds)) := fun M' H1 w s Q k =>
  ha M' H1 w s _ fun xs H2 w2 s2 hx => ⟨sz_of (by rw [hx.len, List.length_map]; omega), fun p H3 np s3 hp => k _ H3 (w2.same s3) (s2.trans s3) ⟨p, xs, rfl, w2.new np hp, hx.ims.same s3⟩⟩
end
end Lf

set_option Elab.async false
set_option linter.all false
set_option maxRecDepth 100000
set_option maxHeartbeats 4000000
/-! Operators, built-ins and methods by data; what is walked; comprehensions. -/
namespace Lf
open PySem PySem.Spec PyProof.Rows L2
section
variable {K : PySem.W.Frag} {M : Addr → Prop} {σ : L2.St} {H H' : Hp} {t ta tb tc : TE} {tt tu : TT} {tA : TA} {d e f : DV} {b c : Bool} {ds : List DV}
/-! ### ints -/
theorem od_i0 {g : Int → Int → V} {r : D} {i j : Int} (h : ∀ R, rD K R r (g i j)) : OpD K (rI0 g) (.im (.int i)) (.im (.int j)) (.im r) := fun M H w x y hx hy Q k => ⟨i, j, hx, hy, k _ H w (Same.refl _) (h _)⟩
theorem od_i {C : Int → Int → Prop} {g : Int → Int → V} {r : D} {i j : Int} (hc : C i j) (h : ∀ R, rD K R r (g i j)) : OpD K (rI C g) (.im (.int i)) (.im (.int j)) (.im r) := fun M H w x y hx hy Q k => ⟨i, j, hx, hy, hc, k _ H w (Same.refl _) (h _)⟩
theorem od_add {i j : Int} : OpD K rAddI (.im (.int i)) (.im (.int j)) (.im (.int (i + j))) := od_i0 fun _ => rfl
theorem od_sub {i j : Int} : OpD K rSubI (.im (.int i)) (.im (.int j)) (.im (.int (i - j))) := od_i0 fun _ => rfl
theorem od_mul {i j : Int} (h : CMul i j) : OpD K rMulI (.im (.int i)) (.im (.int j)) (.im (.int (i * j))) := od_i h fun _ => rfl
theorem od_mulW {i j : Int} (h : CMulW i j) : OpD K (rI CMulW fun i j => .int (i * j)) (.im (.int i)) (.im (.int j)) (.im (.int (i * j))) := od_i h fun _ => rfl
theorem od_fdiv {i j : Int} (h : CDiv i j) : OpD K rFdivI (.im (.int i)) (.im (.int j)) (.im (.int (i / j))) := od_i h fun _ => rfl
theorem od_mod {i j : Int} (h : 0 < j) : OpD K rModI (.im (.int i)) (.im (.int j)) (.im (.int (i % j))) := od_i (C := fun _ j => 0 < j) h fun _ => rfl
theorem od_lt {i j : Int} : OpD K rLtI (.im (.int i)) (.im (.int j)) (.im (.bl (decide (i < j)))) := od_i0 fun _ => rfl
theorem od_le {i j : Int} : OpD K rLeI (.im (.int i)) (.im (.int j)) (.im (.bl (decide (i ≤ j)))) := od_i0 fun _ => rfl
theorem od_gt {i j : Int} : OpD K rGtI (.im (.int i)) (.im (.int j)) (.im (.bl (decide (j < i)))) := od_i0 fun _ => rfl
theorem od_ge {i j : Int} : OpD K rGeI (.im (.int i)) (.im (.int j)) (.im (.bl (decide (j ≤ i)))) := od_i0 fun _ => rfl
theorem ud_neg {i : Int} : UnD K rNegI (.im (.int i)) (.im (.int (-i))) := fun M H w x hx Q k => ⟨i, hx, k _ H w (Same.refl _) rfl⟩
theorem od_eqI {i j : Int} : OpD K rEq (.im (.int i)) (.im (.int j)) (.im (.bl (decide (i = j)))) := fun M H w x y hx hy Q k => by
  cases hx; cases hy
  refine ⟨rfl, ?_⟩
  rw [show decide (V.int i = V.int j) = decide (i = j) by simp]
  exact k _ H w (Same.refl _) rfl
theorem od_neI {i j : Int} : OpD K rNe (.im (.int i)) (.im (.int j)) (.im (.bl (!decide (i = j)))) := fun M H w x y hx hy Q k => by
  cases hx; cases hy
  refine ⟨rfl, ?_⟩
  rw [show decide (V.int i = V.int j) = decide (i = j) by simp]
  exact k _ H w (Same.refl _) rfl
theorem od_eqS {i j : Str} : OpD K rEq (.im (.str i)) (.im (.str j)) (.im (.bl (decide (i = j)))) := fun M H w x y hx hy Q k => by
  cases hx; cases hy
  refine ⟨rfl, ?_⟩
  rw [show decide (V.str i = V.str j) = decide (i = j) by simp]
  exact k _ H w (Same.refl _) rfl
theorem od_neS {i j : Str} : OpD K rNe (.im (.str i)) (.im (.str j)) (.im (.bl (!decide (i = j)))) := fun M H w x y hx hy Q k => by
  cases hx; cases hy
  refine ⟨rfl, ?_⟩
  rw [show decide (V.str i = V.str j) = decide (i = j) by simp]
  exact k _ H w (Same.refl _) rfl
theorem od_addS {i j : Str} (h : i.length + j.length ≤ sizeLine) : OpD K rAddS (.im (.str i)) (.im (.str j)) (.im (.str (i ++ j))) := fun M H w x y hx hy Q k => ⟨i, j, hx, hy, h, k _ H w (Same.refl _) rfl⟩
/-! ### lists and tuples -/
def ixD {α : Type} [Inhabited α] (xs : List α) (i : Int) : α := (atI xs i).getD default
def InB {α : Type} (xs : List α) (i : Int) : Prop := -(xs.length : Int) ≤ i ∧ i < xs.length
theorem atI_map {α β : Type} (f : α → β) (xs : List α) (i : Int) : atI (xs.map f) i = (atI xs i).map f := by
  unfold atI
  rw [List.length_map]
  cases ixN xs.length i with
  | none => rfl
  | some j => simp
theorem atI_ixD {α : Type} [Inhabited α] {xs : List α} {i : Int} (h : InB xs i) : atI xs i = some (ixD xs i) := by
  obtain ⟨v, _, hv⟩ := atI_some h.1 h.2
  unfold ixD
  rw [hv]
  rfl
theorem ixD_mem {α : Type} [Inhabited α] {xs : List α} {i : Int} (h : InB xs i) : ixD xs i ∈ xs := by
  obtain ⟨v, hm, hv⟩ := atI_some h.1 h.2
  unfold ixD
  rw [hv]
  exact hm
theorem ixD_nat {α : Type} [Inhabited α] {xs : List α} {i : Nat} {x : α} (h : xs[i]? = some x) : ixD xs (i : Int) = x := by
  unfold ixD
  rw [atI_nat h]
  rfl
theorem od_ixL {es : List D} {i : Int} {r : D} (hl : LsOf d es) (h : atI es i = some r) : OpD K (rIxL K) d (.im (.int i)) (.im r) := fun M H w x y hx hy Q k => by
  obtain ⟨a, vs, h1, h2, h3⟩ := hl.get hx
  obtain ⟨v, hv, hr⟩ := h3.atI h
  exact ⟨a, vs, i, v, h1, hy, SqL.of h2, hv, k _ H w (Same.refl _) hr⟩
theorem od_ixT {es : List D} {i : Int} {r : D} (h : atI es i = some r) : OpD K (rIxT K) (.im (.tup es)) (.im (.int i)) (.im r) := fun M H w x y hx hy Q k => by
  obtain ⟨a, vs, h1, h2, h3⟩ := hx
  obtain ⟨v, hv, hr⟩ := h3.atI h
  exact ⟨a, vs, i, v, h1, hy, h2.sq, hv, k _ H w (Same.refl _) hr⟩
theorem od_ixLm {α : Type} [Inhabited α] {en : α → D} {xs : List α} {i : Int} (hl : LsOf d (xs.map en)) (h : InB xs i) : OpD K (rIxL K) d (.im (.int i)) (.im (en (ixD xs i))) := od_ixL hl (by rw [atI_map, atI_ixD h]; rfl)
theorem od_ixTm {α : Type} [Inhabited α] {en : α → D} {xs : List α} {i : Int} (h : InB xs i) : OpD K (rIxT K) (.im (.tup (xs.map en))) (.im (.int i)) (.im (en (ixD xs i))) := od_ixT (by rw [atI_map, atI_ixD h]; rfl)
/-- the sign at i -/
def ixS (z : Str) (i : Int) : Str := ⟨#[(atI z.cps.toList i).getD 0]⟩
theorem od_ixS {z : Str} {i : Int} (hz : z.length ≤ sizeLine) (h : InB z.cps.toList i) : OpD K rIxS (.im (.str z)) (.im (.int i)) (.im (.str (ixS z i))) := fun M H w x y hx hy Q k => by
  obtain ⟨c, _, hc⟩ := atI_some h.1 h.2
  refine ⟨z, i, c, hx, hy, hz, hc, ?_⟩
  have e : ixS z i = ⟨#[c]⟩ := by unfold ixS; rw [hc]; rfl
  rw [← e]
  exact k _ H w (Same.refl _) rfl
theorem od_cat {es fs : List D} (h1 : LsOf d es) (h2 : LsOf e fs) (hz : es.length + fs.length ≤ sizeLine) : OpD K rCatS d e (.im (.lst (es ++ fs))) := fun M H w x y hx hy Q k => by
  obtain ⟨a, vs, e1, e2, e3⟩ := h1.get hx
  obtain ⟨b, ws, f1, f2, f3⟩ := h2.get hy
  exact ⟨a, b, vs, ws, e1, f1, e2, f2, by rw [e3.len, f3.len]; exact hz, fun p H' np s' hp => k _ H' (w.same s') s' ⟨p, _, rfl, w.new np hp, (e3.append f3).same s'⟩⟩
theorem od_catm {α : Type} {en : α → D} {xs ys : List α} (h1 : LsOf d (xs.map en)) (h2 : LsOf e (ys.map en)) (hz : xs.length + ys.length ≤ sizeLine) : OpD K rCatS d e (.im (.lst ((xs ++ ys).map en))) := by
  rw [List.map_append]
  exact od_cat h1 h2 (by rw [List.length_map, List.length_map]; exact hz)
theorem od_catT {es fs : List D} (hz : es.length + fs.length ≤ sizeLine) : OpD K (rCatA K) (.im (.tup es)) (.im (.tup fs)) (.im (.tup (es ++ fs))) := fun M H w x y hx hy Q k => by
  obtain ⟨a, vs, e1, e2, e3⟩ := hx
  obtain ⟨b, ws, f1, f2, f3⟩ := hy
  refine ⟨a, b, vs, ws, e1, f1, e2.sq, f2.sq, by rw [e3.len, f3.len]; exact hz, fun e0 => ?_, fun _ e0 => ?_, fun _ _ p np => ?_⟩
  · subst e0
    exact k _ H w (Same.refl _) ⟨b, ws, rfl, f2, e3.append f3⟩
  · subst e0
    have := e3.append f3
    rw [List.append_nil] at this
    exact k _ H w (Same.refl _) ⟨a, vs, rfl, e2, this⟩
  · have s' : Same H (L2.upd H p (.tup (vs ++ ws))) := Same.new np
    exact k _ _ (w.same s') s' ⟨p, _, rfl, .inl (w.new np upd_same), (e3.append f3).same s'⟩
theorem od_catTm {α : Type} {en : α → D} {xs ys : List α} (hz : xs.length + ys.length ≤ sizeLine) : OpD K (rCatA K) (.im (.tup (xs.map en))) (.im (.tup (ys.map en))) (.im (.tup ((xs ++ ys).map en))) := by
  rw [List.map_append]
  exact od_catT (by rw [List.length_map, List.length_map]; exact hz)
/-- [x] * k -/
theorem od_rep {es : List D} {i : Int} (h1 : LsOf d es) (i0 : -(2 ^ 63) ≤ i) (i1 : i < 2 ^ 63) (hz : es.length * i.toNat ≤ sizeLine) : OpD K rRepS d (.im (.int i)) (.im (.lst (List.replicate i.toNat es).flatten)) := fun M H w x y hx hy Q k => by
  obtain ⟨a, vs, e1, e2, e3⟩ := h1.get hx
  exact ⟨a, i, vs, e1, hy, e2, i0, i1, by rw [e3.len]; exact hz, fun p H' np s' hp => k _ H' (w.same s') s' ⟨p, _, rfl, w.new np hp, (e3.rep _).same s'⟩⟩
theorem cd_len {es : List D} (h : SqOf d es) : CaD K (rLenSq K) [d] (.im (.int es.length)) := fun M H w xs hx Q k => by
  cases hx with
  | cons h1 h2 =>
    cases h2
    obtain ⟨a, vs, rfl, e2, e3⟩ := h.get h1
    refine ⟨a, vs, rfl, e2, ?_⟩
    rw [e3.len]
    exact k _ H w (Same.refl _) rfl
theorem cd_lenm {α : Type} {en : α → D} {xs : List α} (h : SqOf d (xs.map en)) : CaD K (rLenSq K) [d] (.im (.int xs.length)) := by
  have := cd_len (K := K) h
  rw [List.length_map] at this
  exact this
theorem cd_lenS {z : Str} (hz : z.length ≤ sizeLine) : CaD K (fun xs H Q => ∃ z, xs = [.str z] ∧ z.length ≤ sizeLine ∧ Q (.int z.length) H) [.im (.str z)] (.im (.int z.length)) := fun M H w xs hx Q k => by
  cases hx with
  | cons h1 h2 =>
    cases h2
    cases h1
    exact ⟨z, rfl, hz, k _ H w (Same.refl _) rfl⟩
theorem cd_any {bs : List Bool} (h : LsOf d (bs.map .bl)) : CaD K (rAny K) [d] (.im (.bl (bs.any id))) := fun M H w xs hx Q k => by
  cases hx with
  | cons h1 h2 =>
    cases h2
    obtain ⟨a, vs, rfl, e2, e3⟩ := h.get h1
    exact ⟨a, bs, rfl, by rw [← e3.bls]; exact SqL.of e2, k _ H w (Same.refl _) rfl⟩
theorem cd_all {bs : List Bool} (h : LsOf d (bs.map .bl)) : CaD K (rAll K) [d] (.im (.bl (bs.all id))) := fun M H w xs hx Q k => by
  cases hx with
  | cons h1 h2 =>
    cases h2
    obtain ⟨a, vs, rfl, e2, e3⟩ := h.get h1
    exact ⟨a, bs, rfl, by rw [← e3.bls]; exact SqL.of e2, k _ H w (Same.refl _) rfl⟩
theorem cd_sum {ns : List Int} (h : LsOf d (ns.map .int)) : CaD K (rSum K) [d] (.im (.int ns.sum)) := fun M H w xs hx Q k => by
  cases hx with
  | cons h1 h2 =>
    cases h2
    obtain ⟨a, vs, rfl, e2, e3⟩ := h.get h1
    exact ⟨a, ns, rfl, by rw [← e3.ints]; exact SqL.of e2, k _ H w (Same.refl _) rfl⟩
theorem cd_tuple {es : List D} (h : LsOf d es) : CaD K (rTupleD K) [d] (.im (.tup es)) := fun M H w xs hx Q k => by
  cases hx with
  | cons h1 h2 =>
    cases h2
    obtain ⟨a, vs, rfl, e2, e3⟩ := h.get h1
    refine ⟨a, vs, rfl, SqL.of e2, fun p H' np s' hp => ?_⟩
    obtain ⟨o, hp, _⟩ := hp
    exact k _ H' (w.same s') s' ⟨p, vs, rfl, .inr (.inl ⟨o, w.new np hp⟩), e3.same s'⟩
theorem cd_list {es : List D} (h : SqOf d es) : CaD K (rListOfS K) [d] (.im (.lst es)) := fun M H w xs hx Q k => by
  cases hx with
  | cons h1 h2 =>
    cases h2
    obtain ⟨a, vs, rfl, e2, e3⟩ := h.get h1
    exact ⟨a, vs, rfl, e2, fun p H' np s' hp => k _ H' (w.same s') s' ⟨p, vs, rfl, w.new np hp, e3.same s'⟩⟩
/-! ### in, flat -/
theorem inV_strs (x : Str) : ∀ xs : List Str, inV (.str x) (xs.map V.str) = decide (x ∈ xs)
  | [] => rfl
  | y :: ys => by
    show (eqV (.str y) (.str x) || inV (.str x) (ys.map V.str)) = _
    rw [inV_strs x ys]
    show ((y == x) || decide (x ∈ ys)) = _
    by_cases h : y = x
    · simp [h]
    · have : ¬ x = y := fun e => h e.symm
      simp [h, this]
theorem flat_strs' : ∀ rs : List Str, (rs.map V.str).all flatV = true
  | [] => rfl
  | r :: rs => by rw [List.map_cons, List.all_cons, flat_strs' rs]; rfl
theorem od_inS {x : Str} {xs : List Str} (h : SqOf d (xs.map .str)) : OpD K (rIn K false) (.im (.str x)) d (.im (.bl (decide (x ∈ xs)))) := fun M H w u y hu hy Q k => by
  cases hu
  obtain ⟨a, vs, rfl, e2, e3⟩ := h.get hy
  cases e3.strs
  refine ⟨a, _, rfl, e2, rfl, flat_strs' xs, ?_⟩
  rw [inV_strs]
  exact k _ H w (Same.refl _) rfl
theorem od_ninS {x : Str} {xs : List Str} (h : SqOf d (xs.map .str)) : OpD K (rIn K true) (.im (.str x)) d (.im (.bl (!decide (x ∈ xs)))) := fun M H w u y hu hy Q k => by
  cases hu
  obtain ⟨a, vs, rfl, e2, e3⟩ := h.get hy
  cases e3.strs
  refine ⟨a, _, rfl, e2, rfl, flat_strs' xs, ?_⟩
  rw [inV_strs]
  exact k _ H w (Same.refl _) rfl
/-! ### texts -/
theorem md_rpart {x y : Str} (hy : (y.length == 0) = false) (hz : x.length ≤ sizeLine) : MtD K rRpart (.im (.str x)) [.im (.str y)] (.im (.tup [.str (Txt.rpartition x y).1, .str (Txt.rpartition x y).2.1, .str (Txt.rpartition x y).2.2])) := fun M H w u us hu hus Q k => by
  cases hu
  cases hus with
  | cons h1 h2 =>
    cases h2
    cases h1
    exact ⟨x, y, rfl, rfl, hy, hz, fun p H' np s' hp => k _ H' (w.same s') s' ⟨p, _, rfl, .inl (w.new np hp), ⟨_, _, rfl, rfl, _, _, rfl, rfl, _, _, rfl, rfl, rfl⟩⟩⟩
theorem md_count {x y : Str} : MtD K (fun x xs H Q => ∃ a b, x = .str a ∧ xs = [.str b] ∧ Q (.int (Txt.count a b)) H) (.im (.str x)) [.im (.str y)] (.im (.int (Txt.count x y))) := fun M H w u us hu hus Q k => by
  cases hu
  cases hus with
  | cons h1 h2 =>
    cases h2
    cases h1
    exact ⟨x, y, rfl, rfl, k _ H w (Same.refl _) rfl⟩
theorem ev_slS {z : Str} {lo hi : Option Int} {tl th : TO} (hz : z.length ≤ sizeLine) (he : EV K M σ H t (.im (.str z))) (hl : EVO M σ H tl lo) (hh : EVO M σ H th hi) :
    EV K M σ H (tSl rSlS t tl th) (.im (.str (cutS z lo hi))) := fun M' H1 w s Q k =>
  he M' H1 w s _ fun v H2 w2 s2 hv => hl M' H2 w2 (s.sm s2) _ fun H3 w3 s3 => hh M' H3 w3 ((s.sm s2).sm s3) _ fun H4 w4 s4 => ⟨z, hv, hz, k _ H4 w4 ((s2.trans s3).trans s4) rfl⟩
def cutD {α : Type} (xs : List α) (lo hi : Option Int) : List α := (xs.drop (HT.sIx xs.length 0 lo)).take (HT.sIx xs.length xs.length hi - HT.sIx xs.length 0 lo)
theorem ev_slL {es : List D} {lo hi : Option Int} {tl th : TO} (hd : LsOf d es) (he : EV K M σ H t d) (hl : EVO M σ H tl lo) (hh : EVO M σ H th hi) :
    EV K M σ H (tSl (rSlLS K) t tl th) (.im (.lst (cutD es lo hi))) := fun M' H1 w s Q k =>
  he M' H1 w s _ fun v H2 w2 s2 hv => hl M' H2 w2 (s.sm s2) _ fun H3 w3 s3 => hh M' H3 w3 ((s.sm s2).sm s3) _ fun H4 w4 s4 => by
    obtain ⟨a, vs, rfl, e2, e3⟩ := hd.get ((hv.same s3).same s4)
    refine ⟨a, vs, rfl, SqL.of e2, fun p H5 np s5 hp => k _ H5 (w4.same s5) (((s2.trans s3).trans s4).trans s5) ⟨p, _, rfl, w4.new np hp, ?_⟩⟩
    unfold cutV cutD
    rw [e3.len]
    exact ((e3.drop _).take _).same s5
theorem cutD_map {α β : Type} (g : α → β) (xs : List α) (lo hi : Option Int) : cutD (xs.map g) lo hi = (cutD xs lo hi).map g := by
  unfold cutD
  rw [List.length_map, List.map_take, List.map_drop]
theorem evo_none : EVO M σ H tNoPart none := fun M' H1 w s Q k => k H1 w (Same.refl _)
theorem evo_some {i : Int} (h : EV K M σ H t (.im (.int i))) : EVO M σ H (tPart t) (some i) := fun M' H1 w s Q k => h M' H1 w s _ fun v H2 w2 s2 hv => ⟨i, hv, k H2 w2 s2⟩
theorem cd_int {i : Int} : CaD K (fun xs H Q => (∃ i : Int, xs = [.int i] ∧ Q (.int i) H) ∨ ∃ k : Bool, xs = [.bl k] ∧ Q (.int (if k then 1 else 0)) H) [.im (.int i)] (.im (.int i)) := fun M H w xs hx Q k => by
  cases hx with
  | cons h1 h2 =>
    cases h2
    cases h1
    exact .inl ⟨i, rfl, k _ H w (Same.refl _) rfl⟩
theorem cd_intB {i : Bool} : CaD K (fun xs H Q => (∃ i : Int, xs = [.int i] ∧ Q (.int i) H) ∨ ∃ k : Bool, xs = [.bl k] ∧ Q (.int (if k then 1 else 0)) H) [.im (.bl i)] (.im (.int (if i then 1 else 0))) := fun M H w xs hx Q k => by
  cases hx with
  | cons h1 h2 =>
    cases h2
    cases h1
    exact .inr ⟨i, rfl, k _ H w (Same.refl _) rfl⟩
theorem cd_strI {i : Int} (h : i.natAbs.log2 < 1920) : CaD K rStrI [.im (.int i)] (.im (.str (toString i))) := fun M H w xs hx Q k => by
  cases hx with
  | cons h1 h2 =>
    cases h2
    cases h1
    exact ⟨i, rfl, h, k _ H w (Same.refl _) rfl⟩
end
/-! ### what is walked -/
def YD (K : PySem.W.Frag) (M : Addr → Prop) (H0 : Hp) (ds : List D) (i : Nat) (H : Hp) (x : V) (H' : Hp) : Prop := Same H H' ∧ ∃ d, ds[i]? = some d ∧ ∀ M', Wd M' H → Lx M M' H0 H → rD K (Fx M' H') d x
/-- what must stand while it is walked -/
def GI (M : Addr → Prop) (H H' : Hp) : Prop := ∃ M', Lx M M' H H'
def GL (L : Addr) (M : Addr → Prop) (H H' : Hp) : Prop := (∃ M', Lx M M' H H') ∧ ∀ o, H L = some o → H' L = some o
def EVI (K : PySem.W.Frag) (M : Addr → Prop) (σ : L2.St) (H : Hp) (wi : TI) (G : (Addr → Prop) → Hp → Hp → Prop) (ds : List D) : Prop :=
  ∀ M' H1, Wd M' H1 → Ex M M' H H1 → ∀ R : It → Hp → Prop, (∀ J H2, Wd M' H2 → Same H1 H2 → Walk J ds.length (G M' H2) (YD K M' H2 ds) → R J H2) → wi σ H1 R
section
variable {K : PySem.W.Frag} {M : Addr → Prop} {σ : L2.St} {H H' : Hp} {t ta tb tc : TE} {tt tu : TT} {tA : TA} {d e f : DV} {wi : TI} {G : (Addr → Prop) → Hp → Hp → Prop} {es : List D}
theorem GI.ex {M M' : Addr → Prop} (x : Ex M M' H H') : GI M H H' := ⟨M', x.lx⟩
theorem GL.ex {L : Addr} {M M' : Addr → Prop} (x : Ex M M' H H') : GL L M H H' := ⟨⟨M', x.lx⟩, fun o h => x.s _ _ h⟩
theorem EVI.go (h : EVI K M σ H wi G es) (w : Wd M H) {R : It → Hp → Prop} (k : ∀ J H2, Wd M H2 → Same H H2 → Walk J es.length (G M H2) (YD K M H2 es) → R J H2) : wi σ H R := h M H w Ex.refl R k
theorem evi_list (h : EV K M σ H t (.im (.lst es))) : EVI K M σ H (iList K t) GI es := fun M' H1 w s R k => h M' H1 w s _ fun v H2 w2 s2 hv => by
  obtain ⟨a, vs, rfl, h2, h3⟩ := hv
  refine ⟨a, rfl, ⟨_, SqL.of h2.1⟩, k _ H2 w2 s2 ?_⟩
  rw [← h3.len]
  refine walk_list.mono (fun H' g => SqL.of (g.choose_spec _ _ h2).1) fun i H' x H'' hi g y => ?_
  obtain ⟨e1, e2⟩ := y
  obtain ⟨d, hd, hr⟩ := h3.get e2
  rw [e1]
  exact ⟨Same.refl _, d, hd, fun M2 _ l => rD.mono l d x hr⟩
theorem evi_mu {L : Addr} (h : EV K M σ H t (.mu L es)) : EVI K M σ H (iList K t) (GL L) es := fun M' H1 w s R k => h M' H1 w s _ fun v H2 w2 s2 hv => by
  obtain ⟨rfl, vs, h2, h3⟩ := hv
  refine ⟨L, rfl, ⟨_, SqL.of h2⟩, k _ H2 w2 s2 ?_⟩
  rw [← h3.len]
  refine walk_list.mono (fun H' g => SqL.of (g.2 _ h2)) fun i H' x H'' hi g y => ?_
  obtain ⟨e1, e2⟩ := y
  obtain ⟨d, hd, hr⟩ := h3.get e2
  rw [e1]
  exact ⟨Same.refl _, d, hd, fun M2 _ l => rD.mono l d x hr⟩
theorem evi_tup (h : EV K M σ H t (.im (.tup es))) : EVI K M σ H (iTup K t) GI es := fun M' H1 w s R k => h M' H1 w s _ fun v H2 w2 s2 hv => by
  obtain ⟨a, vs, rfl, h2, h3⟩ := hv
  refine ⟨a, rfl, ⟨_, h2.sq⟩, k _ H2 w2 s2 ?_⟩
  rw [← h3.len]
  refine walk_tup.mono (fun H' g => (h2.mono g.choose_spec).sq) fun i H' x H'' hi g y => ?_
  obtain ⟨e1, e2⟩ := y
  obtain ⟨d, hd, hr⟩ := h3.get e2
  rw [e1]
  exact ⟨Same.refl _, d, hd, fun M2 _ l => rD.mono l d x hr⟩
/-- lo .. hi - 1 -/
def rngI (lo hi : Int) : List Int := (List.range (hi - lo).toNat).map fun (i : Nat) => lo + (i : Int)
theorem rngI_len (lo hi : Int) : (rngI lo hi).length = (hi - lo).toNat := by unfold rngI; rw [List.length_map, List.length_range]
theorem rngI_mem {lo hi x : Int} : x ∈ rngI lo hi ↔ lo ≤ x ∧ x < hi := by
  unfold rngI
  rw [List.mem_map]
  constructor
  · rintro ⟨i, hi, rfl⟩
    have := List.mem_range.mp hi
    omega
  · intro h
    exact ⟨(x - lo).toNat, List.mem_range.mpr (by omega), by omega⟩
theorem rngI_get {lo hi : Int} {i : Nat} (h : i < (hi - lo).toNat) : (rngI lo hi)[i]? = some (lo + i) := by
  unfold rngI
  rw [List.getElem?_map, List.getElem?_range h]
  rfl
theorem evi_range1 {n : Int} (h : EVA K M σ H tA [.im (.int n)]) (n0 : -(2 ^ 62) ≤ n) (n1 : n < 2 ^ 62) : EVI K M σ H (iRng1 tA) GI ((rngI 0 n).map .int) := fun M' H1 w s R k => h M' H1 w s _ fun vs H2 w2 s2 hv => by
  cases hv with
  | cons h1 h2 =>
    cases h2
    cases h1
    refine ⟨n, rfl, n0, n1, k _ H2 w2 s2 ?_⟩
    have hl : ((rngI 0 n).map D.int).length = n.toNat := by rw [List.length_map, rngI_len, Int.sub_zero]
    rw [hl]
    refine walk_range.mono (fun _ _ => True.intro) fun i H' x H'' hi g y => ?_
    obtain ⟨e1, e2⟩ := y
    rw [e1]
    refine ⟨Same.refl _, .int (0 + (i : Int)), ?_, fun _ _ _ => e2⟩
    rw [List.getElem?_map, rngI_get (by omega)]
    rfl
theorem evi_range2 {m n : Int} (h : EVA K M σ H tA [.im (.int m), .im (.int n)]) (hb : -(2 ^ 62) ≤ m ∧ m < 2 ^ 62 ∧ -(2 ^ 62) ≤ n ∧ n < 2 ^ 62) : EVI K M σ H (iRng2 tA) GI ((rngI m n).map .int) := fun M' H1 w s R k => h M' H1 w s _ fun vs H2 w2 s2 hv => by
  cases hv with
  | cons h1 h2 =>
    cases h2 with
    | cons h2 h3 =>
      cases h3
      cases h1
      cases h2
      refine ⟨m, n, rfl, hb, k _ H2 w2 s2 ?_⟩
      have hl : ((rngI m n).map D.int).length = (n - m).toNat := by rw [List.length_map, rngI_len]
      rw [hl]
      refine walk_range.mono (fun _ _ => True.intro) fun i H' x H'' hi g y => ?_
      obtain ⟨e1, e2⟩ := y
      rw [e1]
      refine ⟨Same.refl _, .int (m + (i : Int)), ?_, fun _ _ _ => e2⟩
      rw [List.getElem?_map, rngI_get (by omega)]
      rfl
/-! targets -/
theorem g_tup2 {i j : Nat} {d1 d2 : D} {x : V} {Q : L2.St → Hp → Prop} (h : rD K (Fx M H) (.tup [d1, d2]) x) (k : ∀ v1 v2, rD K (Fx M H) d1 v1 → rD K (Fx M H) d2 v2 → Q ((σ.set i (some v1)).set j (some v2)) H) :
    gTup K 2 (gCons (gName i) (gCons (gName j) gNil)) x σ H Q := by
  obtain ⟨a, vs, rfl, h2, v1, _, rfl, r1, v2, _, rfl, r2, rfl⟩ := h
  exact ⟨a, _, rfl, h2.sq, rfl, v1, _, rfl, v2, _, rfl, rfl, k v1 v2 r1 r2⟩
theorem g_tup3 {i j l : Nat} {d1 d2 d3 : D} {x : V} {Q : L2.St → Hp → Prop} (h : rD K (Fx M H) (.tup [d1, d2, d3]) x) (k : ∀ v1 v2 v3, rD K (Fx M H) d1 v1 → rD K (Fx M H) d2 v2 → rD K (Fx M H) d3 v3 → Q (((σ.set i (some v1)).set j (some v2)).set l (some v3)) H) :
    gTup K 3 (gCons (gName i) (gCons (gName j) (gCons (gName l) gNil))) x σ H Q := by
  obtain ⟨a, vs, rfl, h2, v1, _, rfl, r1, v2, _, rfl, r2, v3, _, rfl, r3, rfl⟩ := h
  exact ⟨a, _, rfl, h2.sq, rfl, v1, _, rfl, v2, _, rfl, v3, _, rfl, rfl, k v1 v2 v3 r1 r2 r3⟩
/-! ### comprehensions -/
/-- the reading of a target asks for no more than what follows -/
def GMono (g : TG) : Prop := ∀ v σ H (Q Q' : L2.St → Hp → Prop), (∀ σ2 H2, Q σ2 H2 → Q' σ2 H2) → g v σ H Q → g v σ H Q'
theorem gm_name {i : Nat} : GMono (gName i) := fun v σ H Q Q' h z => h _ _ z
theorem gm_tup2 {n i j : Nat} : GMono (gTup K n (gCons (gName i) (gCons (gName j) gNil))) := by
  rintro v σ H Q Q' h ⟨a, xs, h1, h2, h3, v1, r1, h4, v2, r2, h5, h6, h7⟩
  exact ⟨a, xs, h1, h2, h3, v1, r1, h4, v2, r2, h5, h6, h _ _ h7⟩
theorem gm_tup3 {n i j l : Nat} : GMono (gTup K n (gCons (gName i) (gCons (gName j) (gCons (gName l) gNil)))) := by
  rintro v σ H Q Q' h ⟨a, xs, h1, h2, h3, v1, r1, h4, v2, r2, h5, v3, r3, h6, h7, h8⟩
  exact ⟨a, xs, h1, h2, h3, v1, r1, h4, v2, r2, h5, v3, r3, h6, h7, h _ _ h8⟩
theorem ev_lcf {α : Type} {xs : List α} {en : α → D} {p : α → Bool} {f : α → D} {g : TG} {vs : List Nat} (hi : EVI K M σ H wi G (xs.map en)) (hG : ∀ {M M' : Addr → Prop} {H H' : Hp}, Ex M M' H H' → G M H H') (hg : GMono g) (hz : xs.length ≤ sizeLine)
    (hb : ∀ x ∈ xs, ∀ M' H' v, Wd M' H' → Ex M M' H H' → rD K (Fx M' H') (en x) v → g v (wipe σ vs) H' fun σ2 H2 => H2 = H' ∧ wipe σ2 vs = wipe σ vs ∧ EVT M' σ2 H' tt (p x) ∧ (p x = true → EV K M' σ2 H' t (.im (f x)))) :
    EV K M σ H (tLc wi g tt t vs) (.im (.lst ((xs.filter p).map f))) := fun M1 H1 w s Q k => hi M1 H1 w s _ fun J H2 w2 s2 wk D nD => by
  have mD : ¬ M1 D := w2.free nD
  have sD : Same H2 (L2.upd H2 D (.lst [])) := Same.new nD
  refine lc_it wk (fun i H' => Wd (adM M1 D) H' ∧ Ex M1 (adM M1 D) H2 H' ∧ ∃ ws, H' D = some (.lst ws) ∧ rDs K (Fx (adM M1 D) H') (((xs.take i).filter p).map f) ws)
    ⟨(w2.same sD).add (by rw [upd_same]; exact fun z => nomatch z), Ex.add sD nD, [], upd_same, rfl⟩ (fun i H' _ z => hG z.2.1) ?_ ?_
  · rintro i x H3 H4 hi' ⟨w3, s3, ws, hD, hws⟩ ⟨s4, d, hd, hr⟩
    rw [List.getElem?_map] at hd
    obtain ⟨y, hy, rfl⟩ := Option.map_eq_some_iff.mp hd
    have hr := hr _ w3 s3.lx
    have w4 := w3.same s4
    have s24 := s3.sm s4
    have tk : xs.take (i + 1) = xs.take i ++ [y] := by rw [List.take_add_one, hy]; rfl
    have hl : ((xs.take i).filter p).length < sizeLine := by
      have h1 := List.length_filter_le p (xs.take i)
      have h2 := (List.getElem?_eq_some_iff.mp hy).1
      rw [List.length_take] at h1
      omega
    refine hg _ _ _ _ _ ?_ (hb y (List.mem_of_getElem? hy) _ H4 x w4 ((s.sm s2).trans s24) hr)
    rintro σ2 H5 ⟨rfl, hw, ht, he⟩
    refine ⟨hw, ht _ H5 w4 Ex.refl _ fun H6 w6 s6 => ?_⟩
    cases hp : p y with
    | true =>
      refine iteT ?_
      refine he hp _ H6 w6 (Ex.same s6) _ fun v H7 w7 s7 hv => ?_
      have s47 : Same H5 H7 := s6.trans s7
      have hD7 := s47 _ _ (s4 _ _ hD)
      have hws7 := (hws.same s4).same s47
      have lu : Lx (adM M1 D) (adM M1 D) H7 (L2.upd H7 D (.lst (ws ++ [v]))) := Lx.upd (.inr rfl)
      refine ⟨ws, hD7, by rw [hws.len, List.length_map]; exact hl, w7.upd, ⟨fun q o h => ?_, s24.u, s24.n⟩, ws ++ [v], upd_same, ?_⟩
      · rw [upd_ne (ne_of_none h nD)]
        exact s47 _ _ (s24.s _ _ h)
      · rw [tk, List.filter_append, List.map_append]
        have e1 : [y].filter p = [y] := by simp [hp]
        rw [e1]
        exact (rDs.mono lu _ _ hws7).append (rDs.one (rD.mono lu _ _ hv))
    | false =>
      refine iteF ?_
      refine ⟨w6, s24.sm s6, ws, s6 _ _ (s4 _ _ hD), ?_⟩
      rw [tk, List.filter_append, List.map_append]
      have e1 : [y].filter p = [] := by simp [hp]
      rw [e1, List.map_nil, List.append_nil]
      exact (hws.same s4).same s6
  · rintro H3 ⟨w3, s3, ws, hD, hws⟩
    rw [List.length_map, List.take_length] at hws
    exact k _ H3 (fun q hq => w3 q (.inl hq)) (s2.trans s3.s) ⟨D, ws, rfl, ⟨hD, mD⟩, rDs.mono Lx.del _ _ hws⟩
theorem ev_lcm {α : Type} {xs : List α} {en : α → D} {f : α → D} {g : TG} {vs : List Nat} (hi : EVI K M σ H wi G (xs.map en)) (hG : ∀ {M M' : Addr → Prop} {H H' : Hp}, Ex M M' H H' → G M H H') (hg : GMono g) (hz : xs.length ≤ sizeLine)
    (hb : ∀ x ∈ xs, ∀ M' H' v, Wd M' H' → Ex M M' H H' → rD K (Fx M' H') (en x) v → g v (wipe σ vs) H' fun σ2 H2 => H2 = H' ∧ wipe σ2 vs = wipe σ vs ∧ EV K M' σ2 H' t (.im (f x))) :
    EV K M σ H (tLc wi g tYes t vs) (.im (.lst (xs.map f))) := by
  have := ev_lcf (tt := tYes) (p := fun _ => true) (f := f) hi hG hg hz fun x hx M' H' v w' s' hv => hg _ _ _ _ _ (fun σ2 H2 z => ⟨z.1, z.2.1, evt_yes, fun _ => z.2.2⟩) (hb x hx M' H' v w' s' hv)
  rw [List.filter_eq_self.mpr (fun _ _ => rfl)] at this
  exact this
end
end Lf

set_option Elab.async false
set_option linter.all false
set_option maxRecDepth 100000
set_option maxHeartbeats 4000000
/-! Statements by data; specs of defs by data. -/
namespace Lf
open PySem PySem.Spec PyProof.Rows L2
section
variable {α β γ δ : Type}
def eL (f : α → D) (xs : List α) : D := .lst (xs.map f)
def eT (f : α → D) (xs : List α) : D := .tup (xs.map f)
def eP2 (f : α → D) (g : β → D) (p : α × β) : D := .tup [f p.1, g p.2]
def eP3 (f : α → D) (g : β → D) (h : γ → D) (p : α × β × γ) : D := .tup [f p.1, g p.2.1, h p.2.2]
def eP4 (f : α → D) (g : β → D) (h : γ → D) (k : δ → D) (p : α × β × γ × δ) : D := .tup [f p.1, g p.2.1, h p.2.2.1, k p.2.2.2]
def eH2 (f : α → D) (g : β → D) (p : α × β) : D := .lst [f p.1, g p.2]
def eH3 (f : α → D) (g : β → D) (h : γ → D) (p : α × β × γ) : D := .lst [f p.1, g p.2.1, h p.2.2]
def eU (_ : Unit) : D := .non
def eO (f : α → D) : Option α → D
  | none => .non
  | some x => f x
end
/-! ### the world of a def: M0 what may change around it, Ls its own lists, Y what it may change of the caller's -/
def Bu (Y : List Addr) (H H' : Hp) : Prop := ∀ q o, H q = some o → q ∉ Y → H' q = some o
theorem Bu.refl {Y : List Addr} {H : Hp} : Bu Y H H := fun _ _ h _ => h
theorem Bu.same {Y : List Addr} {H H' : Hp} (s : Same H H') : Bu Y H H' := fun q o h _ => s q o h
theorem Bu.trans {Y : List Addr} {H H1 H2 : Hp} (a : Bu Y H H1) (b : Bu Y H1 H2) : Bu Y H H2 := fun q o h n => b q o (a q o h n) n
def mxM (M0 : Addr → Prop) (Ls : List Addr) : Addr → Prop := fun q => M0 q ∨ q ∈ Ls
structure Gd (M0 : Addr → Prop) (Ls Y : List Addr) (H0 H : Hp) : Prop where
  wd : Wd (mxM M0 Ls) H
  bu : Bu Y H0 H
  nw : ∀ L ∈ Ls, H0 L = none
  nd : Ls.Nodup
  w0 : Wd M0 H0
  ys : ∀ y ∈ Y, M0 y
theorem nd_ne {Ls : List Addr} {a b : Addr} (nd : Ls.Nodup) (i j : Nat) (hi : Ls[i]? = some a) (hj : Ls[j]? = some b) (h : i ≠ j) : a ≠ b := fun e => by
  subst e
  exact h ((List.getElem?_inj (List.getElem?_eq_some_iff.mp hi).1 nd).mp (hi.trans hj.symm))
section
variable {M0 : Addr → Prop} {Ls Y : List Addr} {H0 H H1 H2 : Hp} {K : PySem.W.Frag}
theorem Gd.same (g : Gd M0 Ls Y H0 H) (s : Same H H1) : Gd M0 Ls Y H0 H1 := ⟨g.wd.same s, g.bu.trans (Bu.same s), g.nw, g.nd, g.w0, g.ys⟩
theorem Gd.start (w : Wd M0 H) (ys : ∀ y ∈ Y, M0 y) : Gd M0 [] Y H H := ⟨fun q h => h.elim (fun h => w q h) (fun h => nomatch h), Bu.refl, fun L h => (nomatch h), List.nodup_nil, w, ys⟩
/-- a new list of one's own -/
theorem Gd.new {L : Addr} {o : HO} (g : Gd M0 Ls Y H0 H) (s : Same H H1) (n : H L = none) (h : H1 L = some o) : Gd M0 (L :: Ls) Y H0 H1 := by
  refine ⟨fun q hq => ?_, g.bu.trans (Bu.same s), fun q hq => ?_, List.nodup_cons.mpr ⟨fun hm => g.wd L (.inr hm) n, g.nd⟩, g.w0, g.ys⟩
  · rcases hq with hq | hq
    · exact (g.wd.same s) q (.inl hq)
    · rcases List.mem_cons.mp hq with rfl | hq
      · rw [h]; exact fun z => nomatch z
      · exact (g.wd.same s) q (.inr hq)
  · rcases List.mem_cons.mp hq with rfl | hq
    · cases e : H0 q with
      | none => rfl
      | some u =>
        by_cases hy : q ∈ Y
        · exact absurd n (g.wd q (.inl (g.ys q hy)))
        · rw [g.bu q u e hy] at n; cases n
    · exact g.nw q hq
theorem Gd.upd {L : Addr} {o : HO} (g : Gd M0 Ls Y H0 H) (h : L ∈ Ls) : Gd M0 Ls Y H0 (L2.upd H L o) := ⟨g.wd.upd, fun q u e n => by rw [upd_ne (ne_of_none e (g.nw L h))]; exact g.bu q u e n, g.nw, g.nd, g.w0, g.ys⟩
theorem Gd.call (g : Gd M0 Ls Y H0 H) (w : Wd (mxM M0 Ls) H1) (b : Bu Y H H1) : Gd M0 Ls Y H0 H1 := ⟨w, g.bu.trans b, g.nw, g.nd, g.w0, g.ys⟩
theorem Gd.sub {Ls' : List Addr} (g : Gd M0 Ls Y H0 H) (s : Ls'.Sublist Ls) : Gd M0 Ls' Y H0 H := ⟨fun q h => g.wd q (h.elim .inl fun h => .inr (s.subset h)), g.bu, fun L h => g.nw L (s.subset h), g.nd.sublist s, g.w0, g.ys⟩
theorem Gd.lx_sub {Ls' : List Addr} (s : ∀ x ∈ Ls', x ∈ Ls) : Lx (mxM M0 Ls) (mxM M0 Ls') H H := fun q o h => ⟨h.1, fun z => h.2 (z.elim .inl fun z => .inr (s q z))⟩
theorem Gd.lx_end : Lx (mxM M0 Ls) M0 H H := fun q o h => ⟨h.1, fun z => h.2 (.inl z)⟩
theorem Gd.ex_new {L : Addr} (s : Same H H1) (n : H L = none) : Ex (mxM M0 Ls) (mxM M0 (L :: Ls)) H H1 := ⟨s, fun q h => h.elim .inl fun h => .inr (List.mem_cons_of_mem _ h), fun q h => by
  rcases h with h | h
  · exact .inl (.inl h)
  · rcases List.mem_cons.mp h with rfl | h
    · exact .inr n
    · exact .inl (.inr h)⟩
theorem Gd.lx_upd {L : Addr} {o : HO} (h : L ∈ Ls) : Lx (mxM M0 Ls) (mxM M0 Ls) H (L2.upd H L o) := Lx.upd (.inr h)
theorem Gd.lx_call (g : Gd M0 Ls Y H0 H) (b : Bu Y H H1) : Lx (mxM M0 Ls) (mxM M0 Ls) H H1 := fun q o h => ⟨b q o h.1 (fun hy => h.2 (.inl (g.ys q hy))), h.2⟩
/-- one's own list is none of the caller's -/
theorem Gd.no (g : Gd M0 Ls Y H0 H) {L : Addr} (h : L ∈ Ls) : ¬ M0 L := g.w0.free (g.nw L h)
theorem Gd.noY (g : Gd M0 Ls Y H0 H) {L : Addr} (h : L ∈ Ls) : L ∉ Y := fun z => g.no h (g.ys L z)
theorem rV.lx {M M' : Addr → Prop} (l : Lx M M' H H1) {d : D} {v : V} (h : rV K M H (.im d) v) : rV K M' H1 (.im d) v := rD.mono l d v h
/-- own lists and dicts -/
def DV.ad : DV → Option Addr
  | .im _ => none
  | .mu L _ => some L
  | .md L _ => some L
theorem mu_upd {L L' : Addr} {x : DV} {v : V} {o : HO} (h : rV K (mxM M0 Ls) H x v) (e : x.ad = some L) (n : L ≠ L') (hL : L' ∈ Ls) : rV K (mxM M0 Ls) (L2.upd H L' o) x v := by
  cases x with
  | im d => cases e
  | mu L ds =>
    cases e
    obtain ⟨h1, vs, h2, h3⟩ := h
    exact ⟨h1, vs, by rw [upd_ne n]; exact h2, rDs.mono (Gd.lx_upd hL) _ _ h3⟩
  | md L ds =>
    cases e
    obtain ⟨h1, vs, h2, h0, h3⟩ := h
    exact ⟨h1, vs, by rw [upd_ne n]; exact h2, h0, rDs.mono (Gd.lx_upd hL) _ _ h3⟩
theorem mu_call {L : Addr} {x : DV} {v : V} (h : rV K (mxM M0 Ls) H x v) (e : x.ad = some L) (g : Gd M0 Ls Y H0 H) (hL : L ∈ Ls) (b : Bu Y H H1) : rV K (mxM M0 Ls) H1 x v := by
  cases x with
  | im d => cases e
  | mu L ds =>
    cases e
    obtain ⟨h1, vs, h2, h3⟩ := h
    exact ⟨h1, vs, b _ _ h2 (g.noY hL), rDs.mono (g.lx_call b) _ _ h3⟩
  | md L ds =>
    cases e
    obtain ⟨h1, vs, h2, h0, h3⟩ := h
    exact ⟨h1, vs, b _ _ h2 (g.noY hL), h0, rDs.mono (g.lx_call b) _ _ h3⟩
theorem mu_sub {Ls' : List Addr} {x : DV} {v : V} (h : rV K (mxM M0 Ls) H x v) (s : ∀ x ∈ Ls', x ∈ Ls) : rV K (mxM M0 Ls') H x v := by
  cases x with
  | im d => exact rD.mono (Gd.lx_sub s) _ _ h
  | mu L ds =>
    obtain ⟨h1, vs, h2, h3⟩ := h
    exact ⟨h1, vs, h2, rDs.mono (Gd.lx_sub s) _ _ h3⟩
  | md L ds =>
    obtain ⟨h1, vs, h2, h0, h3⟩ := h
    exact ⟨h1, vs, h2, h0, rDs.mono (Gd.lx_sub s) _ _ h3⟩
/-- one's own list is given away -/
theorem mu_ret {L : Addr} {ds : List D} {v : V} (h : rV K (mxM M0 Ls) H (.mu L ds) v) (g : Gd M0 Ls Y H0 H) (hL : L ∈ Ls) : rD K (Fx M0 H) (.lst ds) v := by
  obtain ⟨h1, vs, h2, h3⟩ := h
  exact ⟨L, vs, h1, ⟨h2, g.no hL⟩, rDs.mono Gd.lx_end _ _ h3⟩
theorem mu_frz {Ls' : List Addr} {L : Addr} {ds : List D} {v : V} (h : rV K (mxM M0 Ls) H (.mu L ds) v) (g : Gd M0 Ls Y H0 H) (hL : L ∈ Ls) (n : L ∉ Ls') (s : ∀ x ∈ Ls', x ∈ Ls) : rV K (mxM M0 Ls') H (.im (.lst ds)) v := by
  obtain ⟨h1, vs, h2, h3⟩ := h
  exact ⟨L, vs, h1, ⟨h2, fun z => z.elim (g.no hL) n⟩, rDs.mono (Gd.lx_sub s) _ _ h3⟩
end
/-! ### specs of defs by data -/
section
variable {α ρ : Type}
/-- a function of data -/
def spF (K : PySem.W.Frag) (ens : α → List D) (er : ρ → D) (pre : α → Prop) (F : α → ρ) : Sp := fun vs H Q _ => ∃ (M : Addr → Prop) (x : α), Wd M H ∧ rDs K (Fx M H) (ens x) vs ∧ pre x ∧ ∀ v H2, Wd M H2 → Same H H2 → rD K (Fx M H2) (er (F x)) v → Q v H2
/-- what is given is told by S -/
def spP (K : PySem.W.Frag) (ens : α → List D) (er : ρ → D) (S : α → (ρ → Prop) → Prop) : Sp := fun vs H Q _ => ∃ (M : Addr → Prop) (x : α) (P : ρ → Prop), Wd M H ∧ rDs K (Fx M H) (ens x) vs ∧ S x P ∧ ∀ r v H2, P r → Wd M H2 → Same H H2 → rD K (Fx M H2) (er r) v → Q v H2
/-- with a state that changes -/
def spS (SM : Hp → Addr → List Addr → Nat → Prop) (K : PySem.W.Frag) (ens : α → List D) (er : ρ → D) (S : Nat → α → (ρ → Nat → Prop) → Prop) : Sp := fun vs H Q _ => ∃ (M : Addr → Prop) (st : Addr) (Y : List Addr) (n : Nat) (x : α) (us : List V) (P : ρ → Nat → Prop),
  vs = .ref st :: us ∧ Wd M H ∧ (∀ y ∈ Y, M y) ∧ SM H st Y n ∧ rDs K (Fx M H) (ens x) us ∧ S n x P ∧ ∀ r v n' H2, P r n' → Wd M H2 → Bu Y H H2 → SM H2 st Y n' → rD K (Fx M H2) (er r) v → Q v H2
def DV.fr : DV → D
  | .im d => d
  | .mu _ ds => .lst ds
  | .md L _ => .rf L
variable {K : PySem.W.Frag} {M : Addr → Prop} {H : Hp}
theorem rVs.fr : ∀ {ds : List DV} {vs : List V}, rVs K M H ds vs → rDs K (Fx (fun q => M q ∧ ∀ L es, DV.mu L es ∈ ds → q ≠ L) H) (ds.map DV.fr) vs := by
  have key : ∀ {ds : List DV} {vs : List V} (A : List DV), rVs K M H ds vs → (∀ x ∈ ds, x ∈ A) → rDs K (Fx (fun q => M q ∧ ∀ L es, DV.mu L es ∈ A → q ≠ L) H) (ds.map DV.fr) vs := by
    intro ds
    induction ds with
    | nil =>
      intro vs A h _
      cases h
      rfl
    | cons d ds ih =>
      intro vs A h hA
      cases h with
      | cons h1 h2 =>
        have l : Lx M (fun q => M q ∧ ∀ L es, DV.mu L es ∈ A → q ≠ L) H H := fun q o z => ⟨z.1, fun y => z.2 y.1⟩
        refine ⟨_, _, rfl, ?_, ih A h2 fun x hx => hA x (List.mem_cons_of_mem _ hx)⟩
        cases d with
        | im d => exact rD.mono l _ _ h1
        | md L es => exact h1.1
        | mu L es =>
          obtain ⟨e1, ws, e2, e3⟩ := h1
          exact ⟨L, ws, e1, ⟨e2, fun y => y.2 L es (hA _ (List.mem_cons_self ..)) rfl⟩, rDs.mono l _ _ e3⟩
  intro ds vs h
  exact key ds h fun x hx => hx
theorem cd_fn {ens : α → List D} {er : ρ → D} {pre : α → Prop} {F : α → ρ} {E : XK} (x : α) (hp : pre x) : CaD K (fun vs H Q => spF K ens er pre F vs H Q E) ((ens x).map .im) (.im (er (F x))) := fun M H w xs hx Q k => ⟨M, x, w, hx.ims, hp, fun v H2 w2 s2 hv => k v H2 w2 s2 hv⟩
/-- the same of lists of one's own that are only read; what is given has no parts -/
theorem cd_fnS {ens : α → List D} {er : ρ → D} {pre : α → Prop} {F : α → ρ} {E : XK} {ds : List DV} (x : α) (e : ds.map DV.fr = ens x) (hp : pre x) (hs : ∀ R R' v, rD K R (er (F x)) v → rD K R' (er (F x)) v) : CaD K (fun vs H Q => spF K ens er pre F vs H Q E) ds (.im (er (F x))) := fun M H w xs hx Q k =>
  ⟨fun q => M q ∧ ∀ L es, DV.mu L es ∈ ds → q ≠ L, x, fun q hq => w q hq.1, by rw [← e]; exact hx.fr, hp, fun v H2 w2 s2 hv => k v H2 (w.same s2) s2 (hs _ _ _ hv)⟩
end
/-! ### statements -/
section
variable {t te ta tb : TE} {u c1 c2 : TS} {D : Ends} {σ : L2.St} {H : Hp} {i : Nat} {tt : TT} {wi : TI} {g : TG} {r : R2} {tA : TA} {Q : VK} {d : DV} {M : Addr → Prop} {K : PySem.W.Frag} {sp : Sp} {E : XK}
theorem st_set (h : te σ H fun v H2 => u D (σ.set i (some v)) H2) : tSeq (tAsg te (gName i)) u D σ H := h
theorem st_ret (h : te σ H fun v H2 => D.rt v H2) : tSeq (tRet te) u D σ H := h
theorem st_expr (h : te σ H fun _ H2 => u D σ H2) : tSeq (tDrop te) u D σ H := h
theorem st_if (h : tt σ H fun b H1 => if b = true then c1 { D with nx := u D } σ H1 else c2 { D with nx := u D } σ H1) : tSeq (tIfS tt c1 c2) u D σ H := h
theorem if_cut {c : TT} {a b u : TS} {D : Ends} {σ : L2.St} {H : Hp} (P : L2.St → Hp → Prop) (h1 : ∀ nx' : L2.St → Hp → Prop, (∀ σ' H', P σ' H' → nx' σ' H') → tIfS c a b { D with nx := nx' } σ H) (h2 : ∀ σ' H', P σ' H' → u D σ' H') : tSeq (tIfS c a b) u D σ H := h1 (u D) h2
theorem wite {b : Bool} {A B G1 G2 : Prop} (hw : if b = true then A else B) (h1 : A → G1) (h2 : B → G2) : if b = true then G1 else G2 := by
  cases b with
  | true => exact iteT (h1 (by simpa using hw))
  | false => exact iteF (h2 (by simpa using hw))
/-! steps of effects -/
theorem x_opl (ha : EV K M σ H ta d) (w : Wd M H) (k : ∀ v H2, Wd M H2 → Same H H2 → rV K M H2 d v → tb σ H2 fun y H3 => r v y H3 Q) : tOp r ta tb σ H Q := ha.go w k
/-- an operator at its values -/
def AppR (r : R2) (x y : V) (H : Hp) (Q : VK) : Prop := r x y H Q
theorem x_op (h : ta σ H fun x H1 => tb σ H1 fun y H2 => AppR r x y H2 Q) : tOp r ta tb σ H Q := h
theorem opd_go {d e f : DV} {x y : V} (ho : OpD K r d e f) (w : Wd M H) (hx : rV K M H d x) (hy : rV K M H e y) (k : ∀ v H2, Wd M H2 → Same H H2 → rV K M H2 f v → Q v H2) : AppR r x y H Q := ho M H w x y hx hy Q k
theorem x_call {dvs : List V} (h : tA σ H fun vs H1 => sp (vs ++ dvs) H1 Q E) : tCall sp dvs E tA σ H Q := h
theorem x_cons {Q : List V → Hp → Prop} (h : ta σ H fun x H1 => tA σ H1 fun xs H2 => Q (x :: xs) H2) : tCons ta tA σ H Q := h
theorem x_nil {Q : List V → Hp → Prop} (h : Q [] H) : tNil σ H Q := h
theorem x_test {Q : Bool → Hp → Prop} (h : te σ H fun x H' => ∃ k, x = .bl k ∧ Q k H') : tTest te σ H Q := h
theorem EV.goA {α : Type} {en : α → Lf.D} {x0 : α} (h : EV K M σ H t (.im (en x0))) (w : Wd M H) (k : ∀ x, x = x0 → ∀ v H2, Wd M H2 → Same H H2 → rV K M H2 (.im (en x)) v → Q v H2) : t σ H Q := h.go w (k x0 rfl)
theorem ev_vi {x : Int} (h : σ[i]? = some (some (.int x))) : EV K M σ H (tVar i) (.im (.int x)) := ev_var h rfl
theorem ev_vs {x : Str} (h : σ[i]? = some (some (.str x))) : EV K M σ H (tVar i) (.im (.str x)) := ev_var h rfl
theorem ev_vb {x : Bool} (h : σ[i]? = some (some (.bl x))) : EV K M σ H (tVar i) (.im (.bl x)) := ev_var h rfl
theorem ev_vr {x : Addr} (h : σ[i]? = some (some (.ref x))) : EV K M σ H (tVar i) (.im (.rf x)) := ev_var h rfl
theorem EVI.gom {α : Type} {en : α → Lf.D} {xs : List α} {G : (Addr → Prop) → Hp → Hp → Prop} (h : EVI K M σ H wi G (xs.map en)) (w : Wd M H) {R : It → Hp → Prop} (k : ∀ J H2, Wd M H2 → Same H H2 → Walk J xs.length (G M H2) (YD K M H2 (xs.map en)) → R J H2) : wi σ H R := h.go w fun J H2 w2 s2 wk => k J H2 w2 s2 (by rw [List.length_map] at wk; exact wk)
theorem yd_map {α : Type} {en : α → Lf.D} {xs : List α} {H0 H' : Hp} {j : Nat} {x : V} (h : YD K M H0 (xs.map en) j H x H') : ∃ y, xs[j]? = some y ∧ Same H H' ∧ ∀ M', Wd M' H → Lx M M' H0 H → rD K (Fx M' H') (en y) x := by
  obtain ⟨s, d, hd, hr⟩ := h
  rw [List.getElem?_map] at hd
  obtain ⟨y, hy, rfl⟩ := Option.map_eq_some_iff.mp hd
  exact ⟨y, hy, s, hr⟩
end
/-! ### new lists of one's own -/
section
variable {K : PySem.W.Frag} {M : Addr → Prop} {σ : L2.St} {H H' : Hp} {t ta tb tc : TE} {tt tu : TT} {tA : TA} {d e f : DV} {ds es : List D}
def EVN (K : PySem.W.Frag) (M : Addr → Prop) (σ : L2.St) (H : Hp) (t : TE) (ds : List D) : Prop := ∀ H1, Wd M H1 → Same H H1 → ∀ Q : VK, (∀ p H2 H3, Wd M H2 → Same H1 H2 → H2 p = none → Same H2 H3 → ∀ vs, H3 p = some (.lst vs) → rDs K (Fx M H2) ds vs → Q (.ref p) H3) → t σ H1 Q
theorem EVN.go (h : EVN K M σ H t ds) (w : Wd M H) {Q : VK} (k : ∀ p H2 H3, Wd M H2 → Same H H2 → H2 p = none → Same H2 H3 → ∀ vs, H3 p = some (.lst vs) → rDs K (Fx M H2) ds vs → Q (.ref p) H3) : t σ H Q := h H w (Same.refl _) Q k
theorem evn_lst (ha : EVA K M σ H tA (ds.map .im)) (hz : ds.length ≤ 1000) : EVN K M σ H (tLstS tA) ds := fun H1 w s Q k =>
  ha M H1 w (Ex.same s) _ fun xs H2 w2 s2 hx => ⟨sz_of (by rw [hx.len, List.length_map]; omega), fun p H3 np s3 hp => k p H2 H3 w2 s2 np s3 xs hp hx.ims⟩
theorem evn_cat (ha : EV K M σ H ta d) (hb : EV K M σ H tb e) (h1 : LsOf d ds) (h2 : LsOf e es) (hz : ds.length + es.length ≤ sizeLine) : EVN K M σ H (tOp rCatS ta tb) (ds ++ es) := fun H1 w s Q k =>
  ha M H1 w (Ex.same s) _ fun x H2 w2 s2 hx => hb M H2 w2 (Ex.same (s.trans s2)) _ fun y H3 w3 s3 hy => by
    obtain ⟨a, vs, e1, e2, e3⟩ := h1.get (hx.same s3)
    obtain ⟨b, ws, f1, f2, f3⟩ := h2.get hy
    exact ⟨a, b, vs, ws, e1, f1, e2, f2, by rw [e3.len, f3.len]; exact hz, fun p H' np s' hp => k p H3 H' w3 (s2.trans s3) np s' _ hp (e3.append f3)⟩
theorem evn_list (ha : EV K M σ H ta d) (h1 : SqOf d ds) : EVN K M σ H (tCB (rListOfS K) (tCons ta tNil)) ds := fun H1 w s Q k =>
  ha M H1 w (Ex.same s) _ fun x H2 w2 s2 hx => by
    obtain ⟨a, vs, rfl, e2, e3⟩ := h1.get hx
    exact ⟨a, vs, rfl, e2, fun p H' np s' hp => k p H2 H' w2 s2 np s' _ hp e3⟩
theorem rDs.lx {M M' : Addr → Prop} {H1 : Hp} (l : Lx M M' H H1) {vs : List V} (h : rDs K (Fx M H) ds vs) : rDs K (Fx M' H1) ds vs := rDs.mono l ds vs h
/-- L.append(x) -/
theorem x_append {M0 : Addr → Prop} {Ls : List Addr} {L : Addr} {Q : VK} {x : V} {d : D} {v : V} (h : rV K (mxM M0 Ls) H (.mu L ds) v) (hx : rV K (mxM M0 Ls) H (.im d) x) (hL : L ∈ Ls) (hz : ds.length < sizeLine)
    (k : ∀ H2, (∃ vs, H2 = L2.upd H L (.lst vs)) → rV K (mxM M0 Ls) H2 (.mu L (ds ++ [d])) v → Q .non H2) : rAppend v [x] H Q := by
  obtain ⟨rfl, vs, h2, h3⟩ := h
  refine ⟨L, vs, x, rfl, rfl, h2, by rw [h3.len]; exact hz, k _ ⟨_, rfl⟩ ⟨rfl, _, upd_same, ?_⟩⟩
  exact (rDs.mono (Gd.lx_upd hL) _ _ h3).append (rDs.one (rD.mono (Gd.lx_upd hL) _ _ hx))
theorem x_bm {r : V → List V → Hp → VK → Prop} {Q : VK} (ha : EV K M σ H ta d) (hl : LsOf d ds) (w : Wd M H) (k : ∀ v H2, Wd M H2 → Same H H2 → rV K M H2 d v → tA σ H2 fun xs H3 => r v xs H3 Q) : tBM K "list" r ta tA σ H Q := ha.go w fun v H2 w2 s2 hv => by
  obtain ⟨a, vs, rfl, h2, h3⟩ := hl.get hv
  exact ⟨.inl ⟨rfl, _, SqL.of h2⟩, k _ H2 w2 s2 hv⟩
end
end Lf

set_option Elab.async false
set_option linter.all false
set_option maxRecDepth 100000
set_option maxHeartbeats 4000000
/-! Further steps. -/
namespace Lf
open PySem PySem.Spec PyProof.Rows L2
section
variable {M0 : Addr → Prop} {Ls Y : List Addr} {H0 H H1 H2 : Hp} {K : PySem.W.Frag}
theorem Gd.lx0 : Lx M0 (mxM M0 []) H H := fun q o h => ⟨h.1, fun z => z.elim h.2 (fun z => nomatch z)⟩
theorem Gd.w_end (g : Gd M0 Ls Y H0 H) : Wd M0 H := fun q h => g.wd q (.inl h)
theorem Bu.nil {Y : List Addr} (b : Bu Y H H1) (e : Y = []) : Same H H1 := fun q o h => b q o h (by rw [e]; simp)
theorem pick_mem {Ls' : List Addr} {is : List Nat} (e : is.map (fun i => Ls[i]?) = Ls'.map some) : ∀ x ∈ Ls', x ∈ Ls := fun x hx => by
  have : some x ∈ Ls'.map some := List.mem_map_of_mem hx
  rw [← e] at this
  obtain ⟨i, _, hi⟩ := List.mem_map.mp this
  exact List.mem_of_getElem? hi
theorem pick_nd {Ls : List Addr} (nd : Ls.Nodup) : ∀ {Ls' : List Addr} {is : List Nat}, is.Nodup → is.map (fun i => Ls[i]?) = Ls'.map some → Ls'.Nodup
  | [], [], _, _ => List.nodup_nil
  | [], _ :: _, _, e => by simp at e
  | _ :: _, [], _, e => by simp at e
  | x :: xs, i :: is, hn, e => by
    simp only [List.map_cons, List.cons.injEq] at e
    obtain ⟨h1, h2⟩ := List.nodup_cons.mp hn
    refine List.nodup_cons.mpr ⟨fun hx => ?_, pick_nd nd h2 e.2⟩
    have : some x ∈ xs.map some := List.mem_map_of_mem hx
    rw [← e.2] at this
    obtain ⟨j, hj, ej⟩ := List.mem_map.mp this
    by_cases hij : i = j
    · subst hij; exact h1 hj
    · exact nd_ne nd i j e.1 ej hij rfl
theorem Gd.pick {Ls' : List Addr} (g : Gd M0 Ls Y H0 H) (is : List Nat) (hn : is.Nodup) (e : is.map (fun i => Ls[i]?) = Ls'.map some) : Gd M0 Ls' Y H0 H := ⟨fun q h => g.wd q (h.elim .inl fun h => .inr (pick_mem e q h)), g.bu, fun L h => g.nw L (pick_mem e L h), pick_nd g.nd hn e, g.w0, g.ys⟩
theorem Gd.lx_pick {Ls' : List Addr} (is : List Nat) (e : is.map (fun i => Ls[i]?) = Ls'.map some) : Lx (mxM M0 Ls) (mxM M0 Ls') H H := Gd.lx_sub (pick_mem e)
theorem mu_pick {Ls' : List Addr} {x : DV} {v : V} (h : rV K (mxM M0 Ls) H x v) (is : List Nat) (e : is.map (fun i => Ls[i]?) = Ls'.map some) : rV K (mxM M0 Ls') H x v := mu_sub h (pick_mem e)
theorem mu_frzp {Ls' : List Addr} {L : Addr} {ds : List D} {v : V} {i : Nat} (h : rV K (mxM M0 Ls) H (.mu L ds) v) (g : Gd M0 Ls Y H0 H) (hi : Ls[i]? = some L) (is : List Nat) (hn : i ∉ is) (e : is.map (fun i => Ls[i]?) = Ls'.map some) : rV K (mxM M0 Ls') H (.im (.lst ds)) v :=
  mu_frz h g (List.mem_of_getElem? hi) (fun hm => by
    have : some L ∈ Ls'.map some := List.mem_map_of_mem hm
    rw [← e] at this
    obtain ⟨j, hj, ej⟩ := List.mem_map.mp this
    by_cases hij : i = j
    · subst hij; exact hn hj
    · exact nd_ne g.nd i j hi ej hij rfl) (pick_mem e)
end
section
variable {t te ta tb : TE} {u c1 c2 : TS} {D : Ends} {σ : L2.St} {H : Hp} {i : Nat} {tt tu : TT} {wi : TI} {g : TG} {tA : TA} {Q : VK} {M : Addr → Prop} {K : PySem.W.Frag}
theorem st_par {j : Nat} (h : tA σ H fun vs H1 => ∃ v w, vs = [v, w] ∧ u D ((σ.set i (some v)).set j (some w)) H1) : tSeq (tPar i j tA) u D σ H := h
theorem st_asgT (h : te σ H fun v H2 => g v σ H2 (u D)) : tSeq (tAsg te g) u D σ H := h
theorem st_next {nx bk ct : L2.St → Hp → Prop} {rt : V → Hp → Prop} (h : nx σ H) : tNext { nx := nx, rt := rt, bk := bk, ct := ct } σ H := h
theorem x_and {Q : Bool → Hp → Prop} (h : tt σ H fun c H1 => if c = true then tu σ H1 Q else Q false H1) : tAnd tt tu σ H Q := h
theorem x_lst (h : tA σ H fun xs H1 => xs.length ≤ sizeLine ∧ ∀ p H', H1 p = none → Same H1 H' → H' p = some (.lst xs) → Q (.ref p) H') : tLstS tA σ H Q := h
theorem x_tup (h : tA σ H fun xs H1 => xs.length ≤ sizeLine ∧ ∀ p H', H1 p = none → Same H1 H' → H' p = some (.tup xs) → Q (.ref p) H') : tTupS tA σ H Q := h
/-- a walk and what follows it -/
def FORQ (J : It) (g : TG) (c1 u : TS) (D : Ends) (σ : L2.St) (H1 : Hp) : Prop := ∃ W : Nat → Nat → L2.St → Hp → Prop, (∃ m, W 0 m σ H1) ∧ ∀ i m σ H, W i m σ H →
      (J.stop i H ∧ (u D) σ H) ∨ (J.go i H ∧ ∃ N : L2.St → Hp → Prop, (∀ σ' H', N σ' H' → ∃ m', m' < m ∧ W (i + 1) m' σ' H') ∧ ∀ x H', J.yld i H x H' → g x σ H' fun σ2 H2 => c1 { { D with nx := u D } with nx := N, ct := N, bk := u D } σ2 H2)
theorem st_for (h : wi σ H fun J H1 => FORQ J g c1 u D σ H1) : tSeq (tFor wi g c1) u D σ H := h
theorem st_forit {J : It} {n : Nat} {G : Hp → Prop} {Yy : Nat → Hp → V → Hp → Prop} (wk : Walk J n G Yy) (Pv : Nat → L2.St → Hp → Prop) (h0 : Pv 0 σ H) (hG : ∀ i σ H, i ≤ n → Pv i σ H → G H)
    (hs : ∀ i x σ H H', i < n → Pv i σ H → Yy i H x H' → g x σ H' fun σ2 H2 => c1 { nx := Pv (i + 1), rt := D.rt, bk := u D, ct := Pv (i + 1) } σ2 H2) (hd : ∀ σ H, Pv n σ H → u D σ H) : FORQ J g c1 u D σ H :=
  for_it (D := { D with nx := u D }) wk Pv h0 hG hs hd
end
section
variable {K : PySem.W.Frag} {M : Addr → Prop} {σ : L2.St} {H H' : Hp} {t ta tb tc : TE} {tt tu : TT} {tA : TA} {d e f : DV} {wi : TI} {G : (Addr → Prop) → Hp → Hp → Prop} {es : List D}
/-! comprehensions, typed -/
theorem ev_lcmm {α β : Type} {xs : List α} {en : α → D} {fd : α → β} {en2 : β → D} {g : TG} {vs : List Nat} (hi : EVI K M σ H wi G (xs.map en)) (hG : ∀ {M M' : Addr → Prop} {H H' : Hp}, Ex M M' H H' → G M H H') (hg : GMono g) (hz : xs.length ≤ sizeLine)
    (hb : ∀ x ∈ xs, ∀ M' H' v, Wd M' H' → Ex M M' H H' → rD K (Fx M' H') (en x) v → g v (wipe σ vs) H' fun σ2 H2 => H2 = H' ∧ wipe σ2 vs = wipe σ vs ∧ EV K M' σ2 H' t (.im (en2 (fd x)))) :
    EV K M σ H (tLc wi g tYes t vs) (.im (eL en2 (xs.map fd))) := by
  have := ev_lcm (f := fun x => en2 (fd x)) hi hG hg hz hb
  unfold eL
  rw [List.map_map]
  exact this
theorem ev_lcfm {α β : Type} {xs : List α} {en : α → D} {fd : α → β} {en2 : β → D} {p : α → Bool} {g : TG} {vs : List Nat} (hi : EVI K M σ H wi G (xs.map en)) (hG : ∀ {M M' : Addr → Prop} {H H' : Hp}, Ex M M' H H' → G M H H') (hg : GMono g) (hz : xs.length ≤ sizeLine)
    (hb : ∀ x ∈ xs, ∀ M' H' v, Wd M' H' → Ex M M' H H' → rD K (Fx M' H') (en x) v → g v (wipe σ vs) H' fun σ2 H2 => H2 = H' ∧ wipe σ2 vs = wipe σ vs ∧ EVT M' σ2 H' tt (p x) ∧ (p x = true → EV K M' σ2 H' t (.im (en2 (fd x))))) :
    EV K M σ H (tLc wi g tt t vs) (.im (eL en2 ((xs.filter p).map fd))) := by
  have := ev_lcf (f := fun x => en2 (fd x)) hi hG hg hz hb
  unfold eL
  rw [List.map_map]
  exact this
theorem ev_lcff {α : Type} {xs : List α} {en : α → D} {p : α → Bool} {g : TG} {vs : List Nat} (hi : EVI K M σ H wi G (xs.map en)) (hG : ∀ {M M' : Addr → Prop} {H H' : Hp}, Ex M M' H H' → G M H H') (hg : GMono g) (hz : xs.length ≤ sizeLine)
    (hb : ∀ x ∈ xs, ∀ M' H' v, Wd M' H' → Ex M M' H H' → rD K (Fx M' H') (en x) v → g v (wipe σ vs) H' fun σ2 H2 => H2 = H' ∧ wipe σ2 vs = wipe σ vs ∧ EVT M' σ2 H' tt (p x) ∧ (p x = true → EV K M' σ2 H' t (.im (en x)))) :
    EV K M σ H (tLc wi g tt t vs) (.im (eL en (xs.filter p))) := ev_lcf (f := en) hi hG hg hz hb
theorem ev_slLm {α : Type} {en : α → D} {xs : List α} {lo hi : Option Int} {tl th : TO} (hd : LsOf d (xs.map en)) (he : EV K M σ H t d) (hl : EVO M σ H tl lo) (hh : EVO M σ H th hi) : EV K M σ H (tSl (rSlLS K) t tl th) (.im (eL en (cutD xs lo hi))) := by
  unfold eL
  rw [← cutD_map]
  exact ev_slL hd he hl hh
theorem evn_catm {α : Type} {en : α → D} {xs ys : List α} (ha : EV K M σ H ta d) (hb : EV K M σ H tb e) (h1 : LsOf d (xs.map en)) (h2 : LsOf e (ys.map en)) (hz : xs.length + ys.length ≤ sizeLine) : EVN K M σ H (tOp rCatS ta tb) ((xs ++ ys).map en) := by
  rw [List.map_append]
  exact evn_cat ha hb h1 h2 (by rw [List.length_map, List.length_map]; exact hz)
theorem od_pow {i j : Int} (h : CPow i j) : OpD K rPowI (.im (.int i)) (.im (.int j)) (.im (.int (i ^ j.toNat))) := od_i h fun _ => rfl
/-! isinstance of a built-in class -/
def tyD : D → Option String
  | .non => some "NoneType"
  | .bl _ => some "bool"
  | .int _ => some "int"
  | .str _ => some "str"
  | .lst _ => some "list"
  | .tup _ => some "tuple"
  | _ => none
theorem tyX_of {M : Addr → Prop} {H : Hp} {a : String} {d : D} {v : V} (h : rD K (Fx M H) d v) (e : tyD d = some a) : TyX K H v (.type a) := by
  cases d with
  | non => cases (Option.some.inj e); cases (show v = .non from h); exact .base .non
  | bl b => cases (Option.some.inj e); cases (show v = .bl b from h); exact .base (.bl b)
  | int b => cases (Option.some.inj e); cases (show v = .int b from h); exact .base (.int b)
  | str b => cases (Option.some.inj e); cases (show v = .str b from h); exact .base (.str b)
  | lst b =>
    cases (Option.some.inj e)
    obtain ⟨p, vs, rfl, h2, _⟩ := h
    exact .base (.lst h2.1)
  | tup b =>
    cases (Option.some.inj e)
    obtain ⟨p, vs, rfl, h2, _⟩ := h
    rcases h2 with h2 | ⟨o, h2⟩ | ⟨o, its, n, h2, h3, _⟩
    · exact .base (.tup h2.1)
    · exact .fTuple h2.1
    · exact .kTuple h2 h3
  | ob _ _ _ => exact absurd e (by unfold tyD; exact fun z => nomatch z)
  | dk _ _ => exact absurd e (by unfold tyD; exact fun z => nomatch z)
  | rf _ => exact absurd e (by unfold tyD; exact fun z => nomatch z)
  | ty _ => exact absurd e (by unfold tyD; exact fun z => nomatch z)
theorem cd_isi {x : D} {a b : String} {r : Bool} (e : tyD x = some a) (h : kitB a b = some r) : CaD K (rIsi K) [.im x, .im (.ty b)] (.im (.bl r)) := fun M H w xs hx Q k => by
  cases hx with
  | cons h1 h2 =>
    cases h2 with
    | cons h2 h3 =>
      cases h3
      cases h2
      exact ⟨_, _, _, _, r, rfl, .ty _, tyX_of h1 e, kit_ty h, k _ H w (Same.refl _) rfl⟩
/-! index -/
theorem md_indexS {xs : List Str} {x : Str} (h : LsOf d (xs.map .str)) (hx : x ∈ xs) : MtD K (rIndex K) d [.im (.str x)] (.im (.int (xs.idxOf x : Nat))) := fun M H w v vs hv hvs Q k => by
  obtain ⟨a, ws, rfl, e2, e3⟩ := h.get hv
  cases e3.strs
  cases hvs with
  | cons h1 h2 =>
    cases h2
    cases h1
    have hl := List.idxOf_lt_length_of_mem hx
    refine ⟨a, _, .str x, xs.idxOf x, .str x, rfl, rfl, SqL.of e2, rfl, flat_strs' xs, ?_, ?_, fun m z hm hz => ?_, k _ H w (Same.refl _) rfl⟩
    · rw [List.getElem?_map, List.getElem?_eq_getElem hl, List.getElem_idxOf hl]
      rfl
    · show (x == x) = true
      exact beq_self_eq_true x
    · rw [List.getElem?_map] at hz
      obtain ⟨y, hy, rfl⟩ := Option.map_eq_some_iff.mp hz
      show (y == x) = false
      obtain ⟨hm', ey⟩ := List.getElem?_eq_some_iff.mp hy
      have := List.not_of_lt_findIdx (p := (· == x)) (xs := xs) hm
      rw [ey] at this
      simpa using this
/-! n times -/
def repL {α : Type} (xs : List α) (i : Int) : List α := (List.replicate i.toNat xs).flatten
def RepC {α : Type} (xs : List α) (i : Int) : Prop := -(2 ^ 63) ≤ i ∧ i < 2 ^ 63 ∧ xs.length * i.toNat ≤ sizeLine
theorem repL_map {α β : Type} (g : α → β) (xs : List α) (i : Int) : (List.replicate i.toNat (xs.map g)).flatten = (repL xs i).map g := by
  unfold repL
  rw [List.map_flatten, List.map_replicate]
theorem od_repm {α : Type} {en : α → D} {xs : List α} {i : Int} (h1 : LsOf d (xs.map en)) (h : RepC xs i) : OpD K rRepS d (.im (.int i)) (.im (eL en (repL xs i))) := by
  unfold eL
  rw [← repL_map]
  exact od_rep h1 h.1 h.2.1 (by rw [List.length_map]; exact h.2.2)
theorem x_rng1 {R : It → Hp → Prop} (h : tA σ H fun vs H1 => ∃ j : Int, vs = [.int j] ∧ -(2 ^ 62) ≤ j ∧ j < 2 ^ 62 ∧ R (Itr 0 j.toNat) H1) : iRng1 tA σ H R := h
theorem wk_range1 {n : Int} : Walk (Itr 0 n.toNat) (rngI 0 n).length (GI M H) (YD K M H ((rngI 0 n).map .int)) := by
  rw [rngI_len, Int.sub_zero]
  refine walk_range.mono (fun _ _ => True.intro) fun i H' x H'' hi g y => ?_
  obtain ⟨e1, e2⟩ := y
  rw [e1]
  refine ⟨Same.refl _, .int (0 + (i : Int)), ?_, fun _ _ _ => e2⟩
  rw [List.getElem?_map, rngI_get (by omega)]
  rfl
/-! min, max -/
abbrev rMin2 : List V → Hp → VK → Prop := fun xs H Q => ∃ i j : Int, xs = [.int i, .int j] ∧ Q (.int (if j < i then j else i)) H
abbrev rMax2 : List V → Hp → VK → Prop := fun xs H Q => ∃ i j : Int, xs = [.int i, .int j] ∧ Q (.int (if i < j then j else i)) H
theorem cd_min2 {i j : Int} : CaD K rMin2 [.im (.int i), .im (.int j)] (.im (.int (if j < i then j else i))) := fun M H w xs hx Q k => by
  cases hx with
  | cons h1 h2 =>
    cases h2 with
    | cons h2 h3 =>
      cases h3; cases h1; cases h2
      exact ⟨i, j, rfl, k _ H w (Same.refl _) rfl⟩
theorem cd_max2 {i j : Int} : CaD K rMax2 [.im (.int i), .im (.int j)] (.im (.int (if i < j then j else i))) := fun M H w xs hx Q k => by
  cases hx with
  | cons h1 h2 =>
    cases h2 with
    | cons h2 h3 =>
      cases h3; cases h1; cases h2
      exact ⟨i, j, rfl, k _ H w (Same.refl _) rfl⟩
end
end Lf

set_option Elab.async false
set_option linter.all false
set_option maxRecDepth 100000
set_option maxHeartbeats 4000000
/-! sorted(list of tuples of ints), of any number. -/
namespace Lf
open PySem PySem.Spec PyProof.Rows L2 SrtO
def IsTI (h : Heap) (v : Value) (ns : List Int) : Prop := ∃ a o its n, v = .ref a ∧ h.get? a = some o ∧ o.cls = .type "tuple" ∧ o.data = .seq its n ∧ Vals (ns.map V.int) its.toList
theorem IsTI.keeps {h h' : Heap} {v : Value} {ns : List Int} (p : IsTI h v ns) (k : ∀ b o, h.get? b = some o → o.cls = .type "tuple" → h'.get? b = some o) : IsTI h' v ns := by
  obtain ⟨a, o, t, n, e, ho, hc, hd, hv⟩ := p
  exact ⟨a, o, t, n, e, k _ _ ho hc, hc, hd, hv⟩
theorem lexLt_irr : ∀ ns : List Int, HT.lexLt ns ns = false
  | [] => rfl
  | n :: ns => by rw [HT.lexLt_cons, if_pos rfl]; exact lexLt_irr ns
theorem lexLt_asym : ∀ ns ms : List Int, HT.lexLt ns ms = true → HT.lexLt ms ns = false
  | [], [], h => by cases h
  | [], m :: ms, h => rfl
  | n :: ns, [], h => by cases h
  | n :: ns, m :: ms, h => by
    rw [HT.lexLt_cons] at h ⊢
    by_cases e : n = m
    · rw [if_pos e] at h
      rw [if_pos e.symm]
      exact lexLt_asym ns ms h
    · rw [if_neg e, decide_eq_true_eq] at h
      rw [if_neg (fun z => e z.symm), decide_eq_false_iff_not]
      omega
theorem lexLt_tr : ∀ x y z : List Int, HT.lexLt x y = false → HT.lexLt y z = false → HT.lexLt x z = false
  | [], [], z, h1, h2 => h2
  | [], y :: ys, z, h1, h2 => by cases h1
  | x :: xs, y, [], h1, h2 => rfl
  | x :: xs, [], z :: zs, h1, h2 => by cases h2
  | x :: xs, y :: ys, z :: zs, h1, h2 => by
    rw [HT.lexLt_cons] at h1 h2 ⊢
    by_cases e1 : x = y
    · by_cases e2 : y = z
      · rw [if_pos e1] at h1
        rw [if_pos e2] at h2
        rw [if_pos (e1.trans e2)]
        exact lexLt_tr xs ys zs h1 h2
      · rw [if_neg e2, decide_eq_false_iff_not] at h2
        rw [if_neg (fun e => e2 (e1.symm.trans e)), decide_eq_false_iff_not]
        omega
    · rw [if_neg e1, decide_eq_false_iff_not] at h1
      by_cases e2 : y = z
      · rw [if_neg (fun e => e1 (e.trans e2.symm)), decide_eq_false_iff_not]
        omega
      · rw [if_neg e2, decide_eq_false_iff_not] at h2
        rw [if_neg (by omega), decide_eq_false_iff_not]
        omega
theorem swo_lexT {α : Type} (k : α → List Int) : Swo fun v u => HT.lexLt (k v) (k u) := ⟨fun x y h => lexLt_asym _ _ h, fun x y z h1 h2 => lexLt_tr _ _ _ h2 h1⟩
section
variable {prog : Program} {w : World} {A : Around} {E : Value → Shared → Prop} {s : Shared}
theorem int_lex {R : Bool} : ∀ {ns ms : List Int} {us ws : List Value} (i : Nat) {fin : Bool}, Vals (ns.map V.int) us → Vals (ms.map V.int) ws → fin = decide (ns.length < ms.length) → R = HT.lexLt ns ms →
    PySem.W.KatLex prog w A true fin (fun r s' => s' = s ∧ r = R) (us.zip ws) i s
  | [], [], us, ws, i, fin, h1, h2, hf, hR => by
    cases h1; cases h2
    exact PySem.W.kat_nil ⟨rfl, by rw [hf, hR]; rfl⟩
  | [], m :: ms, us, ws, i, fin, h1, h2, hf, hR => by
    cases h1
    exact PySem.W.kat_nil ⟨rfl, by rw [hf, hR]; rfl⟩
  | n :: ns, [], us, ws, i, fin, h1, h2, hf, hR => by
    cases h2
    rw [List.zip_nil_right]
    exact PySem.W.kat_nil ⟨rfl, by rw [hf, hR]; rfl⟩
  | n :: ns, m :: ms, us, ws, i, fin, h1, h2, hf, hR => by
    cases h1 with
    | cons r1 h1 =>
      cases h2 with
      | cons r2 h2 =>
        obtain ⟨t, rfl⟩ := r1
        obtain ⟨u, rfl⟩ := r2
        rw [List.zip_cons_cons]
        rw [HT.lexLt_cons] at hR
        refine PySem.W.kat_cons (SeqAt.EqAt.int_int n t m u prog w _ _ ?_)
        refine PySem.W.kat_go (fun e1 => ?_) (fun e1 => ?_)
        · have ex : n = m := by simpa using e1
          rw [if_pos ex] at hR
          exact PySem.W.kat_yes (int_lex (i + 1) h1 h2 (by rw [hf]; simp) hR)
        · have ex : ¬ n = m := by simpa using e1
          rw [if_neg ex] at hR
          refine PySem.W.kat_no ?_
          cases hb : (true && i == 0) with
          | true => exact oneLt_int ⟨rfl, hR.symm⟩
          | false => exact PySem.W.kat_one _ _ (PyProof.Rows.lt_int (show s = s ∧ decide (n < m) = R from ⟨rfl, hR.symm⟩))
theorem tup_cmp {vs : List Value} {k : Value → List Int} (hp : ∀ v ∈ vs, IsTI s.heap v (k v)) : Cmp prog w A s (tuples' true) (fun p => p.1 ∈ vs) (lt2 fun v u => HT.lexLt (k v) (k u)) := by
  intro p q hm hm'
  obtain ⟨a, o, its, n, e, ho, hc, hd, hv⟩ := hp _ hm
  obtain ⟨a', o', its', n', e', ho', hc', hd', hv'⟩ := hp _ hm'
  show wpAny (model prog w) A (keyLt' (tuples' true) p.1 q.1) (fun r s' => s' = s ∧ r = HT.lexLt (k p.1) (k q.1)) (fun _ _ => False) s
  have l1 : (k p.1).length = its.size := by simpa using hv.length
  have l2 : (k q.1).length = its'.size := by simpa using hv'.length
  generalize k p.1 = ns at hv l1 ⊢
  generalize k q.1 = ms at hv' l2 ⊢
  rw [e, e']
  exact PySem.W.kat_lt ho hd ho' hd' (int_lex 0 hv hv' (by rw [l1, l2]) rfl)
theorem firsts_ofT {h : Heap} : ∀ {vs : List Value}, (∀ v ∈ vs, ∃ ns, IsTI h v ns ∧ ns ≠ []) → ∃ fs : List Value, PySem.W.KatTups h vs fs ∧ fs.length = vs.length ∧ ∀ f ∈ fs, ∃ x t, f = Value.int x t
  | [], _ => ⟨[], PySem.W.KatTups.nil, rfl, fun _ hm => by simp at hm⟩
  | v :: vs, hp => by
    obtain ⟨fs, h1, h2, h3⟩ := firsts_ofT (vs := vs) fun v' hm => hp v' (List.mem_cons_of_mem _ hm)
    obtain ⟨ns, ⟨a, o, its, n, e, ho, hc, hd, hv⟩, hne⟩ := hp v (List.mem_cons_self ..)
    subst e
    cases ns with
    | nil => exact absurd rfl hne
    | cons x ns =>
      cases e : its.toList with
      | nil => rw [e] at hv; cases hv
      | cons u us =>
        rw [e] at hv
        cases hv with
        | cons r hv =>
          obtain ⟨t, rfl⟩ := r
          have e0 : its[0]? = some (.int x t) := by rw [← Array.getElem?_toList, e]; rfl
          refine ⟨.int x t :: fs, PySem.W.KatTups.cons ho hc hd e0 h1, by rw [List.length_cons, List.length_cons, h2], fun f hm => ?_⟩
          rcases List.mem_cons.mp hm with rfl | hm
          · exact ⟨x, t, rfl⟩
          · exact h3 f hm
theorem tups_sortableO {a : Addr} {vs : List Value} {k : Value → List Int} (h0 : 0 < vs.length) (hp : ∀ v ∈ vs, IsTI s.heap v (k v) ∧ k v ≠ []) (ha : ∀ o, s.heap.get? a = some o → o.cls ≠ .type "tuple") : SortableO prog w A s a vs fun v u => HT.lexLt (k v) (k u) := by
  intro h' keep
  have hp' : ∀ v ∈ vs, IsTI h' v (k v) := fun v hm => (hp v hm).1.keeps fun b o e c => keep b o (fun z => by subst z; exact ha o e c) e
  obtain ⟨fs, h1, h2, h3⟩ := firsts_ofT fun v hm => ⟨_, hp' v hm, (hp v hm).2⟩
  refine ⟨tuples' true, fun Q E hq => ?_, tup_cmp hp'⟩
  refine PySem.W.kat_kind (T := .type "int") h1 (by omega) (fun f hm => ?_) (by rfl) ?_
  · obtain ⟨x, t, rfl⟩ := h3 f hm
    exact PySem.W.Looks.now
  · have e : (Value.type "int" != Value.type "tuple") = true := by first | decide +kernel | rfl | decide
    rw [e]
    exact hq
theorem sorted_tupsO {l : Addr} {vs : List Value} {k : Value → List Int} {Q : Value → Shared → Prop} (hl : s.heap.IsList l vs.toArray) (hz : vs.length ≤ sizeLine) (hp : ∀ v ∈ vs, IsTI s.heap v (k v) ∧ k v ≠ [])
    (h : ∀ (h' : Heap) (d : Addr) (out : List Value), Srtd (fun v u => HT.lexLt (k v) (k u)) out → Stb (fun v u => HT.lexLt (k v) (k u)) out vs → (∀ b o, s.heap.get? b = some o → h'.get? b = some o) → s.heap.objs.size ≤ d → (∃ n, h'.get? d = some (seqObj "list" out.toArray n)) → Q (.ref d) { s with heap := h' }) :
    wpAny (model prog w) A (call (.builtin "sorted") [.ref l]) Q E s := by
  refine sorted_ord (swo_lexT k) hl hz (fun h2 h₁ a ha kk => ?_) fun out hs hb => ?_
  · refine tups_sortableO (s := { s with heap := h₁ }) (by omega) (fun v hm => ⟨(hp v hm).1.keeps fun b o e _ => (kk b o e).2, (hp v hm).2⟩) fun o e => ?_
    have e' : some o = some (seqObj "list" vs.toArray 0) := e.symm.trans ha
    cases e'
    intro c
    exact absurd (Value.type.inj c) (by decide)
  · exact h _ _ out hs hb (fun b o e => sortedAll_old e) (Nat.le_succ _) (sortedAll_at s.heap vs out.toArray)
end
/-- sorted(xs), xs a list of tuples of ints, none empty -/
def rSortedTI (K : PySem.W.Frag) : List V → Hp → VK → Prop := fun vs H Q => ∃ (a : Addr) (xs : List V), vs = [V.ref a] ∧ SqL K H a xs ∧ (∀ x ∈ xs, ∃ (t : Addr) (ns : List Int), x = V.ref t ∧ SqT K H t (ns.map V.int) ∧ ns ≠ []) ∧
  ∀ (k : V → List Int), (∀ (t : Addr) (ns : List Int), SqT K H t (ns.map V.int) → k (.ref t) = ns) → ∀ ys p H', Srtd (fun x y => HT.lexLt (k x) (k y)) ys → Stb (fun x y => HT.lexLt (k x) (k y)) ys xs → H p = none → Same H H' → H' p = some (.lst ys) → Q (.ref p) H'
theorem ints_inj : ∀ {ns ms : List Int}, ns.map V.int = ms.map V.int → ns = ms
  | [], [], _ => rfl
  | [], _ :: _, h => by cases h
  | _ :: _, [], h => by cases h
  | n :: ns, m :: ms, h => by
    rw [List.map_cons, List.map_cons] at h
    injection h with h1 h2
    injection h1 with h1
    rw [h1, ints_inj h2]
theorem vals_inj : ∀ {ns ms : List Int} {us : List Value}, Vals (ns.map V.int) us → Vals (ms.map V.int) us → ns = ms
  | [], [], _, _, _ => rfl
  | [], _ :: _, _, h1, h2 => by cases h1; cases h2
  | _ :: _, [], _, h1, h2 => by cases h2; cases h1
  | n :: ns, m :: ms, _, h1, h2 => by
    cases h1 with
    | cons r1 h1 =>
      cases h2 with
      | cons r2 h2 =>
        obtain ⟨t, rfl⟩ := r1
        obtain ⟨u, e⟩ := r2
        cases e
        rw [vals_inj h1 h2]
theorem cr_sortedTI {X : Cx} : CallR X (.builtin "sorted") (rSortedTI X.K) := by
  intro pins s σ H vs us Q I r h
  obtain ⟨a, xs, rfl, hs, hx, q⟩ := h
  obtain ⟨its, rv, hl, hz⟩ := I.list hs
  obtain ⟨u, rfl, ru⟩ := vals1 r
  obtain rfl : u = Value.ref a := ru
  obtain ⟨e1, e2⟩ := refs_back rv fun x m => by
    obtain ⟨t, _, e, _⟩ := hx x m
    exact ⟨t, e⟩
  classical
  obtain ⟨k, hk⟩ : ∃ k : V → List Int, ∀ (t : Addr) (ns : List Int), SqT X.K H t (ns.map V.int) → k (.ref t) = ns := by
    refine ⟨fun v => match v with
      | .ref t => if h : ∃ ns : List Int, SqT X.K H t (ns.map V.int) then h.choose else []
      | _ => [], fun t ns h => ?_⟩
    have h' : ∃ ns : List Int, SqT X.K H t (ns.map V.int) := ⟨ns, h⟩
    show (if h : ∃ ns : List Int, SqT X.K H t (ns.map V.int) then h.choose else []) = ns
    rw [dif_pos h']
    have h2 := h'.choose_spec
    exact ints_inj (I.tuple_inj h2 h)
  refine sorted_tupsO (k := fun u => k (backV u)) hl.isList (by rw [← rv.length]; exact hz) (fun v hv => ?_) fun h' d out h1 h2 kp hd hn => ?_
  · obtain ⟨t, rfl⟩ := e2 v hv
    have hm : V.ref t ∈ xs := by rw [e1]; exact List.mem_map.mpr ⟨_, hv, rfl⟩
    obtain ⟨t', ns, e, ht, hne⟩ := hx _ hm
    cases e
    have ek : k (backV (.ref t)) = ns := hk t ns ht
    show IsTI _ _ (k (backV (.ref t))) ∧ k (backV (.ref t)) ≠ []
    rw [ek]
    obtain ⟨its2, r2, ⟨o, ho, hc, n, hd⟩, _⟩ := I.tuple ht
    exact ⟨⟨t, o, _, n, rfl, ho, hc, hd, r2⟩, hne⟩
  · have h3 : ∀ u ∈ out, ∃ a, u = Value.ref a := fun u hu => e2 u (h2.perm.mem_iff.mp hu)
    obtain ⟨n, hn⟩ := hn
    have hb : Stb (fun x y => HT.lexLt (k x) (k y)) (out.map backV) xs := by
      rw [e1]
      exact Stb.map (swo_lexT k) backV h2
    have nd : H d = none := I.hok.fresh hd
    refine ⟨.ref d, upd H d (.lst (out.map backV)), I.laid (t' := s.toks) kp hd ⟨?_, out, n, vals_back h3, hn⟩, rfl, q k hk _ d _ (srtd_map h1) hb nd (Same.new nd) upd_same⟩
    rw [hb.len]
    exact hz
/-! by data -/
/-- the list in ascending order -/
def sortT (xs : List (List Int)) : List (List Int) := xs.mergeSort fun x y => !HT.lexLt y x
theorem lexLt_tot : ∀ x y : List Int, HT.lexLt x y = false → HT.lexLt y x = false → x = y
  | [], [], _, _ => rfl
  | [], y :: ys, h1, _ => by cases h1
  | x :: xs, [], _, h2 => by cases h2
  | x :: xs, y :: ys, h1, h2 => by
    rw [HT.lexLt_cons] at h1 h2
    by_cases e : x = y
    · rw [if_pos e] at h1
      rw [if_pos e.symm] at h2
      rw [e, lexLt_tot xs ys h1 h2]
    · rw [if_neg e, decide_eq_false_iff_not] at h1
      rw [if_neg (fun z => e z.symm), decide_eq_false_iff_not] at h2
      omega
theorem sortT_perm (xs : List (List Int)) : (sortT xs).Perm xs := List.mergeSort_perm _ _
theorem sortT_srtd (xs : List (List Int)) : (sortT xs).Pairwise fun x y => HT.lexLt y x = false := by
  have := List.pairwise_mergeSort (le := fun x y : List Int => !HT.lexLt y x) (fun a b c h1 h2 => by
    rw [Bool.not_eq_true'] at h1 h2 ⊢
    exact lexLt_tr c b a h2 h1) (fun a b => by
    cases h : HT.lexLt a b with
    | true => rw [lexLt_asym a b h]; simp
    | false => simp) xs
  exact this.imp fun h => by rw [Bool.not_eq_true'] at h; exact h
theorem sortT_uniq {xs ys : List (List Int)} (h1 : ys.Pairwise fun x y => HT.lexLt y x = false) (h2 : ys.Perm xs) : ys = sortT xs := by
  refine List.Perm.eq_of_pairwise (le := fun x y => HT.lexLt y x = false) (fun a b _ _ h3 h4 => lexLt_tot a b h4 h3) h1 (sortT_srtd xs) (h2.trans (sortT_perm xs).symm)
section
variable {K : PySem.W.Frag} {d : DV}
theorem cd_sortTI {nss : List (List Int)} (hd : LsOf d (nss.map (eT D.int))) (h0 : ∀ n ∈ nss, n ≠ []) : CaD K (rSortedTI K) [d] (.im (eL (eT D.int) (sortT nss))) := fun M H w xs hx Q k => by
  cases hx with
  | cons h1 h2 =>
    cases h2
    obtain ⟨a, vs, rfl, e2, e3⟩ := hd.get h1
    have tup : ∀ (i : Nat) (v : V), vs[i]? = some v → ∃ ns, nss[i]? = some ns ∧ rD K (Fx M H) (eT D.int ns) v ∧ ∃ t, v = V.ref t ∧ SqT K H t (ns.map V.int) := fun i v hi => by
      obtain ⟨dd, hdd, hr⟩ := e3.get hi
      rw [List.getElem?_map] at hdd
      obtain ⟨ns, hns, rfl⟩ := Option.map_eq_some_iff.mp hdd
      obtain ⟨t, ws, rfl, h3, h4⟩ := id hr
      cases h4.ints
      exact ⟨ns, hns, hr, t, rfl, h3.sq⟩
    refine ⟨a, vs, rfl, SqL.of e2, fun v hv => ?_, fun kf hk ys p H' hs hb np s' hp => ?_⟩
    · obtain ⟨i, hi⟩ := List.mem_iff_getElem?.mp hv
      obtain ⟨ns, hns, _, t, e, hq⟩ := tup i v hi
      exact ⟨t, ns, e, hq, h0 ns (List.mem_of_getElem? hns)⟩
    · have ek : vs.map kf = nss := by
        refine List.ext_getElem? fun i => ?_
        rw [List.getElem?_map]
        cases e : vs[i]? with
        | none =>
          have := List.getElem?_eq_none_iff.mp e
          rw [e3.len, List.length_map] at this
          exact (List.getElem?_eq_none_iff.mpr this).symm
        | some v =>
          obtain ⟨ns, hns, _, t, rfl, hq⟩ := tup i v e
          rw [hns]
          show some (kf (.ref t)) = some ns
          rw [hk t ns hq]
      have es : ys.map kf = sortT nss := by
        refine sortT_uniq (List.pairwise_map.mpr (hs.imp fun h => h)) ?_
        rw [← ek]
        exact hb.perm.map kf
      refine k _ H' (w.same s') s' ?_
      refine ⟨p, ys, rfl, w.new np hp, ?_⟩
      rw [← es]
      have all : ∀ y ∈ ys, rD K (Fx M H') (eT D.int (kf y)) y := fun y hy => by
        have hv := hb.perm.mem_iff.mp hy
        obtain ⟨i, hi⟩ := List.mem_iff_getElem?.mp hv
        obtain ⟨ns, hns, hr, t, rfl, hq⟩ := tup i y hi
        rw [hk t ns hq]
        exact hr.same s'
      clear hs hb hp es
      induction ys with
      | nil => rfl
      | cons y ys ih => exact ⟨y, ys, rfl, all y (List.mem_cons_self ..), ih fun z hz => all z (List.mem_cons_of_mem _ hz)⟩
end
end Lf

set_option Elab.async false
set_option linter.all false
set_option maxRecDepth 100000
set_option maxHeartbeats 4000000
/-! Dicts with text keys of one's own. -/
namespace Lf
open PySem PySem.Spec PyProof.Rows L2
/-- what stands at a key -/
def getA {α : Type} [Inhabited α] (kvs : List (Str × α)) (k : Str) : α := ((kvs.find? fun p => decide (p.1 = k)).map (·.2)).getD default
def hasA {α : Type} (kvs : List (Str × α)) (k : Str) : Bool := kvs.any fun p => decide (p.1 = k)
def putA {α : Type} (kvs : List (Str × α)) (k : Str) (x : α) : List (Str × α) := if hasA kvs k = true then kvs.map (fun p => if p.1 = k then (p.1, x) else p) else kvs ++ [(k, x)]
def enA {α : Type} (en : α → D) (p : Str × α) : Str × D := (p.1, en p.2)
section
variable {K : PySem.W.Frag} {R : RH}
theorem val_of {α : Type} [Inhabited α] {en : α → D} {k : Str} : ∀ {kvs : List (Str × α)} {ws : List (Key × V)}, ws.map Prod.fst = (kvs.map (enA en)).map (fun p => (Sum.inr p.1 : Key)) → rDs K R ((kvs.map (enA en)).map Prod.snd) (ws.map Prod.snd) → hasA kvs k = true → ∃ v, valV ws (Sum.inr k) = some v ∧ rD K R (en (getA kvs k)) v
  | [], ws, _, _, h => by cases h
  | p :: kvs, [], e, _, _ => by cases e
  | p :: kvs, q :: ws, e, hr, h => by
    simp only [List.map_cons, List.cons.injEq] at e
    obtain ⟨v, us, e1, h1, h2⟩ := hr
    simp only [List.map_cons, List.cons.injEq] at e1
    by_cases c : p.1 = k
    · refine ⟨q.2, valV_pos (by rw [e.1]; show Sum.inr p.1 = Sum.inr k; rw [c]), ?_⟩
      have : getA (p :: kvs) k = p.2 := by unfold getA; rw [List.find?_cons_of_pos (by simpa using c)]; rfl
      rw [this, e1.1]
      exact h1
    · have h' : hasA kvs k = true := by
        unfold hasA at h ⊢
        rw [List.any_cons, decide_eq_false c, Bool.false_or] at h
        exact h
      rw [← e1.2] at h2
      obtain ⟨w, hw, hr2⟩ := val_of (k := k) e.2 h2 h'
      refine ⟨w, ?_, ?_⟩
      · rw [valV_neg (by rw [e.1]; intro z; exact c (Sum.inr.inj z))]
        exact hw
      · have : getA (p :: kvs) k = getA kvs k := by unfold getA; rw [List.find?_cons_of_neg (by simpa using c)]
        rw [this]
        exact hr2
theorem has_of {α : Type} {en : α → D} {k : Str} : ∀ {kvs : List (Str × α)} {ws : List (Key × V)}, ws.map Prod.fst = (kvs.map (enA en)).map (fun p => (Sum.inr p.1 : Key)) → (valV ws (Sum.inr k)).isSome = hasA kvs k
  | [], [], _ => rfl
  | [], _ :: _, e => by cases e
  | p :: kvs, [], e => by cases e
  | p :: kvs, q :: ws, e => by
    simp only [List.map_cons, List.cons.injEq] at e
    unfold hasA
    rw [List.any_cons]
    by_cases c : p.1 = k
    · rw [valV_pos (by rw [e.1]; show Sum.inr p.1 = Sum.inr k; rw [c]), decide_eq_true c]
      rfl
    · rw [valV_neg (by rw [e.1]; intro z; exact c (Sum.inr.inj z)), decide_eq_false c, Bool.false_or]
      exact has_of e.2
theorem put_keys {α : Type} {en : α → D} {k : Str} {x : α} {v : V} {kvs : List (Str × α)} {ws : List (Key × V)} (e : ws.map Prod.fst = (kvs.map (enA en)).map (fun p => (Sum.inr p.1 : Key))) (hr : rDs K R ((kvs.map (enA en)).map Prod.snd) (ws.map Prod.snd)) (hx : rD K R (en x) v) :
    (putK ws (Sum.inr k : Key) v).map Prod.fst = ((putA kvs k x).map (enA en)).map (fun p => (Sum.inr p.1 : Key)) ∧ rDs K R (((putA kvs k x).map (enA en)).map Prod.snd) ((putK ws (Sum.inr k : Key) v).map Prod.snd) := by
  have ha := has_of (k := k) e
  unfold putK putA
  rw [valV_any, ha]
  by_cases c : hasA kvs k = true
  · rw [if_pos c, if_pos c]
    clear ha c
    induction kvs generalizing ws with
    | nil =>
      cases ws with
      | nil => exact ⟨rfl, rfl⟩
      | cons q ws => cases e
    | cons p kvs ih =>
      cases ws with
      | nil => cases e
      | cons q ws =>
        simp only [List.map_cons, List.cons.injEq] at e
        obtain ⟨u, us, e1, h1, h2⟩ := hr
        simp only [List.map_cons, List.cons.injEq] at e1
        rw [← e1.2] at h2
        obtain ⟨i1, i2⟩ := ih e.2 h2
        have eq : q.1 = Sum.inr p.1 := e.1
        by_cases cp : p.1 = k
        · have cq : q.1 = Sum.inr k := by rw [eq, cp]
          simp only [List.map_cons, if_pos cp, if_pos cq]
          exact ⟨by rw [i1, eq]; rfl, ⟨_, _, rfl, hx, i2⟩⟩
        · have cq : ¬ q.1 = Sum.inr k := fun z => cp (Sum.inr.inj (eq.symm.trans z))
          simp only [List.map_cons, if_neg cp, if_neg cq]
          exact ⟨by rw [i1, eq]; rfl, ⟨_, _, rfl, by rw [e1.1]; exact h1, i2⟩⟩
  · rw [if_neg c, if_neg c]
    simp only [List.map_append, List.map_cons, List.map_nil]
    exact ⟨by rw [e]; simp [enA], hr.append (rDs.one hx)⟩
end
section
variable {K : PySem.W.Frag} {M : Addr → Prop} {σ : L2.St} {H H' : Hp} {t ta tb td ty tv : TE} {u : TS} {D : Ends}
theorem ev_dget {α : Type} [Inhabited α] {en : α → Lf.D} {kvs : List (Str × α)} {L : Addr} {k : Str} (hd : EV K M σ H td (.md L (kvs.map (enA en)))) (hk : EV K M σ H ty (.im (.str k))) (h : hasA kvs k = true) : EV K M σ H (tDGet td ty) (.im (en (getA kvs k))) := fun M' H1 w s Q kq =>
  hd M' H1 w s _ fun x H2 w2 s2 hx => hk M' H2 w2 (s.sm s2) _ fun y H3 w3 s3 hy => by
    obtain ⟨rfl, ws, h2, h0, h3⟩ := hx.same s3
    cases hy
    obtain ⟨v, hv, hr⟩ := val_of h0 h3 h
    exact ⟨L, v, rfl, by rw [← hv]; exact DGet.k (k := Sum.inr k) h2, kq _ H3 w3 (s2.trans s3) hr⟩
theorem ev_din {α : Type} {en : α → Lf.D} {kvs : List (Str × α)} {L : Addr} {k : Str} (hd : EV K M σ H td (.md L (kvs.map (enA en)))) (hk : EV K M σ H ty (.im (.str k))) : EV K M σ H (tDIn ty td) (.im (.bl (hasA kvs k))) := fun M' H1 w s Q kq =>
  hk M' H1 w s _ fun y H2 w2 s2 hy => hd M' H2 w2 (s.sm s2) _ fun x H3 w3 s3 hx => by
    obtain ⟨rfl, ws, h2, h0, h3⟩ := hx
    cases hy
    refine ⟨L, _, rfl, DGet.k (k := Sum.inr k) h2, ?_⟩
    rw [has_of h0]
    exact kq _ H3 w3 (s2.trans s3) rfl
theorem x_dnew {Q : VK} (w : Wd M H) (k : ∀ p H2, H p = none → Same H H2 → H2 p = some (.dK []) → Q (.ref p) H2) : tDNewK σ H Q := fun p hp => k p _ hp (Same.new hp) upd_same
theorem st_dput (h : tv σ H fun v H1 => td σ H1 fun x H2 => ty σ H2 fun y H3 => ∃ a H4, x = .ref a ∧ DPut H3 a y v H4 ∧ u D σ H4) : tSeq (sDPut td ty tv) u D σ H := h
theorem x_dput {α : Type} {en : α → Lf.D} {M0 : Addr → Prop} {Ls : List Addr} {L : Addr} {kvs : List (Str × α)} {k : Str} {x : α} {v vx : V} {Q : Hp → Prop} (hd : rV K (mxM M0 Ls) H (.md L (kvs.map (enA en))) v) (hx : rV K (mxM M0 Ls) H (.im (en x)) vx) (hL : L ∈ Ls) (hz : kvs.length < sizeLine)
    (q : ∀ H2, (∃ ws, H2 = L2.upd H L (.dK ws)) → rV K (mxM M0 Ls) H2 (.md L ((putA kvs k x).map (enA en))) v → Q H2) : ∃ a H4, v = .ref a ∧ DPut H a (.str k) vx H4 ∧ Q H4 := by
  obtain ⟨rfl, ws, h2, h0, h3⟩ := hd
  have hl : ws.length < sizeLine := by
    have := congrArg List.length h0
    simp only [List.length_map] at this
    omega
  have l : Lx (mxM M0 Ls) (mxM M0 Ls) H (L2.upd H L (.dK (putK ws (Sum.inr k : Key) vx))) := Gd.lx_upd hL
  obtain ⟨p1, p2⟩ := put_keys (K := K) (k := k) h0 (rDs.mono l _ _ h3) (rD.mono l _ _ hx)
  exact ⟨L, _, rfl, DPut.k (k := Sum.inr k) h2 hl, q _ ⟨_, rfl⟩ ⟨rfl, _, upd_same, p1, p2⟩⟩
end
end Lf

set_option Elab.async false
set_option linter.all false
set_option maxRecDepth 100000
set_option maxHeartbeats 4000000
/-! Comprehensions of two clauses, by data. -/
namespace Lf
open PySem PySem.Spec PyProof.Rows L2
section
variable {K : PySem.W.Frag} {M : Addr → Prop} {σ : L2.St} {H H' : Hp} {t : TE} {tt tt1 : TT} {wi wi1 : TI} {G G1 : (Addr → Prop) → Hp → Hp → Prop}
/-- the inner walk by a Walk -/
theorem lc2_it {J : It} {n : Nat} {Gw : Hp → Prop} {Y : Nat → Hp → V → Hp → Prop} (wk : Walk J n Gw Y) {g : TG} {tt : TT} {te : TE} {vs : List Nat} {σ : L2.St} {H1 : Hp} {D : Addr} {Qd : Hp → Prop} (Pv : Nat → Hp → Prop) (h0 : Pv 0 H1) (hG : ∀ i H, i ≤ n → Pv i H → Gw H)
    (hs : ∀ i x H H', i < n → Pv i H → Y i H x H' → g x (wipe σ vs) H' fun σ2 H2 => wipe σ2 vs = wipe σ vs ∧ tt σ2 H2 fun b H3 =>
      if b = true then te σ2 H3 fun y H4 => ∃ acc, H4 D = some (.lst acc) ∧ acc.length < sizeLine ∧ Pv (i + 1) (upd H4 D (.lst (acc ++ [y]))) else Pv (i + 1) H3) (hd : ∀ H, Pv n H → Qd H) :
    ∃ W : Nat → Nat → Hp → Prop, (∃ m, W 0 m H1) ∧ ∀ i m H, W i m H →
      (J.stop i H ∧ Qd H) ∨ (J.go i H ∧ ∃ Nx : Hp → Prop, (∀ H', Nx H' → ∃ m', m' < m ∧ W (i + 1) m' H') ∧ ∀ x H', J.yld i H x H' → g x (wipe σ vs) H' fun σ2 H2 => wipe σ2 vs = wipe σ vs ∧ tt σ2 H2 fun b H3 =>
        if b = true then te σ2 H3 fun y H4 => ∃ acc, H4 D = some (.lst acc) ∧ acc.length < sizeLine ∧ Nx (upd H4 D (.lst (acc ++ [y]))) else Nx H3) := by
  refine ⟨fun i m H => m = n - i ∧ i ≤ n ∧ Pv i H, ⟨n, by simp, Nat.zero_le _, h0⟩, ?_⟩
  rintro i m H ⟨rfl, hi, p⟩
  have q := hG i H hi p
  by_cases hlt : i < n
  · refine .inr ⟨wk.goes i H hlt q, Pv (i + 1), fun H' p' => ⟨n - (i + 1), by omega, rfl, hlt, p'⟩, fun x H' y => hs i x H H' hlt p (wk.yields i H x H' hlt q y)⟩
  · have e : i = n := by omega
    subst e
    exact .inl ⟨wk.stops H q, hd H p⟩
/-- the outer walk -/
theorem lc2o_it {J : It} {n : Nat} {Gw : Hp → Prop} {Y : Nat → Hp → V → Hp → Prop} (wk : Walk J n Gw Y) {B : V → Hp → (Hp → Prop) → Prop} {H1 : Hp} {Qd : Hp → Prop} (Pv : Nat → Hp → Prop) (h0 : Pv 0 H1) (hG : ∀ i H, i ≤ n → Pv i H → Gw H)
    (hs : ∀ i x H H', i < n → Pv i H → Y i H x H' → B x H' (Pv (i + 1))) (hd : ∀ H, Pv n H → Qd H) :
    ∃ W : Nat → Nat → Hp → Prop, (∃ m, W 0 m H1) ∧ ∀ i m H, W i m H → (J.stop i H ∧ Qd H) ∨ (J.go i H ∧ ∃ Nx : Hp → Prop, (∀ H', Nx H' → ∃ m', m' < m ∧ W (i + 1) m' H') ∧ ∀ x H', J.yld i H x H' → B x H' Nx) := by
  refine ⟨fun i m H => m = n - i ∧ i ≤ n ∧ Pv i H, ⟨n, by simp, Nat.zero_le _, h0⟩, ?_⟩
  rintro i m H ⟨rfl, hi, p⟩
  have q := hG i H hi p
  by_cases hlt : i < n
  · refine .inr ⟨wk.goes i H hlt q, Pv (i + 1), fun H' p' => ⟨n - (i + 1), by omega, rfl, hlt, p'⟩, fun x H' y => hs i x H H' hlt p (wk.yields i H x H' hlt q y)⟩
  · have e : i = n := by omega
    subst e
    exact .inl ⟨wk.stops H q, hd H p⟩
theorem ev_lc2 {α β γ : Type} {xs : List α} {en : α → D} {ys : α → List β} {en1 : β → D} {p : α → Bool} {q : α → β → Bool} {fd : α → β → γ} {en2 : γ → D} {g g1 : TG} {vs vs1 : List Nat}
    (hi : EVI K M σ H wi G (xs.map en)) (hG : ∀ {M M' : Addr → Prop} {H H' : Hp}, Ex M M' H H' → G M H H') (hg : GMono g) (hg1 : GMono g1)
    (hz : (((xs.filter p).flatMap fun x => ((ys x).filter (q x)).map (fd x))).length ≤ sizeLine)
    (hb : ∀ x ∈ xs, ∀ M' H' v, Wd M' H' → Ex M M' H H' → rD K (Fx M' H') (en x) v → g v (wipe σ vs) H' fun σ2 H2 => H2 = H' ∧ wipe σ2 vs = wipe σ vs ∧ ∀ M2 H3, Wd M2 H3 → Ex M M2 H H3 → Lx M' M2 H' H3 →
      EVT M2 σ2 H3 tt (p x) ∧ (p x = true → EVI K M2 σ2 H3 wi1 GI ((ys x).map en1) ∧
      ∀ y ∈ ys x, ∀ u, rD K (Fx M2 H3) (en1 y) u → g1 u (wipe σ2 vs1) H3 fun σ3 H4 => H4 = H3 ∧ wipe σ3 vs1 = wipe σ2 vs1 ∧ EVT M2 σ3 H3 tt1 (q x y) ∧ (q x y = true → EV K M2 σ3 H3 t (.im (en2 (fd x y)))))) :
    EV K M σ H (tLc2 wi g tt wi1 g1 tt1 t vs vs1) (.im (eL en2 ((xs.filter p).flatMap fun x => ((ys x).filter (q x)).map (fd x)))) := fun M1 H1 w s Q k => hi M1 H1 w s _ fun J H2 w2 s2 wk D nD => by
  have mD : ¬ M1 D := w2.free nD
  have sD : Same H2 (L2.upd H2 D (.lst [])) := Same.new nD
  obtain ⟨F, eF⟩ : ∃ F : α → List γ, F = fun x => ((ys x).filter (q x)).map (fd x) := ⟨_, rfl⟩
  rw [← eF] at hz
  have pre : ∀ i, (((xs.take i).filter p).flatMap F).length ≤ (((xs.filter p).flatMap F)).length := fun i => by
    have e : xs.filter p = (xs.take i).filter p ++ (xs.drop i).filter p := by rw [← List.filter_append, List.take_append_drop]
    rw [e, List.flatMap_append, List.length_append]
    omega
  refine lc2o_it wk (fun i H' => Wd (adM M1 D) H' ∧ Ex M1 (adM M1 D) H2 H' ∧ ∃ ws, H' D = some (.lst ws) ∧ rDs K (Fx (adM M1 D) H') ((((xs.take i).filter p).flatMap F).map en2) ws)
    ⟨(w2.same sD).add (by rw [upd_same]; exact fun z => nomatch z), Ex.add sD nD, [], upd_same, rfl⟩ (fun i H' _ z => hG z.2.1) ?_ ?_
  · rintro i x H3 H4 hi' ⟨w3, s3, ws, hD, hws⟩ ⟨s4, d, hd, hr⟩
    rw [List.getElem?_map] at hd
    obtain ⟨y, hy, rfl⟩ := Option.map_eq_some_iff.mp hd
    have hr := hr _ w3 s3.lx
    have w4 := w3.same s4
    have s24 := s3.sm s4
    have tk : xs.take (i + 1) = xs.take i ++ [y] := by rw [List.take_add_one, hy]; rfl
    have pi := pre (i + 1)
    refine hg _ _ _ _ _ ?_ (hb y (List.mem_of_getElem? hy) _ H4 x w4 ((s.sm s2).trans s24) hr)
    rintro σ2 H5 ⟨rfl, hw, hin⟩
    obtain ⟨ht, he⟩ := hin _ H5 w4 ((s.sm s2).trans s24) Lx.refl
    refine ⟨hw, ht _ H5 w4 Ex.refl _ fun H6 w6 s6 => ?_⟩
    cases hp : p y with
    | false =>
      refine iteF ?_
      refine ⟨w6, s24.sm s6, ws, s6 _ _ (s4 _ _ hD), ?_⟩
      rw [tk, List.filter_append]
      have e1 : [y].filter p = [] := by simp [hp]
      rw [e1, List.append_nil]
      exact (hws.same s4).same s6
    | true =>
      refine iteT ?_
      have e1 : (xs.take (i + 1)).filter p = (xs.take i).filter p ++ [y] := by rw [tk, List.filter_append]; simp [hp]
      have fl : ((xs.take (i + 1)).filter p).flatMap F = ((xs.take i).filter p).flatMap F ++ F y := by rw [e1, List.flatMap_append]; simp
      rw [fl] at pi ⊢
      obtain ⟨hi1, _⟩ := he hp
      refine hi1 _ H6 w6 (Ex.same s6) _ fun J1 H7 w7 s7 wk1 => ?_
      have s57 : Same H5 H7 := s6.trans s7
      refine lc2_it wk1 (fun j H' => Wd (adM M1 D) H' ∧ Ex M1 (adM M1 D) H2 H' ∧ Lx (adM M1 D) (adM M1 D) H5 H' ∧ Lx (adM M1 D) (adM M1 D) H7 H' ∧ ∃ ws, H' D = some (.lst ws) ∧ rDs K (Fx (adM M1 D) H') ((((xs.take i).filter p).flatMap F ++ (((ys y).take j).filter (q y)).map (fd y)).map en2) ws)
        ⟨w7, s24.sm s57, Lx.same s57, Lx.refl, ws, s57 _ _ (s4 _ _ hD), by simp only [List.take_zero, List.filter_nil, List.map_nil, List.append_nil]; exact (hws.same s4).same s57⟩ (fun j H' _ z => ⟨_, z.2.2.2.1⟩) ?_ ?_
      · rintro j u H8 H9 hj ⟨w8, s8, l8, k8, ws8, hD8, hws8⟩ ⟨s9, d, hd, hr9⟩
        rw [List.getElem?_map] at hd
        obtain ⟨b, hb', rfl⟩ := Option.map_eq_some_iff.mp hd
        have hr9 := hr9 _ w8 k8
        have w9 := w8.same s9
        have tk1 : (ys y).take (j + 1) = (ys y).take j ++ [b] := by rw [List.take_add_one, hb']; rfl
        obtain ⟨_, he9⟩ := hin _ H9 w9 ((s.sm s2).trans (s8.sm s9)) (l8.trans (Lx.same s9))
        refine hg1 _ _ _ _ _ ?_ ((he9 hp).2 b (List.mem_of_getElem? hb') u hr9)
        rintro σ3 H10 ⟨rfl, hw3, ht3, he3⟩
        refine ⟨hw3, ht3 _ H10 w9 Ex.refl _ fun H11 w11 s11 => ?_⟩
        cases hq : q y b with
        | false =>
          refine iteF ?_
          refine ⟨w11, (s8.sm s9).sm s11, (l8.trans (Lx.same s9)).trans (Lx.same s11), (k8.trans (Lx.same s9)).trans (Lx.same s11), ws8, s11 _ _ (s9 _ _ hD8), ?_⟩
          rw [tk1, List.filter_append]
          have e2 : [b].filter (q y) = [] := by simp [hq]
          rw [e2, List.append_nil]
          exact (hws8.same s9).same s11
        | true =>
          refine iteT ?_
          refine he3 hq _ H11 w11 (Ex.same s11) _ fun v H12 w12 s12 hv => ?_
          have s912 : Same H10 H12 := s11.trans s12
          have lu : Lx (adM M1 D) (adM M1 D) H12 (L2.upd H12 D (.lst (ws8 ++ [v]))) := Lx.upd (.inr rfl)
          have e2 : (((ys y).take (j + 1)).filter (q y)).map (fd y) = (((ys y).take j).filter (q y)).map (fd y) ++ [fd y b] := by
            rw [tk1, List.filter_append, List.map_append]
            simp [hq]
          have ln : (((xs.take i).filter p).flatMap F ++ (((ys y).take j).filter (q y)).map (fd y)).length < sizeLine := by
            have : (((ys y).take (j + 1)).filter (q y)).length ≤ ((ys y).filter (q y)).length := by
              have e : (ys y).filter (q y) = ((ys y).take (j + 1)).filter (q y) ++ ((ys y).drop (j + 1)).filter (q y) := by rw [← List.filter_append, List.take_append_drop]
              rw [e, List.length_append]
              omega
            have e3 := congrArg List.length e2
            rw [List.length_append, List.length_map, List.length_map] at e3
            have e4 : (F y).length = ((ys y).filter (q y)).length := by rw [eF]; simp
            rw [List.length_append, List.length_map]
            rw [List.length_append, e4] at pi
            simp only [List.length_cons, List.length_nil] at e3
            omega
          refine ⟨ws8, s912 _ _ (s9 _ _ hD8), by rw [hws8.len, List.length_map]; exact ln, w12.upd, ⟨fun r o h => ?_, s8.u, s8.n⟩, ((l8.trans (Lx.same s9)).trans (Lx.same s912)).trans lu, ((k8.trans (Lx.same s9)).trans (Lx.same s912)).trans lu, ws8 ++ [v], upd_same, ?_⟩
          · rw [upd_ne (ne_of_none h nD)]
            exact s912 _ _ (s9 _ _ (s8.s _ _ h))
          · rw [e2, ← List.append_assoc, List.map_append]
            exact (rDs.mono lu _ _ ((hws8.same s9).same s912)).append (rDs.one (rD.mono lu _ _ hv))
      · rintro H8 ⟨w8, s8, l8, k8, ws8, hD8, hws8⟩
        refine ⟨w8, s8, ws8, hD8, ?_⟩
        rw [List.length_map, List.take_length] at hws8
        rw [eF]
        rw [eF] at hws8
        exact hws8
  · rintro H3 ⟨w3, s3, ws, hD, hws⟩
    rw [List.length_map, List.take_length] at hws
    refine k _ H3 (fun q hq => w3 q (.inl hq)) (s2.trans s3.s) ⟨D, ws, rfl, ⟨hD, mD⟩, ?_⟩
    rw [← eF]
    exact rDs.mono Lx.del _ _ hws
theorem filt_true {α : Type} (xs : List α) : xs.filter (fun _ => true) = xs := List.filter_eq_self.mpr fun _ _ => rfl
theorem ev_lc2f {α β γ : Type} {xs : List α} {en : α → D} {ys : α → List β} {en1 : β → D} {q : α → β → Bool} {fd : α → β → γ} {en2 : γ → D} {g g1 : TG} {vs vs1 : List Nat}
    (hi : EVI K M σ H wi G (xs.map en)) (hG : ∀ {M M' : Addr → Prop} {H H' : Hp}, Ex M M' H H' → G M H H') (hg : GMono g) (hg1 : GMono g1)
    (hz : ((xs.flatMap fun x => ((ys x).filter (q x)).map (fd x))).length ≤ sizeLine)
    (hb : ∀ x ∈ xs, ∀ M' H' v, Wd M' H' → Ex M M' H H' → rD K (Fx M' H') (en x) v → g v (wipe σ vs) H' fun σ2 H2 => H2 = H' ∧ wipe σ2 vs = wipe σ vs ∧ ∀ M2 H3, Wd M2 H3 → Ex M M2 H H3 → Lx M' M2 H' H3 →
      EVI K M2 σ2 H3 wi1 GI ((ys x).map en1) ∧
      ∀ y ∈ ys x, ∀ u, rD K (Fx M2 H3) (en1 y) u → g1 u (wipe σ2 vs1) H3 fun σ3 H4 => H4 = H3 ∧ wipe σ3 vs1 = wipe σ2 vs1 ∧ EVT M2 σ3 H3 tt1 (q x y) ∧ (q x y = true → EV K M2 σ3 H3 t (.im (en2 (fd x y))))) :
    EV K M σ H (tLc2 wi g tYes wi1 g1 tt1 t vs vs1) (.im (eL en2 (xs.flatMap fun x => ((ys x).filter (q x)).map (fd x)))) := by
  have := ev_lc2 (p := fun _ => true) (q := q) (fd := fd) (en2 := en2) (ys := ys) (tt := tYes) (t := t) (tt1 := tt1) hi hG hg hg1 (by rw [filt_true]; exact hz) fun x hx M' H' v w' s' hv =>
    hg _ _ _ _ _ (fun σ2 H2 z => ⟨z.1, z.2.1, fun M2 H3 w3 s3 l3 => ⟨evt_yes, fun _ => z.2.2 M2 H3 w3 s3 l3⟩⟩) (hb x hx M' H' v w' s' hv)
  rw [filt_true] at this
  exact this
theorem ev_lc2m {α β γ : Type} {xs : List α} {en : α → D} {ys : α → List β} {en1 : β → D} {fd : α → β → γ} {en2 : γ → D} {g g1 : TG} {vs vs1 : List Nat}
    (hi : EVI K M σ H wi G (xs.map en)) (hG : ∀ {M M' : Addr → Prop} {H H' : Hp}, Ex M M' H H' → G M H H') (hg : GMono g) (hg1 : GMono g1)
    (hz : ((xs.flatMap fun x => (ys x).map (fd x))).length ≤ sizeLine)
    (hb : ∀ x ∈ xs, ∀ M' H' v, Wd M' H' → Ex M M' H H' → rD K (Fx M' H') (en x) v → g v (wipe σ vs) H' fun σ2 H2 => H2 = H' ∧ wipe σ2 vs = wipe σ vs ∧ ∀ M2 H3, Wd M2 H3 → Ex M M2 H H3 → Lx M' M2 H' H3 →
      EVI K M2 σ2 H3 wi1 GI ((ys x).map en1) ∧
      ∀ y ∈ ys x, ∀ u, rD K (Fx M2 H3) (en1 y) u → g1 u (wipe σ2 vs1) H3 fun σ3 H4 => H4 = H3 ∧ wipe σ3 vs1 = wipe σ2 vs1 ∧ EV K M2 σ3 H3 t (.im (en2 (fd x y)))) :
    EV K M σ H (tLc2 wi g tYes wi1 g1 tYes t vs vs1) (.im (eL en2 (xs.flatMap fun x => (ys x).map (fd x)))) := by
  have := ev_lc2f (q := fun _ _ => true) (fd := fd) (en2 := en2) (ys := ys) (t := t) (tt1 := tYes) hi hG hg hg1 (by simp only [filt_true]; exact hz) fun x hx M' H' v w' s' hv =>
    hg _ _ _ _ _ (fun σ2 H2 z => ⟨z.1, z.2.1, fun M2 H3 w3 s3 l3 => ⟨(z.2.2 M2 H3 w3 s3 l3).1, fun y hy u hu => hg1 _ _ _ _ _ (fun σ3 H4 z => ⟨z.1, z.2.1, evt_yes, fun _ => z.2.2⟩) ((z.2.2 M2 H3 w3 s3 l3).2 y hy u hu)⟩⟩) (hb x hx M' H' v w' s' hv)
  simp only [filt_true] at this
  exact this
end
end Lf

set_option Elab.async false
set_option linter.all false
set_option maxRecDepth 100000
set_option maxHeartbeats 4000000
/-! tuple * int, of any kind. -/
namespace Lf
open PySem PySem.Spec PyProof.Rows L2
theorem tuple_mulS (l : Addr) (items : Array Value) (n : Nat) (dd : Option Addr) (sl : Array (Option Value)) (x : Int) (u : Tok) (c0 : (decide (x < -(2 ^ 63)) || decide (x ≥ 2 ^ 63)) = false) (c1 : (items.isEmpty || x == 1) = true) :
    Meets (Builtin.«tuple.__mul__» ⟨[.ref l, .int x u], []⟩) (fun _ R s => s.heap.get? l = some { cls := .type "tuple", dict := dd, data := .seq items n, slots := sl } ∧
      R (.ok (.ret (Value.ref l))) s) :=
  .of_wp fun prog w A R s h => by
    obtain ⟨hp, g, d, tk, os⟩ := s
    obtain ⟨hl, h⟩ := h
    have f1 := AutoSeq1.idx_int
    wp_walk using wpAny_loadPart' hl
    repeat (first
      | (refine wpAny_ite_false (decide_eq_false (by rw [c0]; exact Bool.false_ne_true)) ?_; wp_walk using wpAny_loadPart' hl)
      | (refine wpAny_ite_true (decide_eq_true c1) ?_; wp_walk using wpAny_loadPart' hl))
    exact ⟨_, rfl, h⟩
theorem tuple_mul0 (l : Addr) (items : Array Value) (n : Nat) (dd : Option Addr) (sl : Array (Option Value)) (x : Int) (u : Tok) (c0 : (decide (x < -(2 ^ 63)) || decide (x ≥ 2 ^ 63)) = false) (c1 : (items.isEmpty || x == 1) = false) (c2 : (decide (x ≤ 0) || items.isEmpty) = true) :
    Meets (Builtin.«tuple.__mul__» ⟨[.ref l, .int x u], []⟩) (fun _ R s => s.heap.get? l = some { cls := .type "tuple", dict := dd, data := .seq items n, slots := sl } ∧
      R (.ok (.ret (Value.ref s.heap.objs.size))) { s with heap := s.heap.push { cls := Value.type "tuple", data := Data.seq #[] }, toks := s.toks }) :=
  .of_wp fun prog w A R s h => by
    obtain ⟨hp, g, d, tk, os⟩ := s
    obtain ⟨hl, h⟩ := h
    have f1 := AutoSeq1.idx_int
    wp_walk using wpAny_loadPart' hl
    repeat (first
      | (refine wpAny_ite_false (decide_eq_false (by rw [c0]; exact Bool.false_ne_true)) ?_; wp_walk using wpAny_loadPart' hl)
      | (refine wpAny_ite_false (decide_eq_false (by rw [c1]; exact Bool.false_ne_true)) ?_; wp_walk using wpAny_loadPart' hl)
      | (refine wpAny_ite_true (decide_eq_true c2) ?_; wp_walk using wpAny_loadPart' hl))
    exact ⟨_, rfl, h⟩
def rRepA (K : PySem.W.Frag) : R2 := fun x y H Q => ∃ l k xs, x = .ref l ∧ y = .int k ∧ SqT K H l xs ∧ -1000 ≤ k ∧ k ≤ 1000 ∧ xs.length ≤ 1000 ∧ (xs = [] ∨ k = 1 → Q (.ref l) H) ∧ (xs ≠ [] → k ≠ 1 → ∀ p H', H p = none → Same H H' → H' p = some (.tup (List.replicate k.toNat xs).flatten) → Q (.ref p) H')
theorem op_repA {X : Cx} : OpR X (binaryOp .Mult) (rRepA X.K) := by
  intro pins s σ H x y v u Q I rx ry h
  obtain ⟨l, k, xs, rfl, rfl, hT, k0, k1, hz, q1, q2⟩ := h
  by_cases hb : xs ≠ [] ∧ 2 ≤ k
  · exact op_repT pins s σ H _ _ v u Q I rx ry ⟨l, k, xs, rfl, rfl, hT, hb.1, hb.2, k1, hz, fun p hp => q2 hb.1 (by omega) p _ hp (Same.new hp) upd_same⟩
  cases rx
  obtain ⟨t, rfl⟩ := ry
  obtain ⟨its, r, ⟨⟨cls, dd, data, sl⟩, ho, hc, n, hd⟩, hs⟩ := I.tuple hT
  simp only at hc hd
  subst hc hd
  have hle : its.length = xs.length := r.length.symm
  have c0 : (decide (k < -(2 ^ 63)) || decide (k ≥ 2 ^ 63)) = false := by
    rw [decide_eq_false (by omega), decide_eq_false (by omega)] <;> rfl
  by_cases hs1 : xs = [] ∨ k = 1
  · have c1 : (its.toArray.isEmpty || k == 1) = true := by
      rcases hs1 with e | e
      · rw [e] at hle
        cases its with
        | nil => rfl
        | cons a b => cases hle
      · rw [e]; simp
    exact wpAny_binaryOp_repeat_ref (T := "tuple") (U := "int") (by decide) ⟨_, ho, rfl⟩ (fun s' => typeIs_int s' k t) noFill_tuple_mul F.fills_int_mul F.slot_int_rmul repeat_tuple F.slot_int_index.lookup
      (call_meets F.slot_int_rmul (typeIs_int s k t) F.entry_int_rmul (F.args_int_rmul_2 _ _) (int_rmul_tuple k t l its.toArray n dd sl)
        ⟨ho, rfl, ⟨_, ho, rfl⟩, call_meets F.slot_tuple_mul ⟨_, ho, rfl⟩ F.entry_tuple_mul (F.args_tuple_mul_2 _ _) (tuple_mulS l its.toArray n dd sl k t c0 c1) ⟨ho, .ref l, H, I, rfl, q1 hs1⟩⟩)
  · have hne : xs ≠ [] := fun e => hs1 (.inl e)
    have hk1 : k ≠ 1 := fun e => hs1 (.inr e)
    have hk0 : k ≤ 0 := by
      have : ¬ 2 ≤ k := fun z => hb ⟨hne, z⟩
      omega
    have hi : its.toArray.isEmpty = false := by
      cases its with
      | nil => exact absurd (List.eq_nil_of_length_eq_zero hle.symm) hne
      | cons a b => rfl
    have c1 : (its.toArray.isEmpty || k == 1) = false := by
      rw [hi, Bool.false_or]
      exact beq_eq_false_iff_ne.mpr hk1
    have c2 : (decide (k ≤ 0) || its.toArray.isEmpty) = true := by rw [decide_eq_true hk0]; rfl
    refine wpAny_binaryOp_repeat_ref (T := "tuple") (U := "int") (by decide) ⟨_, ho, rfl⟩ (fun s' => typeIs_int s' k t) noFill_tuple_mul F.fills_int_mul F.slot_int_rmul repeat_tuple F.slot_int_index.lookup
      (call_meets F.slot_int_rmul (typeIs_int s k t) F.entry_int_rmul (F.args_int_rmul_2 _ _) (int_rmul_tuple k t l its.toArray n dd sl)
        ⟨ho, rfl, ⟨_, ho, rfl⟩, call_meets F.slot_tuple_mul ⟨_, ho, rfl⟩ F.entry_tuple_mul (F.args_tuple_mul_2 _ _) (tuple_mul0 l its.toArray n dd sl k t c0 c1 c2) ⟨ho, ?_⟩⟩)
    have nd := I.hok.fresh (Nat.le_refl s.heap.objs.size)
    have e0 : (List.replicate k.toNat xs).flatten = [] := by
      have : k.toNat = 0 := by omega
      rw [this]
      rfl
    refine ⟨.ref s.heap.objs.size, _, I.laid (t' := s.toks) (o := .tup (List.replicate k.toNat xs).flatten) (fun b ob q => Heap.get?_push_of_some _ q) (Nat.le_refl _) ?_, rfl, q2 hne hk1 _ _ nd (Same.new nd) upd_same⟩
    rw [e0]
    exact ⟨Nat.zero_le _, [], .nil, IsTup.new _ _⟩
def RepT {α : Type} (xs : List α) (i : Int) : Prop := -1000 ≤ i ∧ i ≤ 1000 ∧ xs.length ≤ 1000
section
variable {K : PySem.W.Frag}
theorem od_repTm {α : Type} {en : α → D} {xs : List α} {i : Int} (h : RepT xs i) : OpD K (rRepA K) (.im (eT en xs)) (.im (.int i)) (.im (eT en (repL xs i))) := fun M H w x y hx hy Q k => by
  obtain ⟨a, vs, rfl, h2, h3⟩ := (show rD K (Fx M H) (.tup (xs.map en)) x from hx)
  have hl : vs.length = xs.length := by rw [h3.len, List.length_map]
  have hr := h3.rep i.toNat
  rw [repL_map] at hr
  refine ⟨a, i, vs, rfl, hy, h2.sq, h.1, h.2.1, by rw [hl]; exact h.2.2, fun e => ?_, fun _ _ p H' np s' hp => ?_⟩
  · refine k _ H w (Same.refl _) ⟨a, vs, rfl, h2, ?_⟩
    have : (List.replicate i.toNat vs).flatten = vs := by
      rcases e with e | e
      · rw [e]
        induction i.toNat with
        | zero => rfl
        | succ m ih => rw [List.replicate_succ, List.flatten_cons, ih]; rfl
      · rw [e]
        show (List.replicate 1 vs).flatten = vs
        simp
    rw [this] at hr
    exact hr
  · exact k _ H' (w.same s') s' ⟨p, _, rfl, .inl (w.new np hp), hr.same s'⟩
end
end Lf

set_option Elab.async false
set_option linter.all false
set_option maxRecDepth 100000
set_option maxHeartbeats 4000000
/-! Texts, chains, options, instances, frozen dicts by data. -/
namespace Lf
open PySem PySem.Spec PyProof.Rows L2
section
variable {K : PySem.W.Frag} {M : Addr → Prop} {σ : L2.St} {H H' : Hp} {t ta tb tc : TE} {tt tu : TT} {tA : TA} {d e f : DV} {b c : Bool} {ds : List DV} {es : List D}
/-! signs of a text -/
def signs (z : Str) : List Str := z.cps.toList.map fun c => (⟨#[c]⟩ : Str)
theorem evi_str {z : Str} (h : EV K M σ H t (.im (.str z))) : EVI K M σ H (iStr t) GI ((signs z).map .str) := fun M' H1 w s R k => h M' H1 w s _ fun v H2 w2 s2 hv => by
  refine ⟨z, hv, k _ H2 w2 s2 ?_⟩
  have e : ((signs z).map D.str).length = z.cps.size := by unfold signs; rw [List.length_map, List.length_map, Array.length_toList]
  rw [e]
  refine walk_str.mono (fun _ _ => True.intro) fun i H' x H'' hi g y => ?_
  obtain ⟨e1, c, hc, e2⟩ := y
  rw [e1]
  refine ⟨Same.refl _, .str ⟨#[c]⟩, ?_, fun M2 _ l => e2⟩
  unfold signs
  rw [List.getElem?_map, List.getElem?_map, Array.getElem?_toList, hc]
  rfl
def inC (x z : Str) : Bool := decide ((x.cps.toList.headD 0) ∈ z.cps.toList)
theorem od_inC {x z : Str} (h : x.length = 1) : OpD K rInS (.im (.str x)) (.im (.str z)) (.im (.bl (inC x z))) := fun M H w u y hu hy Q k => by
  obtain ⟨⟨l⟩⟩ := x
  match l, h with
  | [c], _ => exact ⟨c, z, hu, hy, k _ H w (Same.refl _) rfl⟩
theorem ev_chain {r r' : R2} (ha : EV K M σ H ta d) (hb : EV K M σ H tb e) (hc : EV K M σ H tc f) (h1 : OpD K r d e (.im (.bl b))) (h2 : b = true → OpD K r' e f (.im (.bl c))) : EV K M σ H (tChain r r' ta tb tc) (.im (.bl (b && c))) := fun M' H1 w s Q k =>
  ha M' H1 w s _ fun x H2 w2 s2 hx => hb M' H2 w2 (s.sm s2) _ fun y H3 w3 s3 hy => h1 M' H3 w3 x y (hx.same s3) hy _ fun z H4 w4 s4 hz => by
    refine ⟨b, hz, ?_⟩
    cases b with
    | true =>
      refine iteT (hc M' H4 w4 (s.sm ((s2.trans s3).trans s4)) _ fun u H5 w5 s5 hu => ?_)
      exact h2 rfl M' H5 w5 y u ((hy.same s4).same s5) hu Q fun v H6 w6 s6 hv => k v H6 w6 ((((s2.trans s3).trans s4).trans s5).trans s6) hv
    | false => exact iteF (k _ H4 w4 ((s2.trans s3).trans s4) rfl)
def rSplit : V → List V → Hp → VK → Prop := fun x xs H Q => ∃ a b, x = .str a ∧ xs = [.str b] ∧ (b.length == 0) = false ∧ a.length + 2 ≤ sizeLine ∧ rNewStrs (Txt.split a b) H Q
def rPartn : V → List V → Hp → VK → Prop := fun x xs H Q => ∃ a b, x = .str a ∧ xs = [.str b] ∧ (b.length == 0) = false ∧ a.length ≤ sizeLine ∧
    ∀ p, H p = none → Q (.ref p) (upd H p (.tup [.str (Txt.partition a b).1, .str (Txt.partition a b).2.1, .str (Txt.partition a b).2.2]))
theorem md_split {x y : Str} (hy : (y.length == 0) = false) (hz : x.length + 2 ≤ sizeLine) : MtD K rSplit (.im (.str x)) [.im (.str y)] (.im (.lst ((Txt.split x y).map .str))) := fun M H w u us hu hus Q k => by
  cases hus with
  | cons h1 h2 =>
    cases h2
    cases h1
    exact ⟨x, y, hu, rfl, hy, hz, fun p np => k _ _ (w.same (Same.new np)) (Same.new np) ⟨p, _, rfl, w.new np upd_same, rDs.of_strs _⟩⟩
theorem md_partn {x y : Str} (hy : (y.length == 0) = false) (hz : x.length ≤ sizeLine) : MtD K rPartn (.im (.str x)) [.im (.str y)] (.im (.tup [.str (Txt.partition x y).1, .str (Txt.partition x y).2.1, .str (Txt.partition x y).2.2])) := fun M H w u us hu hus Q k => by
  cases hus with
  | cons h1 h2 =>
    cases h2
    cases h1
    exact ⟨x, y, hu, rfl, hy, hz, fun p np => k _ _ (w.same (Same.new np)) (Same.new np) ⟨p, _, rfl, .inl (w.new np upd_same), ⟨_, _, rfl, rfl, _, _, rfl, rfl, _, _, rfl, rfl, rfl⟩⟩⟩
def rIntS : List V → Hp → VK → Prop := fun xs H Q => ∃ a n, xs = [.str a] ∧ PySem.intText? a = some n ∧ a.length ≤ 640 ∧ Q (.int n) H
def intOf (x : Str) : Int := (PySem.intText? x).getD 0
theorem cd_intS {x : Str} (h : (PySem.intText? x).isSome = true) (hz : x.length ≤ 640) : CaD K rIntS [.im (.str x)] (.im (.int (intOf x))) := fun M H w xs hx Q k => by
  cases hx with
  | cons h1 h2 =>
    cases h2
    cases h1
    obtain ⟨n, hn⟩ := Option.isSome_iff_exists.mp h
    exact ⟨x, n, rfl, hn, hz, k _ H w (Same.refl _) (by unfold intOf; rw [hn]; rfl)⟩
/-! options -/
def isN (d : D) : Bool := match d with
  | .non => true
  | _ => false
theorem rD_non {R : RH} {x : D} {v : V} (h : rD K R x v) : decide (v = .non) = isN x := by
  cases x with
  | non => cases (show v = .non from h); rfl
  | bl b => cases (show v = _ from h); rfl
  | int b => cases (show v = _ from h); rfl
  | str b => cases (show v = _ from h); rfl
  | lst _ => obtain ⟨_, _, rfl, _⟩ := h; rfl
  | tup _ => obtain ⟨_, _, rfl, _⟩ := h; rfl
  | ob _ _ _ => obtain ⟨_, _, _, rfl, _⟩ := h; rfl
  | dk _ _ => obtain ⟨_, _, _, rfl, _⟩ := h; rfl
  | rf _ => cases (show v = _ from h); rfl
  | ty _ => cases (show v = _ from h); rfl
theorem isN_eO {α : Type} {en : α → D} (h : ∀ x, isN (en x) = false) : ∀ o : Option α, isN (eO en o) = o.isNone
  | none => rfl
  | some x => h x
theorem od_isN {x : D} : OpD K rIsN (.im x) (.im .non) (.im (.bl (isN x))) := fun M H w u y hu hy Q k => ⟨hy, k _ H w (Same.refl _) (by rw [rD_non hu]; rfl)⟩
theorem od_notN {x : D} : OpD K rNotN (.im x) (.im .non) (.im (.bl (!isN x))) := fun M H w u y hu hy Q k => ⟨hy, k _ H w (Same.refl _) (by rw [rD_non hu]; rfl)⟩
theorem od_isNO {α : Type} {en : α → D} {o : Option α} (h : ∀ x, isN (en x) = false) : OpD K rIsN (.im (eO en o)) (.im .non) (.im (.bl o.isNone)) := by rw [← isN_eO h]; exact od_isN
theorem od_notNO {α : Type} {en : α → D} {o : Option α} (h : ∀ x, isN (en x) = false) : OpD K rNotN (.im (eO en o)) (.im .non) (.im (.bl (!o.isNone))) := by rw [← isN_eO h]; exact od_notN
def getO {α : Type} [Inhabited α] (o : Option α) : α := o.getD default
theorem eO_get {α : Type} [Inhabited α] {en : α → D} {o : Option α} (h : o.isSome = true) : eO en o = en (getO o) := by
  cases o with
  | none => cases h
  | some x => rfl
theorem ev_getO {α : Type} [Inhabited α] {en : α → D} {o : Option α} (he : EV K M σ H t (.im (eO en o))) (h : o.isSome = true) : EV K M σ H t (.im (en (getO o))) := by rw [← eO_get (en := en) h]; exact he
/-! fields of instances -/
theorem look_of {R : RH} : ∀ {ns : List Str} {ds : List D} {fs : List (Str × V)} {i : Nat} {nm : Str} {x : D}, fs.map Prod.fst = ns → rDs K R ds (fs.map Prod.snd) → ns.Nodup → ns[i]? = some nm → ds[i]? = some x → ∃ v, fs.lookup nm = some v ∧ rD K R x v
  | [], _, fs, i, nm, x, e, h, nd, hi, hx => by simp at hi
  | n :: ns, ds, [], i, nm, x, e, h, nd, hi, hx => by cases e
  | n :: ns, [], f :: fs, i, nm, x, e, h, nd, hi, hx => by cases (show (_ :: _ : List V) = [] from h)
  | n :: ns, y :: ds, f :: fs, 0, nm, x, e, h, nd, hi, hx => by
    simp only [List.map_cons, List.cons.injEq] at e
    obtain ⟨v, ws, e1, h1, h2⟩ := h
    simp only [List.map_cons, List.cons.injEq] at e1
    cases hi
    cases hx
    refine ⟨f.2, ?_, by rw [e1.1]; exact h1⟩
    obtain ⟨f1, f2⟩ := f
    rw [show n = f1 from e.1.symm]
    exact lk0
  | n :: ns, y :: ds, f :: fs, i + 1, nm, x, e, h, nd, hi, hx => by
    simp only [List.map_cons, List.cons.injEq] at e
    obtain ⟨v, ws, e1, h1, h2⟩ := h
    simp only [List.map_cons, List.cons.injEq] at e1
    rw [← e1.2] at h2
    rw [List.nodup_cons] at nd
    obtain ⟨u, hu, hr⟩ := look_of (i := i) e.2 h2 nd.2 (by simpa using hi) (by simpa using hx)
    refine ⟨u, ?_, hr⟩
    obtain ⟨f1, f2⟩ := f
    rw [lk1 (by
      rw [beq_eq_false_iff_ne]
      intro z
      exact nd.1 (by rw [show n = f1 from e.1.symm, ← z]; exact List.mem_of_getElem? (by simpa using hi)))]
    exact hu
theorem look_none {fs : List (Str × V)} {ns : List Str} {m : Str} (e : fs.map Prod.fst = ns) (h : m ∉ ns) : fs.lookup m = none := by
  induction fs generalizing ns with
  | nil => rfl
  | cons f fs ih =>
    cases ns with
    | nil => cases e
    | cons n ns =>
      simp only [List.map_cons, List.cons.injEq] at e
      obtain ⟨f1, f2⟩ := f
      rw [List.mem_cons, not_or] at h
      rw [lk1 (by rw [beq_eq_false_iff_ne]; intro z; exact h.1 (by rw [z]; exact e.1))]
      exact ih e.2 h.2
theorem ev_fld {C : Addr} {ns : List Str} {xs : List D} {nm : Str} {x : D} (i : Nat) (he : EV K M σ H t (.im (.ob C ns xs))) (hc : Cls K C) (hn : NoAttr K C nm) (nd : ns.Nodup) (hi : ns[i]? = some nm) (hx : xs[i]? = some x) : EV K M σ H (tFld K t nm) (.im x) := fun M' H1 w s Q k =>
  he M' H1 w s _ fun v H2 w2 s2 hv => by
    obtain ⟨a, dx, fs, rfl, h2, h3, h4⟩ := hv
    obtain ⟨u, hu, hr⟩ := look_of h3 h4 nd hi hx
    exact ⟨a, C, dx, fs, u, rfl, h2.1, hc, hn, hu, k u H2 w2 s2 hr⟩
theorem ev_meth {C : Addr} {ns : List Str} {xs : List D} {m : Str} {sp : Sp} {E : XK} (he : EV K M σ H ta (.im (.ob C ns xs))) (hm : m ∉ ns) (ha : EVA K M σ H tA ds) (ho : CaD K (fun vs H Q => sp vs H Q E) (.im (.ob C ns xs) :: ds) f) : EV K M σ H (tMeth C m sp [] E ta tA) f := fun M' H1 w s Q k =>
  he M' H1 w s _ fun v H2 w2 s2 hv => by
    obtain ⟨a, dx, fs, rfl, h2, h3, h4⟩ := id hv
    refine ⟨a, dx, fs, rfl, h2.1, look_none h3 hm, ha M' H2 w2 (s.sm s2) _ fun vs H3 w3 s3 hvs => ?_⟩
    rw [List.append_nil]
    exact ho M' H3 w3 _ (.cons (hv.same s3) hvs) Q fun u H4 w4 s4 hu => k u H4 w4 ((s2.trans s3).trans s4) hu
/-! own in, len -/
theorem od_inOwn {C : Addr} {ns : List Str} {xs : List D} {sp : Sp} {E : XK} {x : DV} {r : Bool} (ng : Bool) (ho : CaD K (fun vs H Q => sp vs H Q E) [.im (.ob C ns xs), x] (.im (.bl r))) : OpD K (rInOwn C sp E ng) x (.im (.ob C ns xs)) (.im (.bl (if ng then !r else r))) := fun M H w u y hu hy Q k => by
  obtain ⟨a, dx, fs, rfl, h2, h3, h4⟩ := id hy
  exact ⟨a, dx, fs, rfl, h2.1, ho M H w _ (.cons hy (.cons hu .nil)) _ fun v H2 w2 s2 hv => ⟨r, hv, k _ H2 w2 s2 rfl⟩⟩
theorem cd_lenOwn {C : Addr} {ns : List Str} {xs : List D} {sp : Sp} {E : XK} {r : Int} (ho : CaD K (fun vs H Q => sp vs H Q E) [.im (.ob C ns xs)] (.im (.int r))) (h0 : 0 ≤ r) (h1 : r < 2 ^ 63) : CaD K (rLenOwn C sp E) [.im (.ob C ns xs)] (.im (.int r)) := fun M H w us hu Q k => by
  cases hu with
  | cons hy hn =>
    cases hn
    obtain ⟨a, dx, fs, rfl, h2, h3, h4⟩ := id hy
    exact ⟨a, dx, fs, rfl, h2.1, ho M H w _ (.cons hy .nil) _ fun v H2 w2 s2 hv => ⟨r, hv, h0, h1, k _ H2 w2 s2 hv⟩⟩
theorem cd_strOwn {C : Addr} {ns : List Str} {xs : List D} {sp : Sp} {E : XK} {r : Str} (ho : CaD K (fun vs H Q => sp vs H Q E) [.im (.ob C ns xs)] (.im (.str r))) : CaD K (rStrOwn C sp E) [.im (.ob C ns xs)] (.im (.str r)) := fun M H w us hu Q k => by
  cases hu with
  | cons hy hn =>
    cases hn
    obtain ⟨a, dx, fs, rfl, h2, h3, h4⟩ := id hy
    exact ⟨a, dx, fs, rfl, h2.1, ho M H w _ (.cons hy .nil) _ fun v H2 w2 s2 hv => ⟨r, hv, k _ H2 w2 s2 hv⟩⟩
/-! frozen dicts with text keys -/
def eK {α : Type} (en : α → D) (kvs : List (Str × α)) : D := .dk (kvs.map fun p => (Sum.inr p.1 : Key)) (kvs.map fun p => en p.2)
theorem eK_get {α : Type} {en : α → D} {kvs : List (Str × α)} {v : V} (h : rD K (Fx M H) (eK en kvs) v) : ∃ a o ws, v = .ref a ∧ H a = some (.frz o (.dK ws)) ∧ ws.map Prod.fst = (kvs.map (enA en)).map (fun p => (Sum.inr p.1 : Key)) ∧ rDs K (Fx M H) ((kvs.map (enA en)).map Prod.snd) (ws.map Prod.snd) := by
  obtain ⟨a, o, ws, h1, h2, h3, h4⟩ := h
  refine ⟨a, o, ws, h1, h2.1, ?_, ?_⟩
  · rw [h3, List.map_map]; rfl
  · rw [List.map_map]; exact h4
theorem ev_kget {α : Type} [Inhabited α] {en : α → D} {kvs : List (Str × α)} {k : Str} {td ty : TE} (hd : EV K M σ H td (.im (eK en kvs))) (hk : EV K M σ H ty (.im (.str k))) (h : hasA kvs k = true) : EV K M σ H (tDGet td ty) (.im (en (getA kvs k))) := fun M' H1 w s Q kq =>
  hd M' H1 w s _ fun x H2 w2 s2 hx => hk M' H2 w2 (s.sm s2) _ fun y H3 w3 s3 hy => by
    obtain ⟨a, o, ws, rfl, h2, h0, h3⟩ := eK_get (hx.same s3)
    cases hy
    obtain ⟨v, hv, hr⟩ := val_of h0 h3 h
    exact ⟨a, v, rfl, .inl ⟨ws, Sum.inr k, .inr ⟨o, h2⟩, rfl, hv.symm⟩, kq _ H3 w3 (s2.trans s3) hr⟩
theorem ev_kin {α : Type} {en : α → D} {kvs : List (Str × α)} {k : Str} {td ty : TE} (hd : EV K M σ H td (.im (eK en kvs))) (hk : EV K M σ H ty (.im (.str k))) : EV K M σ H (tDIn ty td) (.im (.bl (hasA kvs k))) := fun M' H1 w s Q kq =>
  hk M' H1 w s _ fun y H2 w2 s2 hy => hd M' H2 w2 (s.sm s2) _ fun x H3 w3 s3 hx => by
    obtain ⟨a, o, ws, rfl, h2, h0, h3⟩ := eK_get hx
    cases hy
    refine ⟨a, _, rfl, .inl ⟨ws, Sum.inr k, .inr ⟨o, h2⟩, rfl, rfl⟩, ?_⟩
    rw [has_of h0]
    exact kq _ H3 w3 (s2.trans s3) rfl
theorem ev_knin {α : Type} {en : α → D} {kvs : List (Str × α)} {k : Str} {td ty : TE} (hd : EV K M σ H td (.im (eK en kvs))) (hk : EV K M σ H ty (.im (.str k))) : EV K M σ H (tDNotIn ty td) (.im (.bl (!hasA kvs k))) := fun M' H1 w s Q kq =>
  hk M' H1 w s _ fun y H2 w2 s2 hy => hd M' H2 w2 (s.sm s2) _ fun x H3 w3 s3 hx => by
    obtain ⟨a, o, ws, rfl, h2, h0, h3⟩ := eK_get hx
    cases hy
    refine ⟨a, _, rfl, .inl ⟨ws, Sum.inr k, .inr ⟨o, h2⟩, rfl, rfl⟩, ?_⟩
    rw [has_of h0]
    exact kq _ H3 w3 (s2.trans s3) rfl
theorem yd_pair {ws : List (Key × V)} {α : Type} {en : α → D} {kvs : List (Str × α)} (hk : ws.map Prod.fst = (kvs.map (enA en)).map (fun p => (Sum.inr p.1 : Key))) {i : Nat} {k : Key} {v : V} (h : ws[i]? = some (k, v)) : ∃ p, kvs[i]? = some p ∧ k = Sum.inr p.1 := by
  have := congrArg (fun l => l[i]?) hk
  simp only [List.getElem?_map, h] at this
  cases e : kvs[i]? with
  | none => rw [e] at this; cases this
  | some p => rw [e] at this; exact ⟨p, rfl, Option.some.inj this⟩
theorem evi_items {α : Type} {en : α → D} {kvs : List (Str × α)} (h : EV K M σ H t (.im (eK en kvs))) : EVI K M σ H (iItems t) GI (kvs.map (eP2 D.str en)) := fun M' H1 w s R k => h M' H1 w s _ fun v H2 w2 s2 hv => by
  obtain ⟨a, o, ws, e1, e2, e3, e4⟩ := id hv
  have e3' : ws.map Prod.fst = (kvs.map (enA en)).map (fun p => (Sum.inr p.1 : Key)) := by rw [e3, List.map_map]; rfl
  have e4' : rDs K (Fx M' H2) ((kvs.map (enA en)).map Prod.snd) (ws.map Prod.snd) := by rw [List.map_map]; exact e4
  refine ⟨a, o, ws, e1, e2.1, k _ H2 w2 s2 ?_⟩
  have e : (kvs.map (eP2 D.str en)).length = ws.length := by
    have := congrArg List.length e3'
    simp only [List.length_map] at this ⊢
    exact this.symm
  rw [e]
  refine walk_items.mono (fun H' g => (g.choose_spec _ _ e2).1) fun i H' x H'' hi g y => ?_
  obtain ⟨T, u1, u2, rfl, nT, rfl, q1, q2⟩ := y
  have hw : ws[i]? = some ws[i] := List.getElem?_eq_getElem hi
  obtain ⟨p, hp, hk⟩ := yd_pair e3' (show ws[i]? = some ((ws[i]).1, (ws[i]).2) from hw)
  simp only [hw, Option.map_some, Option.some.injEq] at q1 q2
  refine ⟨Same.new nT, eP2 D.str en p, by rw [List.getElem?_map, hp]; rfl, fun M2 w3 l => ⟨T, _, rfl, .inl ⟨upd_same, w3.free nT⟩, ⟨_, _, rfl, ?_, _, _, rfl, ?_, rfl⟩⟩⟩
  · rw [← q1, hk]; rfl
  · obtain ⟨d, hd, hr⟩ := e4'.get (i := i) (v := u2) (by rw [List.getElem?_map, hw]; exact congrArg some q2)
    rw [List.getElem?_map, List.getElem?_map, hp] at hd
    cases hd
    exact rD.mono (Fx.same (Same.new nT)) _ _ (rD.mono l _ _ hr)
def rLenDk : List V → Hp → VK → Prop := fun xs H Q => ∃ a kvs, xs = [.ref a] ∧ Rd H a (.dK kvs) ∧ Q (.int kvs.length) H
theorem call_len_dk {X : Cx} : CallR X (.builtin "len") rLenDk := by
  intro pins s σ H xs us Q I r h
  obtain ⟨a, kvs, rfl, hd, q⟩ := h
  cases r with
  | cons r1 r2 =>
    cases r2
    cases r1
    exact d_len I hd fun t s' I' => ⟨.int kvs.length, H, I', ⟨t, rfl⟩, q⟩
theorem cd_lenK {α : Type} {en : α → D} {kvs : List (Str × α)} : CaD K rLenDk [.im (eK en kvs)] (.im (.int kvs.length)) := fun M H w xs hx Q k => by
  cases hx with
  | cons h1 h2 =>
    cases h2
    obtain ⟨a, o, ws, e1, e2, e3, e4⟩ := eK_get h1
    refine ⟨a, ws, by rw [e1], .inr ⟨o, e2⟩, k _ H w (Same.refl _) ?_⟩
    have := congrArg List.length e3
    simp only [List.length_map] at this
    rw [this]; rfl
/-! enumerate, zip -/
def enumI {α : Type} (xs : List α) : List (Int × α) := xs.mapIdx fun i x => ((i : Int), x)
theorem enumI_get {α : Type} {xs : List α} {i : Nat} : (enumI xs)[i]? = xs[i]?.map fun x => ((i : Int), x) := by unfold enumI; rw [List.getElem?_mapIdx]
theorem enumI_len {α : Type} {xs : List α} : (enumI xs).length = xs.length := by unfold enumI; rw [List.length_mapIdx]
theorem evi_enum {α : Type} {en : α → D} {xs : List α} (h : EVA K M σ H tA [.im (.lst (xs.map en))]) : EVI K M σ H (iEnum K tA) GI ((enumI xs).map (eP2 D.int en)) := fun M' H1 w s R k => h M' H1 w s _ fun vs H2 w2 s2 hv => by
  cases hv with
  | cons h1 h2 =>
    cases h2
    obtain ⟨a, vs, rfl, e2, e3⟩ := h1
    refine ⟨a, vs, rfl, SqL.of e2.1, k _ H2 w2 s2 ?_⟩
    have e : ((enumI xs).map (eP2 D.int en)).length = vs.length := by rw [List.length_map, enumI_len, e3.len, List.length_map]
    rw [e]
    refine walk_enum.mono (fun H' g => SqL.of (g.choose_spec _ _ e2).1) fun i H' x H'' hi g y => ?_
    obtain ⟨T, u1, u2, rfl, nT, rfl, q1, q2⟩ := y
    obtain ⟨d, hd, hr⟩ := e3.get q2
    rw [List.getElem?_map] at hd
    obtain ⟨p, hp, rfl⟩ := Option.map_eq_some_iff.mp hd
    refine ⟨Same.new nT, eP2 D.int en ((i : Int), p), by rw [List.getElem?_map, enumI_get, hp]; rfl, fun M2 w3 l => ⟨T, _, rfl, .inl ⟨upd_same, w3.free nT⟩, ⟨_, _, rfl, ?_, _, _, rfl, ?_, rfl⟩⟩⟩
    · exact (Option.some.inj q1).symm
    · exact rD.mono (Fx.same (Same.new nT)) _ _ (rD.mono l _ _ hr)
theorem evi_zip {α β : Type} {en : α → D} {en' : β → D} {xs : List α} {ys : List β} {d e : DV} (h : EVA K M σ H tA [.im (.lst (xs.map en)), .im (.lst (ys.map en'))]) : EVI K M σ H (iZip K tA) GI ((xs.zip ys).map (eP2 en en')) := fun M' H1 w s R k => h M' H1 w s _ fun vs H2 w2 s2 hv => by
  cases hv with
  | cons h1 h2 =>
    cases h2 with
    | cons h2 h3 =>
      cases h3
      obtain ⟨a, vs, rfl, e2, e3⟩ := h1
      obtain ⟨b, us, rfl, f2, f3⟩ := h2
      refine ⟨a, b, vs, us, rfl, SqL.of e2.1, SqL.of f2.1, k _ H2 w2 s2 ?_⟩
      have e : ((xs.zip ys).map (eP2 en en')).length = min vs.length us.length := by rw [List.length_map, List.length_zip, e3.len, List.length_map, f3.len, List.length_map]
      refine (walk_zip e).mono (fun H' g => ⟨SqL.of (g.choose_spec _ _ e2).1, SqL.of (g.choose_spec _ _ f2).1⟩) fun i H' x H'' hi g y => ?_
      obtain ⟨T, u1, u2, rfl, nT, rfl, q1, q2⟩ := y
      obtain ⟨d, hd, hr⟩ := e3.get q1
      rw [List.getElem?_map] at hd
      obtain ⟨p, hp, rfl⟩ := Option.map_eq_some_iff.mp hd
      obtain ⟨d', hd', hr'⟩ := f3.get q2
      rw [List.getElem?_map] at hd'
      obtain ⟨p', hp', rfl⟩ := Option.map_eq_some_iff.mp hd'
      refine ⟨Same.new nT, eP2 en en' (p, p'), by rw [List.getElem?_map, List.getElem?_zip_eq_some (z := (p, p')) |>.mpr ⟨hp, hp'⟩]; rfl, fun M2 w3 l => ⟨T, _, rfl, .inl ⟨upd_same, w3.free nT⟩, ⟨_, _, rfl, ?_, _, _, rfl, ?_, rfl⟩⟩⟩
      · exact rD.mono (Fx.same (Same.new nT)) _ _ (rD.mono l _ _ hr)
      · exact rD.mono (Fx.same (Same.new nT)) _ _ (rD.mono l _ _ hr')
end
end Lf

set_option Elab.async false
set_option linter.all false
set_option maxRecDepth 100000
set_option maxHeartbeats 4000000
/-! x, *y = a list. -/
namespace Lf
open PySem PySem.Spec PySem.Calls PyProof.Rows L2
theorem star_items {prog : Program} {w : World} {A : Around} {E : Value → Shared → Prop} {s : Shared} {l : Addr} {items : Array Value} {Q : List Value → Shared → Prop} (hl : s.heap.IsList l items) (hh : A.handled = none) (hn : 1 ≤ items.size) (hz : items.size ≤ sizeLine)
    (h : ∀ (h' : Heap) (tk : Nat), (∀ b o, s.heap.get? b = some o → h'.get? b = some o) → Q (items.toList.take 1 ++ [.ref h'.objs.size]) { s with heap := h'.push { cls := .type "list", data := .seq (items.toList.drop 1).toArray }, toks := tk }) : wpAny (model prog w) A (unpackItems (.ref l) 2 (some 1)) Q E s := by
  have hlt : l ≠ s.heap.objs.size := by obtain ⟨o, ho, _⟩ := hl; exact Nat.ne_of_lt (Heap.lt_size ho)
  unfold unpackItems
  refine wpAny_bind ?_
  unfold notIterableAtAll
  refine wpAny_bind (wpAny_specialOf hl.typeIs slot_list_iter.lookup ?_)
  refine wpAny_pure ?_
  simp only [Bool.false_eq_true, if_false]
  refine wpAny_bind (wpAny_holding (wpAny_pyIter_list hl ?_))
  refine wpAny_bind (wpAny_holding (PySem.W.kun_draw hlt 1 0 _ _ ⟨_, Heap.get?_push_size _ rfl, rfl, rfl⟩ (hl.push _) (by omega) fun h₁ hit₁ hs₁ => ?_))
  have hl₁ : h₁.IsList l items := (hl.push _).extBut hs₁.extBut hlt
  rw [Nat.zero_add] at hit₁
  have hit₁' := hit₁
  obtain ⟨oi, hoi, _⟩ := hit₁'
  have hl₁' := hl₁
  obtain ⟨ol, hol, _⟩ := hl₁'
  rw [List.drop_zero]
  have hfl : (items.toList.take 1).length = 1 := by rw [List.length_take, Array.length_toList]; omega
  rw [if_neg (show ¬ ((items.toList.take 1).length < 1) by rw [hfl]; omega)]
  refine wpAny_bind (wpAny_holding (PySem.W.kun_collect (s := { s with heap := h₁ }) (T := "list_iterator") (.inr (.inr (.inl rfl))) (Walks.list (A := A.in1) hh s.heap.objs.size l hlt items) (fun j u st => st.1.typeIs) (k := 1) (by omega) ⟨hit₁, hl₁⟩ (Heap.lt_size hoi) (Heap.lt_size hol) (fun h₂ tk hk => ?_) hz))
  have hrl : (items.toList.drop 1).length = items.size - 1 := by rw [List.length_drop, Array.length_toList]
  show wpAny _ _ (if (items.toList.drop 1).length < 0 then _ else _) _ _ _
  rw [if_neg (by omega)]
  show wpAny _ _ (newList ((items.toList.drop 1).take ((items.toList.drop 1).length - 0)) >>= fun d => pure (items.toList.take 1 ++ [d] ++ (items.toList.drop 1).drop ((items.toList.drop 1).length - 0))) _ _ _
  rw [Nat.sub_zero, List.take_length, List.drop_length]
  have he : ∀ b o, s.heap.get? b = some o → h₂.get? b = some o := fun b o e => hk b o (Nat.ne_of_lt (Heap.lt_size e)) (hs₁.extBut b o (Nat.ne_of_lt (Heap.lt_size e)) (Heap.get?_push_of_some _ e))
  refine wpAny_bind (wpAny_newList (s := { s with heap := h₂, toks := tk }) (wpAny_pure ?_) (by rw [hrl]; omega))
  have := h h₂ tk he
  simpa using this
/-- x, *y = a list -/
def gStar1 (K : PySem.W.Frag) (t : TGs) : TG := fun v σ H Q => ∃ (a : Addr) (x : V) (xs : List V), v = .ref a ∧ SqL K H a (x :: xs) ∧ ∀ D H', H D = none → Same H H' → H' D = some (.lst xs) → t [x, .ref D] σ H' Q
theorem pg_star1 {X : Cx} {e1 e2 : Expr} {es : List Expr} {k : Nat} {pos : Pos} {t : TGs} (hc : X.calm = true) (h : PGs X [e1, e2] t)
    (he : (assignEach es X.env).map (·.2) = (assignEach [e1, e2] X.env).map (·.2) := by rfl) (hn : (assignEach es X.env).length = 2 := by rfl) (hst : (assignEach es X.env).findIdx? (·.1) = some 1 := by rfl) : PG X (.Tuple es k pos) (gStar1 X.K t) := by
  refine ⟨fun pins s σ H v u Q I r hw => ?_⟩
  obtain ⟨a, x, xs, e1, hq, hw⟩ := hw
  subst e1
  cases r
  obtain ⟨its, rv, hl, hz⟩ := I.list hq
  rw [assign_Tuple]
  refine wpAny_bind (wpAny_standAt ?_)
  unfold unpack
  rw [hn, hst]
  cases rv with
  | @cons _ u0 _ us r1 r2 =>
  have hsz : (u0 :: us).toArray.size = us.length + 1 := rfl
  refine wpAny_bind (wpAny_holding (star_items hl.isList (I.ok.hd hc) (by rw [hsz]; omega) (by rw [hsz]; have := r2.length; simp only [List.length_cons] at hz; omega) fun h' tk hx => ?_))
  rw [he]
  have I1 : Inv X pins σ H { s with heap := h', toks := tk } := I.kept (t' := tk) hx
  have nf : H h'.objs.size = none := I1.hok.fresh (Nat.le_refl _)
  have I2 : Inv X pins σ (upd H h'.objs.size (.lst xs)) { s with heap := h'.push { cls := .type "list", data := .seq us.toArray }, toks := tk } := I1.laid (t' := tk) (fun b o e => Heap.get?_push_of_some _ e) (Nat.le_refl _) ⟨by simp only [List.length_cons] at hz; omega, us, 0, r2, Heap.get?_push_size _ rfl⟩
  exact h.run pins _ σ _ [x, .ref h'.objs.size] [u0, .ref h'.objs.size] Q I2 (.cons r1 (.cons rfl .nil)) (hw _ _ nf (Same.new nf) upd_same)
section
variable {K : PySem.W.Frag} {M : Addr → Prop} {σ : L2.St} {H : Hp} {te : TE} {u : TS} {D : Ends}
/-- the first and the others -/
theorem st_star1 {α : Type} [Inhabited α] {en : α → Lf.D} {xs : List α} {i j : Nat} (he : EV K M σ H te (.im (.lst (xs.map en)))) (w : Wd M H) (h0 : xs ≠ [])
    (k : ∀ v1 v2 H2, Wd M H2 → Same H H2 → rV K M H2 (.im (en (xs.headD default))) v1 → rV K M H2 (.im (.lst (xs.tail.map en))) v2 → u D ((σ.set i (some v1)).set j (some v2)) H2) : tSeq (tAsg te (gStar1 K (gCons (gName i) (gCons (gName j) gNil)))) u D σ H := by
  refine he.go w fun v H1 w1 s1 hv => ?_
  obtain ⟨a, vs, rfl, h2, h3⟩ := hv
  cases xs with
  | nil => exact absurd rfl h0
  | cons x xs =>
    obtain ⟨v, ws, rfl, h4, h5⟩ := h3
    refine ⟨a, v, ws, rfl, SqL.of h2.1, fun p H2 np s2 hp => ?_⟩
    refine ⟨_, _, rfl, _, _, rfl, rfl, ?_⟩
    exact k v (.ref p) H2 (w1.same s2) (s1.trans s2) (rD.same h4 s2) ⟨p, ws, rfl, w1.new np hp, h5.same s2⟩
end
end Lf

set_option Elab.async false
set_option linter.all false
set_option maxRecDepth 100000
set_option maxHeartbeats 4000000
/-! x op= e; raise. -/
namespace Lf
open PySem PySem.Spec PyProof.Rows L2
theorem ip_mul {X : Cx} : PIp X .Mult rMulI := by
  intro pins s σ H x y v u Q I r1 r2 h
  obtain ⟨i, j, e1, e2, hc, q⟩ := h
  subst e1; subst e2
  obtain ⟨t, rfl⟩ := r1
  obtain ⟨t', rfl⟩ := r2
  exact imul_int ⟨.int _, H, I.tok _, ⟨_, rfl⟩, q⟩ hc.ok
theorem ip_mulW {X : Cx} : PIp X .Mult (rI CMulW fun i j => .int (i * j)) := by
  intro pins s σ H x y v u Q I r1 r2 h
  obtain ⟨i, j, e1, e2, hc, q⟩ := h
  subst e1; subst e2
  obtain ⟨t, rfl⟩ := r1
  obtain ⟨t', rfl⟩ := r2
  exact imul_int ⟨.int _, H, I.tok _, ⟨_, rfl⟩, q⟩ hc.ok
theorem ip_addI {X : Cx} : PIp X .Add rAddI := by
  intro pins s σ H x y v u Q I r1 r2 h
  obtain ⟨i, j, e1, e2, q⟩ := h
  subst e1; subst e2
  obtain ⟨t, rfl⟩ := r1
  obtain ⟨t', rfl⟩ := r2
  exact iadd_int ⟨.int _, H, I.tok _, ⟨_, rfl⟩, q⟩
theorem ip_subI {X : Cx} : PIp X .Sub rSubI := by
  intro pins s σ H x y v u Q I r1 r2 h
  obtain ⟨i, j, e1, e2, q⟩ := h
  subst e1; subst e2
  obtain ⟨t, rfl⟩ := r1
  obtain ⟨t', rfl⟩ := r2
  exact isub_int ⟨.int _, H, I.tok _, ⟨_, rfl⟩, q⟩
section
variable {K : PySem.W.Frag} {M : Addr → Prop} {σ : L2.St} {H : Hp} {te : TE} {u : TS} {D : Ends} {d e : DV} {ti : R2} {i : Nat} {x : V}
theorem st_aug {α : Type} {en : α → Lf.D} {x0 : α} (hs : σ[i]? = some (some x)) (hx : rV K M H d x) (he : EV K M σ H te e) (ho : OpD K ti d e (.im (en x0))) (w : Wd M H)
    (k : ∀ z, z = x0 → ∀ v H2, Wd M H2 → Same H H2 → rV K M H2 (.im (en z)) v → u D (σ.set i (some v)) H2) : tSeq (tAug i te ti) u D σ H :=
  ⟨x, hs, he.go w fun y H2 w2 s2 hy => ho M H2 w2 x y (hx.same s2) hy _ fun v H3 w3 s3 hv => k x0 rfl v H3 w3 (s2.trans s3) hv⟩
theorem st_break {nx bk ct : L2.St → Hp → Prop} {rt : VK} (h : bk σ H) : tSeq tBreak u ⟨nx, rt, bk, ct⟩ σ H := h
theorem st_cont {nx bk ct : L2.St → Hp → Prop} {rt : VK} (h : ct σ H) : tSeq tCont u ⟨nx, rt, bk, ct⟩ σ H := h
/-- a text or None among texts -/
def inO (o : Option Str) (xs : List Str) : Bool := match o with
  | none => false
  | some x => decide (x ∈ xs)
theorem inV_non (xs : List Str) : inV .non (xs.map V.str) = false := by
  induction xs with
  | nil => rfl
  | cons x xs ih =>
    rw [List.map_cons]
    have e : eqV (V.str x) V.non = false := rfl
    simpa [inV, e] using ih
theorem od_inO {o : Option Str} {xs : List Str} {d : DV} (ng : Bool) (h : SqOf d (xs.map .str)) : OpD K (rIn K ng) (.im (eO Lf.D.str o)) d (.im (.bl (if ng then !inO o xs else inO o xs))) := fun M H w u y hu hy Q k => by
  cases o with
  | some x =>
    cases ng with
    | true => exact od_ninS h M H w u y hu hy Q k
    | false => exact od_inS h M H w u y hu hy Q k
  | none =>
    cases (show u = .non from hu)
    obtain ⟨a, vs, rfl, h2, h3⟩ := h.get hy
    rw [h3.strs] at h2
    refine ⟨a, xs.map V.str, rfl, h2, rfl, flat_strs' xs, ?_⟩
    rw [inV_non]
    cases ng <;> exact k _ H w (Same.refl _) rfl
end
end Lf

set_option Elab.async false
set_option linter.all false
set_option maxRecDepth 100000
set_option maxHeartbeats 4000000
/-! Dicts locked for a statement; frozen for good. -/
namespace Lf
open PySem PySem.Spec PyProof.Rows L2
/-- behind the statement the thing at d is written no more -/
def tFrz (t : TS) : TS := fun D σ H => t { D with nx := fun σ' H' => ∃ d u, H' d = some u ∧ Mut (some u) ∧ ∀ od, D.nx σ' (upd H' d (.frz od u)) } σ H
theorem ps_frz {X : Cx} {st : Stmt} {t : TS} (h : PS X st t) : PS X st (tFrz t) := by
  refine ⟨fun pins s σ H D I hw => ?_⟩
  refine thn (h.run pins s σ _ _ I hw) fun f s1 q => ?_
  cases f with
  | next =>
    obtain ⟨σ', H', I2, d, u, hd, mu, q⟩ := q
    obtain ⟨od, I3⟩ := I2.lock hd mu
    exact ⟨σ', _, I3, q od⟩
  | brk => exact q
  | cont => exact q
  | ret v => exact q
theorem st_fld {K : PySem.W.Frag} {ta tv : TE} {f : Str} {u : TS} {D : Ends} {σ : L2.St} {H : Hp} (h : tv σ H fun y H1 => ta σ H1 fun x H2 => ∃ a C dx fs, x = .ref a ∧ H2 a = some (.ins C dx fs) ∧ Cls K C ∧ NoAttr K C f ∧ fs.length < 1000 ∧ u D σ (upd H2 a (.ins C dx (putF f y fs)))) : tSeq (sFld K ta tv f) u D σ H := h
def uFrz2 (u : TS) : TS := fun D σ' H' => ∃ d2 o2, H' d2 = some o2 ∧ Mut (some o2) ∧ ∀ od2, ∃ d o, (upd H' d2 (.frz od2 o2)) d = some o ∧ Mut (some o) ∧ ∀ od, u D σ' (upd (upd H' d2 (.frz od2 o2)) d (.frz od o))
theorem st_frz2 {t u : TS} {D : Ends} {σ : L2.St} {H : Hp} (h : tSeq t (uFrz2 u) D σ H) : tSeq (tFrz (tFrz t)) u D σ H := h
def lk2 (H : Hp) (m f : Addr) (ws us : List (Key × V)) (om ou : Obj) : Hp := upd (upd H m (.frz om (.dK ws))) f (.frz ou (.dK us))
section
variable {H H2 : Hp} {m f : Addr} {ws us : List (Key × V)} {om ou : Obj}
theorem lk2_m (hn : m ≠ f) : lk2 H m f ws us om ou m = some (.frz om (.dK ws)) := by unfold lk2; rw [upd_ne hn, upd_same]
theorem lk2_f : lk2 H m f ws us om ou f = some (.frz ou (.dK us)) := upd_same
theorem lk2_ne {q : Addr} (h1 : q ≠ m) (h2 : q ≠ f) : lk2 H m f ws us om ou q = H q := by unfold lk2; rw [upd_ne h2, upd_ne h1]
theorem lk2_free {d : Addr} (hm : H m = some (.dK ws)) (hf : H f = some (.dK us)) (h : lk2 H m f ws us om ou d = none) : H d = none := by
  by_cases h2 : d = f
  · rw [h2, lk2_f] at h; cases h
  · by_cases h1 : d = m
    · unfold lk2 at h; rw [upd_ne h2, h1, upd_same] at h; cases h
    · rw [lk2_ne h1 h2] at h; exact h
theorem Wd.lk2 {M : Addr → Prop} (w : Wd M H) : Wd M (lk2 H m f ws us om ou) := Wd.upd (Wd.upd w)
theorem lk2_back (hm : H m = some (.dK ws)) (hf : H f = some (.dK us)) (hn : m ≠ f) (s : Same (lk2 H m f ws us om ou) H2) : Same H (upd (upd H2 f (.dK us)) m (.dK ws)) := fun q o e => by
  by_cases h1 : q = m
  · rw [h1, upd_same]; rw [h1, hm] at e; exact e
  · rw [upd_ne h1]
    by_cases h2 : q = f
    · rw [h2, upd_same]; rw [h2, hf] at e; exact e
    · rw [upd_ne h2]
      exact s q o (by rw [lk2_ne h1 h2]; exact e)
end
theorem st_lockIf {tt : TT} {c1 u : TS} {D : Ends} {σ : L2.St} {H : Hp} {m f : Addr} {ws us : List (Key × V)} {M' : Addr → Prop} {b : Bool} (hm : H m = some (.dK ws)) (hf : H f = some (.dK us)) (hn : m ≠ f)
    (ht : ∀ om ou, EVT M' σ (lk2 H m f ws us om ou) tt b ∧ Wd M' (lk2 H m f ws us om ou))
    (yes : b = true → ∀ om ou H2 D', Same (lk2 H m f ws us om ou) H2 → c1 D' σ H2) (no : b = false → ∀ H2, Same H H2 → u D σ H2) : tSeq (tLock (tLock (tIfS tt c1 tNext))) u D σ H := by
  refine ⟨m, .dK ws, hm, True.intro, fun om => ⟨f, .dK us, (by rw [upd_ne (Ne.symm hn)]; exact hf), True.intro, fun ou => ?_⟩⟩
  obtain ⟨h1, h2⟩ := ht om ou
  refine h1.go h2 fun H2 w2 s2 => ?_
  cases b with
  | true => exact iteT (yes rfl om ou H2 _ s2)
  | false =>
    refine iteF ⟨s2 _ _ lk2_f, ?_, no rfl _ (lk2_back hm hf hn s2)⟩
    rw [upd_ne hn]
    exact s2 _ _ (lk2_m hn)
end Lf

set_option Elab.async false
set_option linter.all false
set_option maxRecDepth 100000
set_option maxHeartbeats 4000000
/-! zip of a list or tuple and a list or tuple. -/
namespace Lf
open PySem PySem.Spec PyProof.Rows L2
/-- an iterator over a list (true) or a tuple (false) -/
def ItB (b : Bool) (h : Heap) (it l : Addr) (k : Nat) : Prop := if b = true then h.IsListIter it l k else h.IsTupleIter it l k
def SqB (b : Bool) (h : Heap) (l : Addr) (xs : Array Value) : Prop := if b = true then h.IsList l xs else h.IsTuple l xs
section
variable {b : Bool} {h h' : Heap} {it l : Addr} {k : Nat} {xs : Array Value}
theorem ItB.at (x : ItB b h it l k) (e : ∀ o, h.get? it = some o → h'.get? it = some o) : ItB b h' it l k := by
  cases b with
  | true => exact Heap.IsListIter.at (show h.IsListIter it l k from x) e
  | false => exact Heap.IsTupleIter.at (show h.IsTupleIter it l k from x) e
theorem ItB.ex (x : ItB b h it l k) : ∃ o vs, h.get? it = some o ∧ o.data = .fields vs := by
  cases b with
  | true => obtain ⟨o, e, _, d⟩ := (show h.IsListIter it l k from x); exact ⟨o, _, e, d⟩
  | false => obtain ⟨o, e, _, d⟩ := (show h.IsTupleIter it l k from x); exact ⟨o, _, e, d⟩
theorem SqB.kept (x : SqB b h l xs) (e : ∀ o, h.get? l = some o → h'.get? l = some o) : SqB b h' l xs := by
  cases b with
  | true => obtain ⟨o, q, r⟩ := (show h.IsList l xs from x); exact (show h'.IsList l xs from ⟨o, e o q, r⟩)
  | false => obtain ⟨o, q, r⟩ := (show h.IsTuple l xs from x); exact (show h'.IsTuple l xs from ⟨o, e o q, r⟩)
end
section
variable {prog : Program} {w : World} {A : Around} {E : Value → Shared → Prop} {s : Shared}
theorem nextB_item {b : Bool} {it l : Addr} {i : Nat} {items : Array Value} {x : Value} {Q : Value → Shared → Prop} (hit : ItB b s.heap it l i) (hl : SqB b s.heap l items) (hx : items[i]? = some x)
    (hQ : ∀ h', ItB b h' it l (i + 1) → Heap.SameBut it s.heap h' → Q x { s with heap := h' }) : wpAny (model prog w) A (Builtin.SmallTypes.nextOf (.ref it)) Q E s := by
  cases b with
  | true => exact wpAny_nextOf_list_item hit hl hx hQ
  | false => exact RZ.nextOf_tuple_item hit hl hx hQ
theorem nextB_end {b : Bool} {it l : Addr} {i : Nat} {items : Array Value} {Q : Value → Shared → Prop} (hh : A.handled = none) (hit : ItB b s.heap it l i) (hl : SqB b s.heap l items) (hx : items[i]? = none)
    (hE : ∀ h' e, Heap.ExtBut it s.heap h' → (∃ o, h'.get? e = some o ∧ o.cls = .type "StopIteration") → E (.ref e) { s with heap := h' }) : wpAny (model prog w) A (Builtin.SmallTypes.nextOf (.ref it)) Q E s := by
  cases b with
  | true => exact wpAny_nextOf_list_end hh hit hl hx hE
  | false => exact RZ.nextOf_tuple_end hh hit hl hx hE
theorem zipB_item {b1 b2 : Bool} {z TI TO i1 i2 l1 l2 : Addr} {k1 k2 : Nat} {xs ys : Array Value} {x y a b : Value} {Q : Value → Shared → Prop} (D : ZipApart z TI TO i1 i2 l1 l2)
    (hz : IsZip s.heap z TI TO .none) (hTI : IsPair s.heap TI (.ref i1) (.ref i2)) (hTO : IsPair s.heap TO a b)
    (h1 : ItB b1 s.heap i1 l1 k1) (h2 : ItB b2 s.heap i2 l2 k2) (hl1 : SqB b1 s.heap l1 xs) (hl2 : SqB b2 s.heap l2 ys) (hx : xs[k1]? = some x) (hy : ys[k2]? = some y)
    (hQ : ∀ h', IsZip h' z TI TO (rawInt s.heap.objs.size) → IsPair h' TO x y → ItB b1 h' i1 l1 (k1 + 1) → ItB b2 h' i2 l2 (k2 + 1) → IsPair h' s.heap.objs.size x y → h'.objs.size = s.heap.objs.size + 1 →
      (∀ c o, c ≠ z → c ≠ TO → c ≠ i1 → c ≠ i2 → s.heap.get? c = some o → h'.get? c = some o) → Q (.ref s.heap.objs.size) { s with heap := h' }) :
    wpAny (model prog w) A (Builtin.«zip.__next__» ⟨[.ref z], []⟩) (fun fin s' => ∃ v, fin = .done (.ret v) ∧ Q v s') E s := by
  show wpAny _ _ (field (.ref z) 2 >>= _) _ _ _
  refine wpAny_bind (wpAny_field hz rfl (x := .bool false) rfl ?_)
  show wpAny _ _ (field (.ref z) 3 >>= _) _ _ _
  refine wpAny_bind (wpAny_field hz rfl (x := .ref TI) rfl ?_)
  refine wpAny_bind (wpAny_seqItems hTI rfl ?_)
  show wpAny _ _ (Builtin.SmallTypes.ownedTupleIsFree (.ref z) >>= _) _ _ _
  refine wpAny_bind ?_
  unfold Builtin.SmallTypes.ownedTupleIsFree
  refine wpAny_bind (wpAny_field hz rfl (x := .none) rfl (wpAny_pure ?_))
  simp only [if_true]
  refine wpAny_bind (wpAny_rule ?_)
  refine wpAny_bind (wpAny_field hz rfl (x := .ref TO) rfl ?_)
  refine wpAny_bind (wpAny_setField_rec hz (by simp) fun g1 hz1 hs1 => ?_)
  replace hz1 : IsZip g1 z TI TO .ellipsis := hz1
  refine wpAny_bind ?_
  simp only [List.zipIdx_cons, List.zipIdx_nil, List.forIn_cons, List.forIn_nil]
  refine wpAny_bind (wpAny_bind (wpAny_onRaise ?_))
  show wpAny _ _ (Builtin.SmallTypes.nextOf (.ref i1) >>= _) _ _ _
  refine wpAny_bind (nextB_item (s := { s with heap := g1 }) (h1.at fun o e => hs1.extBut _ _ D.i1z e) (hl1.kept fun o e => hs1.extBut _ _ D.l1z e) hx fun g2 h1a hs2 => wpAny_pure ?_)
  have hTO2 : IsPair g2 TO a b := hs2.extBut _ _ D.TOi1 (hs1.extBut _ _ D.TOz hTO)
  refine wpAny_bind (wpAny_seqItems hTO2 rfl ?_)
  refine wpAny_bind (wpAny_updateSeq_pair hTO2 fun g3 hTO3 hs3 => ?_)
  replace hTO3 : IsPair g3 TO x b := hTO3
  refine wpAny_bind (wpAny_letGo (wpAny_pure ?_))
  refine wpAny_bind (wpAny_bind (wpAny_onRaise ?_))
  show wpAny _ _ (Builtin.SmallTypes.nextOf (.ref i2) >>= _) _ _ _
  refine wpAny_bind (nextB_item (s := { s with heap := g3 }) (h2.at fun o e => hs3.extBut _ _ D.TOi2.symm (hs2.extBut _ _ D.i12.symm (hs1.extBut _ _ D.i2z e))) (hl2.kept fun o e => hs3.extBut _ _ D.l2TO (hs2.extBut _ _ D.l2i1 (hs1.extBut _ _ D.l2z e))) hy fun g4 h2a hs4 => wpAny_pure ?_)
  have hTO4 : IsPair g4 TO x b := hs4.extBut _ _ D.TOi2 hTO3
  refine wpAny_bind (wpAny_seqItems hTO4 rfl ?_)
  refine wpAny_bind (wpAny_updateSeq_pair hTO4 fun g5 hTO5 hs5 => ?_)
  replace hTO5 : IsPair g5 TO x y := hTO5
  refine wpAny_bind (wpAny_letGo (wpAny_pure (wpAny_pure ?_)))
  refine wpAny_bind (wpAny_seqItems hTO5 rfl ?_)
  refine wpAny_bind (wpAny_newTuple ?_)
  have hsz : g5.objs.size = s.heap.objs.size := by rw [hs5.1, hs4.1, hs3.1, hs2.1, hs1.1]
  have hz5 : IsZip g5 z TI TO .ellipsis := hs5.extBut _ _ D.TOz.symm (hs4.extBut _ _ D.i2z.symm (hs3.extBut _ _ D.TOz.symm (hs2.extBut _ _ D.i1z.symm hz1)))
  have hk5 : ∀ c o, c ≠ z → c ≠ TO → c ≠ i1 → c ≠ i2 → s.heap.get? c = some o → g5.get? c = some o := fun c o c1 c2 c3 c4 e =>
    hs5.extBut _ _ c2 (hs4.extBut _ _ c4 (hs3.extBut _ _ c2 (hs2.extBut _ _ c3 (hs1.extBut _ _ c1 e))))
  have h1b : ItB b1 g5 i1 l1 (k1 + 1) := h1a.at fun o e => hs5.extBut _ _ D.TOi1.symm (hs4.extBut _ _ D.i12 (hs3.extBut _ _ D.TOi1.symm e))
  have h2b : ItB b2 g5 i2 l2 (k2 + 1) := h2a.at fun o e => hs5.extBut _ _ D.TOi2.symm e
  have hzlt : z < g5.objs.size := Heap.lt_size hz5
  show wpAny _ _ (Builtin.SmallTypes.ownedTupleHandOut (.ref z) (.ref g5.objs.size) >>= _) _ _ _
  refine wpAny_bind ?_
  unfold Builtin.SmallTypes.ownedTupleHandOut
  have hz6 : IsZip (g5.push { cls := .type "tuple", data := .seq #[x, y] }) z TI TO .ellipsis := Heap.get?_push_of_some _ hz5
  refine wpAny_bind (wpAny_setField_rec hz6 (by simp) fun g7 hz7 hs7 => ?_)
  replace hz7 : IsZip g7 z TI TO (rawInt g5.objs.size) := hz7
  refine wpAny_setField_rec hz7 (by simp) fun g8 hz8 hs8 => ?_
  replace hz8 : IsZip g8 z TI TO (rawInt g5.objs.size) := hz8
  have up : ∀ c o, c ≠ z → g5.get? c = some o → g8.get? c = some o := fun c o c1 e => hs8.extBut _ _ c1 (hs7.extBut _ _ c1 (Heap.get?_push_of_some _ e))
  have hT8 : IsPair g8 g5.objs.size x y := hs8.extBut _ _ (Nat.ne_of_gt hzlt) (hs7.extBut _ _ (Nat.ne_of_gt hzlt) (Heap.get?_push_size _ rfl))
  have hs9 : g8.objs.size = g5.objs.size + 1 := by rw [hs8.1, hs7.1, Heap.size_push]
  rw [hsz] at hz8 hT8 hs9
  refine wpAny_pure ⟨_, rfl, ?_⟩
  show Q (.ref g5.objs.size) _
  rw [hsz]
  exact hQ g8 hz8 (up _ _ D.TOz hTO5) (h1b.at fun o e => up _ o D.i1z e) (h2b.at fun o e => up _ o D.i2z e) hT8 hs9 fun c o c1 c2 c3 c4 e => up c o c1 (hk5 c o c1 c2 c3 c4 e)
theorem zipB_end {b1 b2 : Bool} {z TI TO i1 i2 l1 l2 : Addr} {k1 k2 : Nat} {xs ys : Array Value} {a b : Value} {Q : Fin → Shared → Prop} (hh : A.handled = none) (D : ZipApart z TI TO i1 i2 l1 l2)
    (hz : IsZip s.heap z TI TO .none) (hTI : IsPair s.heap TI (.ref i1) (.ref i2)) (hTO : IsPair s.heap TO a b)
    (h1 : ItB b1 s.heap i1 l1 k1) (h2 : ItB b2 s.heap i2 l2 k2) (hl1 : SqB b1 s.heap l1 xs) (hl2 : SqB b2 s.heap l2 ys) (hend : xs[k1]? = none ∨ ys[k2]? = none)
    (hE : ∀ h' e, (∀ c o, c ≠ z → c ≠ TO → c ≠ i1 → c ≠ i2 → s.heap.get? c = some o → h'.get? c = some o) → (∃ o, h'.get? e = some o ∧ o.cls = .type "StopIteration") → E (.ref e) { s with heap := h' }) :
    wpAny (model prog w) A (Builtin.«zip.__next__» ⟨[.ref z], []⟩) Q E s := by
  show wpAny _ _ (field (.ref z) 2 >>= _) _ _ _
  refine wpAny_bind (wpAny_field hz rfl (x := .bool false) rfl ?_)
  show wpAny _ _ (field (.ref z) 3 >>= _) _ _ _
  refine wpAny_bind (wpAny_field hz rfl (x := .ref TI) rfl ?_)
  refine wpAny_bind (wpAny_seqItems hTI rfl ?_)
  show wpAny _ _ (Builtin.SmallTypes.ownedTupleIsFree (.ref z) >>= _) _ _ _
  refine wpAny_bind ?_
  unfold Builtin.SmallTypes.ownedTupleIsFree
  refine wpAny_bind (wpAny_field hz rfl (x := .none) rfl (wpAny_pure ?_))
  simp only [if_true]
  refine wpAny_bind (wpAny_rule ?_)
  refine wpAny_bind (wpAny_field hz rfl (x := .ref TO) rfl ?_)
  refine wpAny_bind (wpAny_setField_rec hz (by simp) fun g1 hz1 hs1 => ?_)
  replace hz1 : IsZip g1 z TI TO .ellipsis := hz1
  refine wpAny_bind ?_
  simp only [List.zipIdx_cons, List.zipIdx_nil, List.forIn_cons, List.forIn_nil]
  refine wpAny_bind (wpAny_bind (wpAny_onRaise ?_))
  show wpAny _ _ (Builtin.SmallTypes.nextOf (.ref i1) >>= _) _ _ _
  have h1g : ItB b1 g1 i1 l1 k1 := h1.at fun o e => hs1.extBut _ _ D.i1z e
  have l1g : SqB b1 g1 l1 xs := hl1.kept fun o e => hs1.extBut _ _ D.l1z e
  cases hx : xs[k1]? with
  | none =>
    refine wpAny_bind (nextB_end (s := { s with heap := g1 }) hh h1g l1g hx fun g2 e hs2 he => ?_)
    obtain ⟨oe, hoe, hce⟩ := he
    have hz2 : IsZip g2 z TI TO .ellipsis := hs2 _ _ D.i1z.symm hz1
    have hez : e ≠ z := fun x => by subst x; rw [hz2] at hoe; cases hoe; simp at hce
    refine wpAny_setField_rec hz2 (by simp) fun g3 _ hs3 => hE g3 e (fun c o c1 _ c3 _ x => hs3.extBut _ _ c1 (hs2 _ _ c3 (hs1.extBut _ _ c1 x))) ⟨oe, hs3.extBut _ _ hez hoe, hce⟩
  | some x =>
    have hy : ys[k2]? = none := by rcases hend with h | h; rw [hx] at h; cases h; exact h
    refine wpAny_bind (nextB_item (s := { s with heap := g1 }) h1g l1g hx fun g2 h1a hs2 => wpAny_pure ?_)
    have hTO2 : IsPair g2 TO a b := hs2.extBut _ _ D.TOi1 (hs1.extBut _ _ D.TOz hTO)
    refine wpAny_bind (wpAny_seqItems hTO2 rfl ?_)
    refine wpAny_bind (wpAny_updateSeq_pair hTO2 fun g3 hTO3 hs3 => ?_)
    refine wpAny_bind (wpAny_letGo (wpAny_pure ?_))
    refine wpAny_bind (wpAny_bind (wpAny_onRaise ?_))
    show wpAny _ _ (Builtin.SmallTypes.nextOf (.ref i2) >>= _) _ _ _
    refine wpAny_bind (nextB_end (s := { s with heap := g3 }) hh (h2.at fun o e => hs3.extBut _ _ D.TOi2.symm (hs2.extBut _ _ D.i12.symm (hs1.extBut _ _ D.i2z e))) (hl2.kept fun o e => hs3.extBut _ _ D.l2TO (hs2.extBut _ _ D.l2i1 (hs1.extBut _ _ D.l2z e))) hy fun g4 e hs4 he => ?_)
    obtain ⟨oe, hoe, hce⟩ := he
    have hz4 : IsZip g4 z TI TO .ellipsis := hs4 _ _ D.i2z.symm (hs3.extBut _ _ D.TOz.symm (hs2.extBut _ _ D.i1z.symm hz1))
    have hez : e ≠ z := fun x => by subst x; rw [hz4] at hoe; cases hoe; simp at hce
    refine wpAny_setField_rec hz4 (by simp) fun g5 _ hs5 => hE g5 e (fun c o c1 c2 c3 c4 x => hs5.extBut _ _ c1 (hs4 _ _ c4 (hs3.extBut _ _ c2 (hs2.extBut _ _ c3 (hs1.extBut _ _ c1 x))))) ⟨oe, hs5.extBut _ _ hez hoe, hce⟩
theorem nextZ_item {b1 b2 : Bool} {z TI TO i1 i2 l1 l2 : Addr} {k1 k2 : Nat} {xs ys : Array Value} {x y a b : Value} {Q : Option Value → Shared → Prop} (D : ZipApart z TI TO i1 i2 l1 l2)
    (hz : IsZip s.heap z TI TO .none) (hTI : IsPair s.heap TI (.ref i1) (.ref i2)) (hTO : IsPair s.heap TO a b)
    (h1 : ItB b1 s.heap i1 l1 k1) (h2 : ItB b2 s.heap i2 l2 k2) (hl1 : SqB b1 s.heap l1 xs) (hl2 : SqB b2 s.heap l2 ys) (hx : xs[k1]? = some x) (hy : ys[k2]? = some y)
    (hQ : ∀ h', IsZip h' z TI TO (rawInt s.heap.objs.size) → IsPair h' TO x y → ItB b1 h' i1 l1 (k1 + 1) → ItB b2 h' i2 l2 (k2 + 1) → IsPair h' s.heap.objs.size x y → h'.objs.size = s.heap.objs.size + 1 →
      (∀ c o, c ≠ z → c ≠ TO → c ≠ i1 → c ≠ i2 → s.heap.get? c = some o → h'.get? c = some o) → Q (some (.ref s.heap.objs.size)) { s with heap := h' }) :
    wpAny (model prog w) A (pyNext (.ref z)) Q E s := by
  have hT : s.TypeIs (.ref z) "zip" := ⟨_, hz, rfl⟩
  unfold pyNext
  exact wpAny_bind (wpAny_attempt (wpAny_callSpecial?_slot (name := Str.ofString "__next__") hT F.slot_zip_next
    (wpAny_call_entry F.slot_zip_next hT F.entry_zip_next
      (zipB_item D hz hTI hTO h1 h2 hl1 hl2 hx hy fun h' a1 a2 a3 a4 a5 a6 a7 => wpAny_pure (hQ h' a1 a2 a3 a4 a5 a6 a7)) (F.args_zip_next_1 _))))
theorem nextZ_end {b1 b2 : Bool} {z TI TO i1 i2 l1 l2 : Addr} {k1 k2 : Nat} {xs ys : Array Value} {a b : Value} {Q : Option Value → Shared → Prop} (hh : A.handled = none) (D : ZipApart z TI TO i1 i2 l1 l2)
    (hz : IsZip s.heap z TI TO .none) (hTI : IsPair s.heap TI (.ref i1) (.ref i2)) (hTO : IsPair s.heap TO a b)
    (h1 : ItB b1 s.heap i1 l1 k1) (h2 : ItB b2 s.heap i2 l2 k2) (hl1 : SqB b1 s.heap l1 xs) (hl2 : SqB b2 s.heap l2 ys) (hend : xs[k1]? = none ∨ ys[k2]? = none)
    (hQ : ∀ h', (∀ c o, c ≠ z → c ≠ TO → c ≠ i1 → c ≠ i2 → s.heap.get? c = some o → h'.get? c = some o) → Q none { s with heap := h' }) : wpAny (model prog w) A (pyNext (.ref z)) Q E s := by
  have hT : s.TypeIs (.ref z) "zip" := ⟨_, hz, rfl⟩
  unfold pyNext
  refine wpAny_bind (wpAny_attempt (wpAny_callSpecial?_slot (name := Str.ofString "__next__") hT F.slot_zip_next
    (wpAny_call_entry F.slot_zip_next hT F.entry_zip_next (zipB_end hh D hz hTI hTO h1 h2 hl1 hl2 hend fun h' e hk he => ?_) (F.args_zip_next_1 _))))
  obtain ⟨o, ho, hc⟩ := he
  refine wpAny_bind (wpAny_isInstance (T := "StopIteration") (b := true) ⟨o, ho, hc⟩ isSubtype_stop ?_)
  exact wpAny_pure (hQ _ hk)
end
/-- a list (true) or a tuple (false), by values -/
def SqV (b : Bool) (K : PySem.W.Frag) (H : Hp) (a : Addr) (xs : List V) : Prop := if b = true then SqL K H a xs else SqT K H a xs
section
variable {X : Cx} {pins : List (Addr × Obj)} {σ : L2.St} {H : Hp} {s : Shared} {b : Bool} {a : Addr} {xs ys : List V}
theorem SqV.seq (I : Inv X pins σ H s) (h : SqV b X.K H a xs) : ∃ its : List Value, Vals xs its ∧ SqB b s.heap a its.toArray ∧ a < s.heap.objs.size := by
  cases b with
  | true =>
    obtain ⟨its, rv, p, _⟩ := I.list (show SqL X.K H a xs from h)
    exact ⟨its, rv, p.isList, p.lt⟩
  | false =>
    obtain ⟨its, rv, p, _⟩ := I.tuple (show SqT X.K H a xs from h)
    obtain ⟨o, ho, _⟩ := id p
    exact ⟨its, rv, p, Heap.lt_size ho⟩
theorem SqV.inj (I : Inv X pins σ H s) (h : SqV b X.K H a xs) (h' : SqV b X.K H a ys) : xs = ys := by
  cases b with
  | true => exact I.list_inj h h'
  | false => exact I.tuple_inj h h'
end
def ItzB (b1 b2 : Bool) (K : PySem.W.Frag) (a b : Addr) : It :=
  ⟨fun i H => ∃ (xs ys : List V) (x y : V), SqV b1 K H a xs ∧ SqV b2 K H b ys ∧ xs[i]? = some x ∧ ys[i]? = some y,
    fun i H v H' => ∃ T x y, v = .ref T ∧ H T = none ∧ H' = upd H T (.tup [x, y]) ∧ (∀ xs, SqV b1 K H a xs → xs[i]? = some x) ∧ ∀ ys, SqV b2 K H b ys → ys[i]? = some y,
    fun i H => ∃ xs ys : List V, SqV b1 K H a xs ∧ SqV b2 K H b ys ∧ (xs.length ≤ i ∨ ys.length ≤ i)⟩
theorem turn_zipB {b1 b2 : Bool} {P : Program} {w : World} {K : PySem.W.Frag} {elts : List Expr} {kk : Nat} {tpos : Pos} {a b z TI TO i1 i2 : Addr} (D : ZipApart z TI TO i1 i2 a b) :
    Turn P w K (.Tuple elts kk tpos) (ItzB b1 b2 K a b) [z, TI, TO, i1, i2] z (fun i h => IsZip h z TI TO .none ∧ IsPair h TI (.ref i1) (.ref i2) ∧ (∃ x y, IsPair h TO x y) ∧ ItB b1 h i1 a i ∧ ItB b2 h i2 b i) where
  mem := by simp
  obj := fun i h st c hc => by
    obtain ⟨hz, hTI, ⟨x, y, hTO⟩, h1, h2⟩ := st
    obtain ⟨o1, v1, e1, d1⟩ := h1.ex
    obtain ⟨o2, v2, e2, d2⟩ := h2.ex
    have e' : c = z ∨ c = TI ∨ c = TO ∨ c = i1 ∨ c = i2 := by simpa using hc
    rcases e' with q | q | q | q | q
    · rw [q]; exact ⟨_, hz, fun v q => nomatch q⟩
    · rw [q]; exact ⟨_, hTI, fun v q => nomatch q⟩
    · rw [q]; exact ⟨_, hTO, fun v q => nomatch q⟩
    · rw [q]; exact ⟨o1, e1, fun v q => by rw [d1] at q; cases q⟩
    · rw [q]; exact ⟨o2, e2, fun v q => by rw [d2] at q; cases q⟩
  keep := fun i h h' st k => by
    obtain ⟨hz, hTI, ⟨x, y, hTO⟩, h1, h2⟩ := st
    exact ⟨k z (by simp) _ hz, k TI (by simp) _ hTI, ⟨x, y, k TO (by simp) _ hTO⟩, h1.at fun o q => k i1 (by simp) o q, h2.at fun o q => k i2 (by simp) o q⟩
  item := by
    intro X hP hw hK hc i pins s σ H E I hf st hg
    subst hP hw hK
    obtain ⟨hz, hTI, ⟨x0, y0, hTO⟩, h1, h2⟩ := st
    obtain ⟨xs, ys, x, y, hqx, hqy, hx, hy⟩ := hg
    obtain ⟨its, rv, p, _⟩ := hqx.seq I
    obtain ⟨its2, rv2, p2, _⟩ := hqy.seq I
    obtain ⟨u, hu, ru⟩ := rv.get hx
    obtain ⟨u2, hu2, ru2⟩ := rv2.get hy
    have hzl : z < s.heap.objs.size := Heap.lt_size hz
    refine nextZ_item D hz hTI hTO h1 h2 p p2 (x := u) (y := u2) (by simpa using hu) (by simpa using hu2) fun h' z' TO' h1' h2' hT hsz hk => ?_
    refine ⟨_, rfl, wpAny_letOwnedTupleGo_zip (s := { s with heap := h' }) z' fun h'' z'' sb => ?_⟩
    have hT2 : h''.get? s.heap.objs.size = some { cls := .type "tuple", data := .seq #[u, u2] } := (sb.2 _ (Nat.ne_of_gt hzl)).trans hT
    have new : ObjOk X.prog X.w (upd H s.heap.objs.size (.tup [x, y])) h'' s.heap.objs.size (.tup [x, y]) :=
      ⟨by show 2 ≤ sizeLine; decide, [u, u2], .cons ru (.cons ru2 .nil), ⟨_, hT2, rfl, _, rfl⟩⟩
    have I1 : Inv X pins σ (upd H s.heap.objs.size (.tup [x, y])) { s with heap := h'' } :=
      I.turnedNew (t' := s.toks) (ch := [z, TI, TO, i1, i2]) (fun c o hb q => (sb.2 c (fun q' => hb (by simp [q']))).trans (hk c o (fun q' => hb (by simp [q'])) (fun q' => hb (by simp [q'])) (fun q' => hb (by simp [q'])) (fun q' => hb (by simp [q'])) q)) hf (Nat.le_refl _) new
    refine ⟨.ref s.heap.objs.size, _, I1, rfl, ⟨_, x, y, rfl, I.hok.fresh (Nat.le_refl _), rfl, fun l hl => by rw [hl.inj I hqx]; exact hx, fun l hl => by rw [hl.inj I hqy]; exact hy⟩, ⟨z'', ?_, ⟨u, u2, ?_⟩, ?_, ?_⟩, fun c hcm => ?_⟩
    · exact (sb.2 _ D.TIz).trans (hk _ _ D.TIz D.TITO D.TIi1 D.TIi2 hTI)
    · exact (sb.2 _ D.TOz).trans TO'
    · exact h1'.at fun o q => (sb.2 _ D.i1z).trans q
    · exact h2'.at fun o q => (sb.2 _ D.i2z).trans q
    · have hlt : c < s.heap.objs.size := by
        have e' : c = z ∨ c = TI ∨ c = TO ∨ c = i1 ∨ c = i2 := by simpa using hcm
        rcases e' with q | q | q | q | q
        · rw [q]; exact hzl
        · rw [q]; exact Heap.lt_size hTI
        · rw [q]; exact Heap.lt_size hTO
        · rw [q]; obtain ⟨_, _, e1, _⟩ := h1.ex; exact Heap.lt_size e1
        · rw [q]; obtain ⟨_, _, e2, _⟩ := h2.ex; exact Heap.lt_size e2
      rw [upd_ne (Nat.ne_of_lt hlt)]
      exact (hf c hcm).1
  done := by
    intro X hP hw hK hc i pins s σ H E I hf st hg
    subst hP hw hK
    obtain ⟨hz, hTI, ⟨x0, y0, hTO⟩, h1, h2⟩ := st
    obtain ⟨xs, ys, hqx, hqy, hend⟩ := hg
    obtain ⟨its, rv, p, _⟩ := hqx.seq I
    obtain ⟨its2, rv2, p2, _⟩ := hqy.seq I
    have l1 := rv.length
    have l2 := rv2.length
    have he : its.toArray[i]? = none ∨ its2.toArray[i]? = none := by
      rcases hend with q | q
      · exact .inl (by simp; omega)
      · exact .inr (by simp; omega)
    exact nextZ_end (I.ok.hd hc) D hz hTI hTO h1 h2 p p2 he fun h' hk => ⟨rfl, I.turnedL (t' := s.toks) (ch := [z, TI, TO, i1, i2]) (fun c o hb q =>
      hk c o (fun q' => hb (by simp [q'])) (fun q' => hb (by simp [q'])) (fun q' => hb (by simp [q'])) (fun q' => hb (by simp [q'])) q) hf⟩
  self := fun A i s Q E st h => wpAny_pyIter_zip st.1 h
def zmH1 (h : Heap) (l1 : Addr) : Heap := h.push { cls := .type "list_iterator", data := .fields #[.ref l1, .int 0 0] }
abbrev zmH2 (h : Heap) (l1 l2 : Addr) : Heap := (h.push { cls := .type "list_iterator", data := .fields #[.ref l1, .int 0 0] }).push { cls := .type "tuple_iterator", data := .fields #[.ref l2, .int 0 0] }
abbrev zmH3 (h : Heap) (l1 l2 : Addr) : Heap := (zmH2 h l1 l2).push { cls := .type "tuple", data := .seq #[.ref h.objs.size, .ref (h.push { cls := .type "list_iterator", data := .fields #[.ref l1, .int 0 0] }).objs.size] }
abbrev zmH4 (h : Heap) (l1 l2 : Addr) : Heap := (zmH3 h l1 l2).push { cls := .type "tuple", data := .seq #[.none, .none] }
abbrev zmH5 (h : Heap) (l1 l2 : Addr) : Heap := (zmH4 h l1 l2).push { cls := .type "zip", data := .fields #[.none, .bool false, .bool false, .ref (zmH2 h l1 l2).objs.size, .ref (zmH3 h l1 l2).objs.size] }
theorem meets_zipM_new (l1 l2 : Addr) (xs ys : Array Value) :
    Meets (Builtin.«zip.__new__» ⟨[.type "zip", .ref l1, .ref l2], []⟩) (fun _ R s => s.heap.IsList l1 xs ∧ s.heap.IsTuple l2 ys ∧
      R (.ok (.ret (.ref (zmH4 s.heap l1 l2).objs.size))) { s with heap := zmH5 s.heap l1 l2 }) :=
  .of_wp fun prog w A R s h => by
    obtain ⟨hp, g, d, tk, os⟩ := s; obtain ⟨hl1, hl2, h⟩ := h
    have hsub := sub_zip
    have hL1 : Heap.IsList (Shared.heap ⟨hp, g, d, tk, os⟩) l1 xs := hl1
    have hL2 : Heap.IsTuple (Shared.heap ⟨hp.push { cls := .type "list_iterator", data := .fields #[.ref l1, .int 0 0] }, g, d, tk, os⟩) l2 ys := Heap.IsTuple.push hl2 _
    wp_walk using wpAny_pyIter_list hL1, wpAny_pyIter_tuple hL2
    exact ⟨_, rfl, h⟩
section
variable {prog : Program} {w : World} {A : Around} {E : Value → Shared → Prop} {s : Shared}
theorem call_zipM {l1 l2 : Addr} {xs ys : Array Value} {Q : Value → Shared → Prop} (hl1 : s.heap.IsList l1 xs) (hl2 : s.heap.IsTuple l2 ys)
    (h : ∀ h', IsZip h' (s.heap.objs.size + 4) (s.heap.objs.size + 2) (s.heap.objs.size + 3) .none → IsPair h' (s.heap.objs.size + 2) (.ref s.heap.objs.size) (.ref (s.heap.objs.size + 1)) →
      IsPair h' (s.heap.objs.size + 3) .none .none → h'.IsListIter s.heap.objs.size l1 0 → h'.IsTupleIter (s.heap.objs.size + 1) l2 0 → h'.objs.size = s.heap.objs.size + 5 →
      (∀ c o, s.heap.get? c = some o → h'.get? c = some o) → Q (.ref (s.heap.objs.size + 4)) { s with heap := h' }) :
    wpAny (model prog w) A (call (.type "zip") [.ref l1, .ref l2]) Q E s := by
  refine callType_new F.called_zip (by decide) (F.typeCall_zip_2 _ _) (F.newCall_zip_2 _ _) (fun obj => F.args_object_init_3 obj _ _) F.entry_zip_new
    (meets_zipM_new l1 l2 xs ys) ⟨hl1, hl2, ?_⟩
  have z1 : (s.heap.push { cls := .type "list_iterator", data := .fields #[.ref l1, .int 0 0] }).objs.size = s.heap.objs.size + 1 := Heap.size_push ..
  have z2 : (zmH2 s.heap l1 l2).objs.size = s.heap.objs.size + 2 := by rw [Heap.size_push, z1]
  have z3 : (zmH3 s.heap l1 l2).objs.size = s.heap.objs.size + 3 := by rw [Heap.size_push, z2]
  have z4 : (zmH4 s.heap l1 l2).objs.size = s.heap.objs.size + 4 := by rw [Heap.size_push, z3]
  have z5 : (zmH5 s.heap l1 l2).objs.size = s.heap.objs.size + 5 := by rw [Heap.size_push, z4]
  have g5 : (zmH5 s.heap l1 l2).get? (zmH4 s.heap l1 l2).objs.size = some _ := Heap.get?_push_size _ rfl
  have g4 : (zmH5 s.heap l1 l2).get? (zmH3 s.heap l1 l2).objs.size = some _ := Heap.get?_push_of_some _ (Heap.get?_push_size _ rfl)
  have g3 : (zmH5 s.heap l1 l2).get? (zmH2 s.heap l1 l2).objs.size = some _ := Heap.get?_push_of_some _ (Heap.get?_push_of_some _ (Heap.get?_push_size _ rfl))
  have g2 : (zmH5 s.heap l1 l2).get? (s.heap.push { cls := .type "list_iterator", data := .fields #[.ref l1, .int 0 0] }).objs.size = some _ := Heap.get?_push_of_some _ (Heap.get?_push_of_some _ (Heap.get?_push_of_some _ (Heap.get?_push_size _ rfl)))
  have g1 : (zmH5 s.heap l1 l2).get? s.heap.objs.size = some _ := Heap.get?_push_of_some _ (Heap.get?_push_of_some _ (Heap.get?_push_of_some _ (Heap.get?_push_of_some _ (Heap.get?_push_size _ rfl))))
  show _ ∧ _
  rw [z2, z3, z4] at g5
  rw [z1, z2] at g3
  rw [z3] at g4
  rw [z1] at g2
  rw [z4]
  exact ⟨⟨_, g5, rfl⟩, h _ g5 g3 g4 ⟨_, g1, rfl, rfl⟩ ⟨_, g2, rfl, rfl⟩ z5 fun c o x =>
    Heap.get?_push_of_some _ (Heap.get?_push_of_some _ (Heap.get?_push_of_some _ (Heap.get?_push_of_some _ (Heap.get?_push_of_some _ x))))⟩
end
/-- zip(a list, a tuple) -/
def iZipM (K : PySem.W.Frag) (ta : TA) : TI := fun σ H R => ta σ H fun vs H1 => ∃ a b xs ys, vs = [.ref a, .ref b] ∧ SqL K H1 a xs ∧ SqT K H1 b ys ∧ R (ItzB true false K a b) H1
theorem pi_zipM {X : Cx} {e e2 : Expr} {ta : TA} {p pos tpos : Pos} {elts : List Expr} {kk : Nat} (hg : Gl X "zip") (hm : X.mg "zip" = none) (ha : PA X [e, e2] ta)
    (hs : starEach [e, e2] X.env = (false, eval e X.env) :: starEach [e2] X.env := by rfl) (hpl : (backTo pos (starEach [e2] X.env)).any (·.1) = false := by rfl) :
    PI X (.Tuple elts kk tpos) (.Call (.Name "zip" p) [e, e2] [] pos) (iZipM X.K ta) := by
  refine ⟨fun pins s σ H R I h => ?_⟩
  refine Call_ (ld_blt I hg hm PyProof.Rows.boot_zip (PyProof.Rows.callWith_type1 (thn (ha.run pos pins s σ H _ I h) fun us s1 ⟨vs, H1, I1, r1, q1⟩ => ?_) hs hpl))
  obtain ⟨a, b, xs, ys, ex, hqx, hqy, q⟩ := q1
  subst ex
  cases r1 with
  | cons r rr =>
    cases rr with
    | cons r' rr =>
      cases rr
      cases r
      cases r'
      have fresh5 : ∀ c, c ∈ [s1.heap.objs.size + 4, s1.heap.objs.size + 2, s1.heap.objs.size + 3, s1.heap.objs.size, s1.heap.objs.size + 1] → FpOk X pins H1 c := fun c hcm => by
        have hle : s1.heap.objs.size ≤ c := by
          have e' : c = s1.heap.objs.size + 4 ∨ c = s1.heap.objs.size + 2 ∨ c = s1.heap.objs.size + 3 ∨ c = s1.heap.objs.size ∨ c = s1.heap.objs.size + 1 := by simpa using hcm
          rcases e' with z | z | z | z | z <;> rw [z] <;> first | exact Nat.le_add_right _ _ | exact Nat.le_refl _
        exact I1.fpOk hle (I1.hok.fresh hle)
      obtain ⟨its, rv, p1, _⟩ := I1.list hqx
      obtain ⟨its2, rv2, p2, _⟩ := I1.tuple hqy
      obtain ⟨o2, ho2, _⟩ := id p2
      refine call_zipM p1.isList (show s1.heap.IsTuple b its2.toArray from p2) fun h' hz hTI hTO h1 h2 hsz hk => wpAny_pyIter_zip hz ?_
      have I2 : Inv X pins σ H1 { s1 with heap := h' } := I1.kept (t' := s1.toks) hk
      exact ⟨s1.heap.objs.size + 4, [s1.heap.objs.size + 4, s1.heap.objs.size + 2, s1.heap.objs.size + 3, s1.heap.objs.size, s1.heap.objs.size + 1], _, _, H1, rfl, I2, turn_zipB (b1 := true) (b2 := false) (PySem.W.ktu_apart s1.heap.objs.size a b p1.lt (Heap.lt_size ho2)), ⟨hz, hTI, ⟨_, _, hTO⟩, h1, h2⟩, fresh5, q⟩
theorem walk_zipB {b1 b2 : Bool} {K : PySem.W.Frag} {a b : Addr} {xs ys : List V} {n : Nat} (hn : n = min xs.length ys.length) : Walk (ItzB b1 b2 K a b) n (fun H => SqV b1 K H a xs ∧ SqV b2 K H b ys) (YPair (fun i => xs[i]?) (fun i => ys[i]?)) := by
  refine ⟨fun i H hi h => ?_, fun H h => ⟨xs, ys, h.1, h.2, by omega⟩, fun i H v H' hi h y => ?_⟩
  · have h1 : i < xs.length := by omega
    have h2 : i < ys.length := by omega
    exact ⟨xs, ys, xs[i], ys[i], h.1, h.2, List.getElem?_eq_getElem h1, List.getElem?_eq_getElem h2⟩
  · obtain ⟨T, x, y, e1, e2, e3, e4, e5⟩ := y
    exact ⟨T, x, y, e1, e2, e3, e4 xs h.1, e5 ys h.2⟩
theorem evi_zipM {α β : Type} {en : α → D} {en' : β → D} {xs : List α} {ys : List β} {K : PySem.W.Frag} {M : Addr → Prop} {σ : L2.St} {H : Hp} {tA : TA} (h : EVA K M σ H tA [.im (.lst (xs.map en)), .im (.tup (ys.map en'))]) : EVI K M σ H (iZipM K tA) GI ((xs.zip ys).map (eP2 en en')) := fun M' H1 w s R k => h M' H1 w s _ fun vs H2 w2 s2 hv => by
  cases hv with
  | cons h1 h2 =>
    cases h2 with
    | cons h2 h3 =>
      cases h3
      obtain ⟨a, vs, rfl, e2, e3⟩ := h1
      obtain ⟨b, us, rfl, f2, f3⟩ := h2
      refine ⟨a, b, vs, us, rfl, SqL.of e2.1, f2.sq, k _ H2 w2 s2 ?_⟩
      have e : ((xs.zip ys).map (eP2 en en')).length = min vs.length us.length := by rw [List.length_map, List.length_zip, e3.len, List.length_map, f3.len, List.length_map]
      refine (walk_zipB (b1 := true) (b2 := false) e).mono (fun H' g => ⟨SqL.of (g.choose_spec _ _ e2).1, (f2.mono g.choose_spec).sq⟩) fun i H' x H'' hi g y => ?_
      obtain ⟨T, u1, u2, rfl, nT, rfl, q1, q2⟩ := y
      obtain ⟨d, hd, hr⟩ := e3.get q1
      rw [List.getElem?_map] at hd
      obtain ⟨p, hp, rfl⟩ := Option.map_eq_some_iff.mp hd
      obtain ⟨d', hd', hr'⟩ := f3.get q2
      rw [List.getElem?_map] at hd'
      obtain ⟨p', hp', rfl⟩ := Option.map_eq_some_iff.mp hd'
      refine ⟨Same.new nT, eP2 en en' (p, p'), by rw [List.getElem?_map, List.getElem?_zip_eq_some (z := (p, p')) |>.mpr ⟨hp, hp'⟩]; rfl, fun M2 w3 l => ⟨T, _, rfl, .inl ⟨upd_same, w3.free nT⟩, ⟨_, _, rfl, ?_, _, _, rfl, ?_, rfl⟩⟩⟩
      · exact rD.mono (Fx.same (Same.new nT)) _ _ (rD.mono l _ _ hr)
      · exact rD.mono (Fx.same (Same.new nT)) _ _ (rD.mono l _ _ hr')
end Lf

set_option Elab.async false
set_option linter.all false
set_option maxRecDepth 100000
set_option maxHeartbeats 4000000
/-! enumerate of a tuple. -/
namespace Lf
open PySem PySem.Spec PyProof.Rows L2
theorem drawsT {prog : Program} {w : World} {A : Around} (hh : A.handled = none) (it l : Addr) (hne : l ≠ it) (items : Array Value) :
    Draws prog w A it [it, l] items.size (fun i v => items[i]? = some v) (fun i h => h.IsTupleIter it l i ∧ h.IsTuple l items) where
  live := fun _ _ st => let ⟨o, ho, _⟩ := st.1; ⟨o, ho⟩
  frame := fun _ _ _ st hk => ⟨st.1.at fun o e => hk it (by simp) o e, by obtain ⟨o, q, r⟩ := st.2; exact ⟨o, hk l (by simp) o q, r⟩⟩
  item := fun i s Q E hi st hQ => by
    refine RZ.nextOf_tuple_item st.1 st.2 (x := items[i]) (by simp [hi]) fun h' hit' hs' => ?_
    exact hQ _ h' s.toks (by simp [hi]) ⟨hit', st.2.extBut hs'.extBut hne⟩ hs'
  done := fun s Q E st hE => RZ.nextOf_tuple_end hh st.1 st.2 (by simp) hE
theorem meets_enumT_new (l : Addr) (xs : Array Value) :
    Meets (Builtin.«enumerate.__new__» ⟨[.type "enumerate", .ref l], []⟩) (fun _ R s => s.heap.IsTuple l xs ∧
      R (.ok (.ret (.ref (s.heap.push { cls := .type "tuple_iterator", data := .fields #[.ref l, .int 0 0] }).objs.size))) { s with heap := (s.heap.push { cls := .type "tuple_iterator", data := .fields #[.ref l, .int 0 0] }).push { cls := .type "enumerate", data := .fields #[.none, .bool false, .ref s.heap.objs.size, rawInt 0, .none, .none] } }) :=
  .of_wp fun prog w A R s h => by
    obtain ⟨hp, g, d, tk, os⟩ := s; obtain ⟨hl1, h⟩ := h
    have hsub := sub_enumerate
    have hL1 : Heap.IsTuple (Shared.heap ⟨hp, g, d, tk, os⟩) l xs := hl1
    wp_walk
    refine wpAny_stack_any fun st => wpAny_pure ?_
    split
    · rename_i c _ _ _ _ _
      cases (c == Value.type "enumerate")
      · wp_walk using wpAny_pyIter_tuple hL1
        exact ⟨_, rfl, h⟩
      · wp_walk using wpAny_pyIter_tuple hL1
        exact ⟨_, rfl, h⟩
    · wp_walk using wpAny_pyIter_tuple hL1
      exact ⟨_, rfl, h⟩
section
variable {prog : Program} {w : World} {A : Around} {E : Value → Shared → Prop} {s : Shared}
theorem call_enumT {l : Addr} {items : Array Value} {Q : Value → Shared → Prop} (hL : s.heap.IsTuple l items)
    (h : ∀ h', IsEnum h' (s.heap.objs.size + 1) s.heap.objs.size 0 .none → h'.IsTupleIter s.heap.objs.size l 0 → h'.objs.size = s.heap.objs.size + 2 →
      (∀ b o, s.heap.get? b = some o → h'.get? b = some o) → Q (.ref (s.heap.objs.size + 1)) { s with heap := h' }) :
    wpAny (model prog w) A (call (.type "enumerate") [.ref l]) Q E s := by
  refine callType_new F.called_enumerate (by decide) (F.typeCall_enumerate_1 _) (F.newCall_enumerate_1 _) (fun obj => F.args_object_init_2 obj _) F.entry_enumerate_new
    (meets_enumT_new l items) ⟨hL, ?_⟩
  have hz : (s.heap.push { cls := .type "tuple_iterator", data := .fields #[.ref l, .int 0 0] }).objs.size = s.heap.objs.size + 1 := Heap.size_push ..
  show _ ∧ _
  rw [hz]
  have he : IsEnum ((s.heap.push { cls := .type "tuple_iterator", data := .fields #[.ref l, .int 0 0] }).push
      { cls := .type "enumerate", data := .fields #[.none, .bool false, .ref s.heap.objs.size, rawInt 0, .none, .none] }) (s.heap.objs.size + 1) s.heap.objs.size 0 .none := by
    have := Heap.get?_push_size (s.heap.push { cls := .type "tuple_iterator", data := .fields #[.ref l, .int 0 0] })
      (o := { cls := .type "enumerate", data := .fields #[.none, .bool false, .ref s.heap.objs.size, rawInt 0, .none, .none] }) rfl
    rw [hz] at this; exact this
  refine ⟨⟨_, he, rfl⟩, h _ he ⟨_, Heap.get?_push_of_some _ (Heap.get?_push_size _ rfl), rfl, rfl⟩ (by rw [Heap.size_push, hz]) fun b o x => Heap.get?_push_of_some _ (Heap.get?_push_of_some _ x)⟩
end
/-- the tuple at a, each item in a new pair -/
def IteT (K : PySem.W.Frag) (a : Addr) : It :=
  ⟨fun i H => ∃ (xs : List V) (x : V), SqT K H a xs ∧ xs[i]? = some x, fun i H v H' => ∃ T x, v = .ref T ∧ H T = none ∧ H' = upd H T (.tup [.int (i : Nat), x]) ∧ ∀ xs, SqT K H a xs → xs[i]? = some x, fun i H => ∃ xs : List V, SqT K H a xs ∧ xs.length = i⟩
theorem turn_enumT {P : Program} {w : World} {K : PySem.W.Frag} {elts : List Expr} {kk : Nat} {tpos : Pos} (a e it : Addr) :
    Turn P w K (.Tuple elts kk tpos) (IteT K a) [e, it] e (fun i h => (∃ old, IsEnum h e it ((i : Nat) : Int) old) ∧ h.IsTupleIter it a i ∧ e ≠ it ∧ a ≠ it ∧ a ≠ e) where
  mem := by simp
  obj := fun i h st b hb => by
    obtain ⟨⟨old, he⟩, ⟨o, ho, hc, hd⟩, _⟩ := st
    have e' : b = e ∨ b = it := by simpa using hb
    rcases e' with z | z
    · rw [z]; exact ⟨_, he, fun v q => nomatch q⟩
    · rw [z]; exact ⟨o, ho, fun v q => by rw [hd] at q; cases q⟩
  keep := fun i h h' st k => let ⟨⟨old, he⟩, hi, hne⟩ := st; ⟨⟨old, k e (by simp) _ he⟩, hi.at fun o q => k it (by simp) o q, hne⟩
  item := by
    intro X hP hw hK hc i pins s σ H E I hf st hg
    subst hP hw hK
    obtain ⟨⟨old, he⟩, hit, hne, ha1, ha2⟩ := st
    obtain ⟨xs, x, hq, hx⟩ := hg
    obtain ⟨its, rv, p, hz⟩ := I.tuple hq
    obtain ⟨u, hu, ru⟩ := rv.get hx
    have hel : e < s.heap.objs.size := Heap.lt_size he
    have hil : it < s.heap.objs.size := by obtain ⟨_, q, _⟩ := hit; exact Heap.lt_size q
    have hlt : i < its.toArray.size := by
      have := (List.getElem?_eq_some_iff.mp hu).1
      simpa using this
    refine wpAny_pyNext_enum_itemD (drawsT (A := X.A.in1) (I.ok.hd hc) it a ha1 its.toArray) he ⟨hit, p⟩ hlt hne (by simp [hne, Ne.symm ha2]) fun u' h' tk hPx ho hst hT hsz hk => ?_
    have hu' : u' = u := by
      have : its.toArray[i]? = some u := by simpa using hu
      rw [this] at hPx
      exact (Option.some.inj hPx).symm
    subst hu'
    refine ⟨_, rfl, wpAny_letOwnedTupleGo_enum (s := { s with heap := h', toks := tk + 1 }) ho fun h'' he' sb => ?_⟩
    have hT2 : h''.get? s.heap.objs.size = some { cls := .type "tuple", data := .seq #[.int i tk, u'] } := (sb.2 _ (Nat.ne_of_gt hel)).trans hT
    have new : ObjOk X.prog X.w (upd H s.heap.objs.size (.tup [.int (i : Nat), x])) h'' s.heap.objs.size (.tup [.int (i : Nat), x]) :=
      ⟨by show 2 ≤ sizeLine; decide, [.int i tk, u'], .cons ⟨_, rfl⟩ (.cons ru .nil), ⟨_, hT2, rfl, _, rfl⟩⟩
    have I1 : Inv X pins σ (upd H s.heap.objs.size (.tup [.int (i : Nat), x])) { s with heap := h'', toks := tk + 1 } :=
      I.turnedNew (ch := [e, it]) (fun b ob hb q => (sb.2 b (fun z => hb (by simp [z]))).trans (hk b ob (fun z => hb (by simp [z])) (fun z => hb (by simp [z])) q)) hf (Nat.le_refl _) new
    refine ⟨.ref s.heap.objs.size, _, I1, rfl, ⟨_, x, rfl, I.hok.fresh (Nat.le_refl _), rfl, fun ys hy => by rw [I.tuple_inj hy hq]; exact hx⟩, ⟨⟨u', ?_⟩, hst.1.at fun o q => (sb.2 it (Ne.symm hne)).trans q, hne, ha1, ha2⟩, fun b hb => ?_⟩
    · have e1 : ((i + 1 : Nat) : Int) = (i : Int) + 1 := by omega
      rw [e1]; exact he'
    · have hb' : b < s.heap.objs.size := by
        have e' : b = e ∨ b = it := by simpa using hb
        rcases e' with z | z
        · rw [z]; exact hel
        · rw [z]; exact hil
      rw [upd_ne (Nat.ne_of_lt hb')]
      exact (hf b hb).1
  done := by
    intro X hP hw hK hc i pins s σ H E I hf st hg
    subst hP hw hK
    obtain ⟨⟨old, he⟩, hit, hne, ha1, ha2⟩ := st
    obtain ⟨xs, hq, hx⟩ := hg
    obtain ⟨its, rv, p, hz⟩ := I.tuple hq
    obtain ⟨f0, f1, f2, f3, f4, f5⟩ := hf it (by simp)
    have hl := rv.length
    have hi : i = its.toArray.size := by simp; omega
    subst hi
    exact wpAny_pyNext_enum_endD (drawsT (A := X.A.in1) (I.ok.hd hc) it a ha1 its.toArray) he ⟨hit, p⟩ fun h' eb => ⟨rfl, I.turned (t' := s.toks) (fun b o hb q => eb b o hb q) f0 f1 f3 f4 f5⟩
  self := fun A i s Q E st h => let ⟨⟨_, he⟩, _⟩ := st; wpAny_pyIter_enum he h
def iEnumT (K : PySem.W.Frag) (ta : TA) : TI := fun σ H R => ta σ H fun vs H1 => ∃ a xs, vs = [.ref a] ∧ SqT K H1 a xs ∧ R (IteT K a) H1
theorem pi_enumT {X : Cx} {e : Expr} {ta : TA} {p pos tpos : Pos} {elts : List Expr} {kk : Nat} (hg : Gl X "enumerate") (hm : X.mg "enumerate" = none) (ha : PA X [e] ta) (hs : starEach [e] X.env = [(false, eval e X.env)] := by rfl) :
    PI X (.Tuple elts kk tpos) (.Call (.Name "enumerate" p) [e] [] pos) (iEnumT X.K ta) := by
  refine ⟨fun pins s σ H R I h => ?_⟩
  refine Call_ (ld_blt I hg hm boot_enumerate (PyProof.Rows.callWith_type1 (thn (ha.run pos pins s σ H _ I h) fun us s1 ⟨vs, H1, I1, r1, q1⟩ => ?_) hs rfl))
  obtain ⟨a, xs, ex, hq, q⟩ := q1
  subst ex
  cases r1 with
  | cons r rr =>
    cases rr
    cases r
    obtain ⟨its, rv, p', hz⟩ := I1.tuple hq
    obtain ⟨o2, ho2, _⟩ := id p'
    have al : a < s1.heap.objs.size := Heap.lt_size ho2
    refine call_enumT (show s1.heap.IsTuple a its.toArray from p') fun h' he hit hsz hk => wpAny_pyIter_enum he ?_
    have I2 : Inv X pins σ H1 { s1 with heap := h' } := I1.kept (t' := s1.toks) hk
    refine ⟨s1.heap.objs.size + 1, [s1.heap.objs.size + 1, s1.heap.objs.size], _, _, H1, rfl, I2, turn_enumT a (s1.heap.objs.size + 1) s1.heap.objs.size, ⟨⟨.none, he⟩, hit, Nat.succ_ne_self _, Nat.ne_of_lt al, Nat.ne_of_lt (Nat.lt_succ_of_lt al)⟩, fun b hb => ?_, q⟩
    have e' : b = s1.heap.objs.size + 1 ∨ b = s1.heap.objs.size := by simpa using hb
    have hle : s1.heap.objs.size ≤ b := by
      rcases e' with z | z
      · rw [z]; exact Nat.le_add_right _ _
      · rw [z]; exact Nat.le_refl _
    exact I1.fpOk hle (I1.hok.fresh hle)
theorem walk_enumT {K : PySem.W.Frag} {a : Addr} {xs : List V} : Walk (IteT K a) xs.length (fun H => SqT K H a xs) (YPair (fun i => some (.int (i : Nat))) (fun i => xs[i]?)) := by
  refine ⟨fun i _ hi q => ⟨xs, xs[i], q, by simp [hi]⟩, fun _ q => ⟨xs, q, rfl⟩, fun i H v H' _ q y => ?_⟩
  obtain ⟨T, x, h1, h2, h3, h4⟩ := y
  exact ⟨T, .int (i : Nat), x, h1, h2, h3, rfl, h4 xs q⟩
theorem evi_enumT {α : Type} {en : α → D} {xs : List α} {K : PySem.W.Frag} {M : Addr → Prop} {σ : L2.St} {H : Hp} {tA : TA} (h : EVA K M σ H tA [.im (.tup (xs.map en))]) : EVI K M σ H (iEnumT K tA) GI ((enumI xs).map (eP2 D.int en)) := fun M' H1 w s R k => h M' H1 w s _ fun vs H2 w2 s2 hv => by
  cases hv with
  | cons h1 h2 =>
    cases h2
    obtain ⟨a, vs, rfl, e2, e3⟩ := h1
    refine ⟨a, vs, rfl, e2.sq, k _ H2 w2 s2 ?_⟩
    have e : ((enumI xs).map (eP2 D.int en)).length = vs.length := by rw [List.length_map, enumI_len, e3.len, List.length_map]
    rw [e]
    refine walk_enumT.mono (fun H' g => (e2.mono g.choose_spec).sq) fun i H' x H'' hi g y => ?_
    obtain ⟨T, u1, u2, rfl, nT, rfl, q1, q2⟩ := y
    obtain ⟨d, hd, hr⟩ := e3.get q2
    rw [List.getElem?_map] at hd
    obtain ⟨p, hp, rfl⟩ := Option.map_eq_some_iff.mp hd
    refine ⟨Same.new nT, eP2 D.int en ((i : Int), p), by rw [List.getElem?_map, enumI_get, hp]; rfl, fun M2 w3 l => ⟨T, _, rfl, .inl ⟨upd_same, w3.free nT⟩, ⟨_, _, rfl, ?_, _, _, rfl, ?_, rfl⟩⟩⟩
    · exact (Option.some.inj q1).symm
    · exact rD.mono (Fx.same (Same.new nT)) _ _ (rD.mono l _ _ hr)
end Lf

set_option Elab.async false
set_option linter.all false
set_option maxRecDepth 100000
set_option maxHeartbeats 4000000
/-! zip of two tuples, by data; len of fixed tuples; calls that give nothing. -/
namespace Lf
open PySem PySem.Spec PyProof.Rows L2
theorem walk_zipT {K : PySem.W.Frag} {a b : Addr} {xs ys : List V} {n : Nat} (hn : n = min xs.length ys.length) : Walk (RZ.ItzT K a b) n (fun H => SqT K H a xs ∧ SqT K H b ys) (YPair (fun i => xs[i]?) (fun i => ys[i]?)) := by
  refine ⟨fun i H hi h => ?_, fun H h => ⟨xs, ys, h.1, h.2, by omega⟩, fun i H v H' hi h y => ?_⟩
  · have h1 : i < xs.length := by omega
    have h2 : i < ys.length := by omega
    exact ⟨xs, ys, xs[i], ys[i], h.1, h.2, List.getElem?_eq_getElem h1, List.getElem?_eq_getElem h2⟩
  · obtain ⟨T, x, y, e1, e2, e3, e4, e5⟩ := y
    exact ⟨T, x, y, e1, e2, e3, e4 xs h.1, e5 ys h.2⟩
theorem evi_zipT {α β : Type} {en : α → D} {en' : β → D} {xs : List α} {ys : List β} {K : PySem.W.Frag} {M : Addr → Prop} {σ : L2.St} {H : Hp} {tA : TA} (h : EVA K M σ H tA [.im (.tup (xs.map en)), .im (.tup (ys.map en'))]) : EVI K M σ H (RZ.iZipA K tA) GI ((xs.zip ys).map (eP2 en en')) := fun M' H1 w s R k => h M' H1 w s _ fun vs H2 w2 s2 hv => by
  cases hv with
  | cons h1 h2 =>
    cases h2 with
    | cons h2 h3 =>
      cases h3
      obtain ⟨a, vs, rfl, e2, e3⟩ := h1
      obtain ⟨b, us, rfl, f2, f3⟩ := h2
      refine ⟨a, b, vs, us, rfl, .inr ⟨e2.sq, f2.sq, k _ H2 w2 s2 ?_⟩⟩
      have e : ((xs.zip ys).map (eP2 en en')).length = min vs.length us.length := by rw [List.length_map, List.length_zip, e3.len, List.length_map, f3.len, List.length_map]
      refine (walk_zipT e).mono (fun H' g => ⟨(e2.mono g.choose_spec).sq, (f2.mono g.choose_spec).sq⟩) fun i H' x H'' hi g y => ?_
      obtain ⟨T, u1, u2, rfl, nT, rfl, q1, q2⟩ := y
      obtain ⟨d, hd, hr⟩ := e3.get q1
      rw [List.getElem?_map] at hd
      obtain ⟨p, hp, rfl⟩ := Option.map_eq_some_iff.mp hd
      obtain ⟨d', hd', hr'⟩ := f3.get q2
      rw [List.getElem?_map] at hd'
      obtain ⟨p', hp', rfl⟩ := Option.map_eq_some_iff.mp hd'
      refine ⟨Same.new nT, eP2 en en' (p, p'), by rw [List.getElem?_map, List.getElem?_zip_eq_some (z := (p, p')) |>.mpr ⟨hp, hp'⟩]; rfl, fun M2 w3 l => ⟨T, _, rfl, .inl ⟨upd_same, w3.free nT⟩, ⟨_, _, rfl, ?_, _, _, rfl, ?_, rfl⟩⟩⟩
      · exact rD.mono (Fx.same (Same.new nT)) _ _ (rD.mono l _ _ hr)
      · exact rD.mono (Fx.same (Same.new nT)) _ _ (rD.mono l _ _ hr')
theorem cd_lenT2 {K : PySem.W.Frag} {d1 d2 : D} : CaD K (rLenSq K) [.im (.tup [d1, d2])] (.im (.int 2)) := cd_len (es := [d1, d2]) (.inr rfl)
theorem cd_lenT3 {K : PySem.W.Frag} {d1 d2 d3 : D} : CaD K (rLenSq K) [.im (.tup [d1, d2, d3])] (.im (.int 3)) := cd_len (es := [d1, d2, d3]) (.inr rfl)
end Lf

set_option Elab.async false
set_option linter.all false
set_option maxRecDepth 100000
set_option maxHeartbeats 4000000
/-! xs[i] = x and xs[i] op= x of one's own list. -/
namespace Lf
open PySem PySem.Spec PyProof.Rows L2
/-- the list with another item at a place -/
def setI {α : Type} (xs : List α) (i : Int) (x : α) : List α := match ixN xs.length i with
  | some j => xs.set j x
  | none => xs
theorem ixN_some {α : Type} {xs : List α} {i : Int} (h : InB xs i) : ∃ j, ixN xs.length i = some j ∧ j < xs.length := by
  obtain ⟨h1, h2⟩ := h
  unfold ixN
  by_cases h0 : 0 ≤ i
  · rw [if_pos h0, if_pos h2]
    exact ⟨_, rfl, by omega⟩
  · rw [if_neg h0, if_pos h1]
    exact ⟨_, rfl, by omega⟩
theorem setI_nat {α : Type} {xs : List α} {j : Nat} {x : α} (h : j < xs.length) : setI xs (j : Int) x = xs.set j x := by
  unfold setI
  have e : ixN xs.length (j : Int) = some j := by
    unfold ixN
    rw [if_pos (by omega), if_pos (by omega)]
    rfl
  rw [e]
theorem setI_len {α : Type} {xs : List α} {i : Int} {x : α} : (setI xs i x).length = xs.length := by
  unfold setI
  split
  · rw [List.length_set]
  · rfl
section
variable {K : PySem.W.Frag} {M : Addr → Prop} {σ : L2.St} {H : Hp} {te to ti : TE} {D : Ends} {u : TS}
theorem st_sub {t : TSet} (h : te σ H fun x H1 => to σ H1 fun o H2 => ti σ H2 fun i H3 => t o i x H3 fun H4 => u D σ H4) : tSeq (tAsg te (gSub to ti t)) u D σ H := h
theorem x_setL {α : Type} {en : α → Lf.D} {M0 : Addr → Prop} {Ls : List Addr} {L : Addr} {xs : List α} {i : Int} {x : α} {v vx : V} {Q : Hp → Prop} (hd : rV K (mxM M0 Ls) H (.mu L (xs.map en)) v) (hx : rV K (mxM M0 Ls) H (.im (en x)) vx) (hL : L ∈ Ls) (hi : InB xs i)
    (q : ∀ H2, (∃ vs, H2 = L2.upd H L (.lst vs)) → rV K (mxM M0 Ls) H2 (.mu L ((setI xs i x).map en)) v → Q H2) : rSetL v (.int i) vx H Q := by
  obtain ⟨rfl, vs, h2, h3⟩ := hd
  obtain ⟨j, hj, jl⟩ := ixN_some hi
  have hl : vs.length = xs.length := by rw [h3.len, List.length_map]
  refine ⟨L, vs, i, j, rfl, rfl, h2, by rw [hl]; exact hj, q _ ⟨_, rfl⟩ ⟨rfl, _, upd_same, ?_⟩⟩
  have e : (setI xs i x).map en = (xs.map en).set j (en x) := by
    unfold setI
    rw [hj]
    exact List.map_set
  rw [e]
  exact (rDs.mono (Gd.lx_upd hL) _ _ h3).set (rD.mono (Gd.lx_upd hL) _ _ hx)
def rJoin (K : PySem.W.Frag) : V → List V → Hp → VK → Prop := fun x xs H Q => ∃ a p, ∃ ys : List Str, x = .str a ∧ xs = [.ref p] ∧ (SqL K H p (ys.map V.str) ∨ SqT K H p (ys.map V.str)) ∧
  (ys.map (·.length)).sum + ys.length * a.length ≤ 16777216 ∧ Q (.str (Txt.join a ys)) H
theorem md_join {d : DV} {x : Str} {ys : List Str} (h : SqOf d (ys.map .str)) (hz : (ys.map (·.length)).sum + ys.length * x.length ≤ 16777216) : MtD K (rJoin K) (.im (.str x)) [d] (.im (.str (Txt.join x ys))) := fun M H w u us hu hus Q k => by
  cases hu
  cases hus with
  | cons h1 h2 =>
    cases h2
    obtain ⟨a, vs, rfl, e2, e3⟩ := h.get h1
    cases e3.strs
    exact ⟨x, a, ys, rfl, rfl, e2, hz, k _ H w (Same.refl _) rfl⟩
theorem pe_joinR {X : Cx} {o e : Expr} {to te : TE} {apos pos : Pos} (ho : PE X o to) (he : PE X e te) (hs : starEach [e] X.env = [(false, eval e X.env)] := by rfl) (hbase : attributeBase o "join" X.env (eval o X.env) = eval o X.env := by rfl) (hline : (apos.endLine == pos.line) = true := by rfl) :
    PE X (.Call (.Attribute o "join" apos) [e] [] pos) (tM1 (rJoin X.K) to te) := pe_join ho he hs hbase hline
end
end Lf

set_option Elab.async false
set_option linter.all false
set_option maxRecDepth 100000
set_option maxHeartbeats 4000000
/-! A state of one's own; comprehensions with effects; one of some values. -/
namespace Lf
open PySem PySem.Spec PyProof.Rows L2
section
variable {M0 : Addr → Prop} {Ls Y : List Addr} {H0 H H1 H2 : Hp} {K : PySem.W.Frag} {st : Addr}
theorem Gd.callL (g : Gd M0 Ls Y H0 H) (hs : st ∈ Ls) (w : Wd (mxM M0 Ls) H1) (b : Bu [st] H H1) : Gd M0 Ls Y H0 H1 :=
  ⟨w, fun q o e n => b q o (g.bu q o e n) (by rw [List.mem_singleton]; exact ne_of_none e (g.nw st hs)), g.nw, g.nd, g.w0, g.ys⟩
theorem Gd.lx_callL (hs : st ∈ Ls) (b : Bu [st] H H1) : Lx (mxM M0 Ls) (mxM M0 Ls) H H1 := fun q o h => ⟨b q o h.1 (fun hy => h.2 (.inr (by rw [List.mem_singleton.mp hy]; exact hs))), h.2⟩
theorem mu_callL {L : Addr} {x : DV} {v : V} (h : rV K (mxM M0 Ls) H x v) (e : x.ad = some L) (n : L ≠ st) (hs : st ∈ Ls) (b : Bu [st] H H1) : rV K (mxM M0 Ls) H1 x v := by
  have l : Lx (mxM M0 Ls) (mxM M0 Ls) H H1 := Gd.lx_callL hs b
  cases x with
  | im d => cases e
  | mu L' ds =>
    cases e
    obtain ⟨rfl, vs, h2, h3⟩ := h
    exact ⟨rfl, vs, b _ _ h2 (by simpa using n), rDs.mono l _ _ h3⟩
  | md L' kvs =>
    cases e
    obtain ⟨rfl, ws, h2, h0, h3⟩ := h
    exact ⟨rfl, ws, b _ _ h2 (by simpa using n), h0, rDs.mono l _ _ h3⟩
theorem SqL.bu {l : Addr} {xs : List V} (h : SqL K H0 l xs) (b : Bu [] H0 H) : SqL K H l xs := by
  rcases h with h | h
  · left
    rcases h with h | ⟨o, h⟩
    · exact .inl (b _ _ h (fun z => nomatch z))
    · exact .inr ⟨o, b _ _ h (fun z => nomatch z)⟩
  · exact .inr h
end
/-! one of some values -/
def S_of {α : Type} (n : Nat) (xs : List α) (P : α → Nat → Prop) : Prop := n < 2 ^ 28 ∧ xs ≠ [] ∧ xs.length < 2 ^ 28 ∧ ∀ x ∈ xs, P x (n + 1)
def SeqD (d : D) (ds : List D) : Prop := d = .lst ds ∨ ∃ z, d = .str z ∧ ds = (signs z).map .str ∧ z.length ≤ sizeLine
def SofD (n : Nat) (d : D) (P : D → Nat → Prop) : Prop := ∃ ds, SeqD d ds ∧ n < 2 ^ 28 ∧ ds ≠ [] ∧ ds.length < 2 ^ 28 ∧ ∀ x ∈ ds, P x (n + 1)
theorem of_gen {α : Type} {en : α → D} {xs : List α} {n : Nat} {d : D} {P : α → Nat → Prop} (hd : SeqD d (xs.map en)) (h : S_of n xs P) : SofD n d (fun r m => ∃ x, r = en x ∧ P x m) := by
  obtain ⟨h1, h2, h3, h4⟩ := h
  refine ⟨_, hd, h1, by simpa using h2, by rw [List.length_map]; exact h3, fun r hr => ?_⟩
  obtain ⟨x, hx, rfl⟩ := List.mem_map.mp hr
  exact ⟨x, rfl, h4 x hx⟩
/-! a comprehension with effects -/
def LCQ (J : It) (g : TG) (tt : TT) (te : TE) (vs : List Nat) (σ : L2.St) (Q : VK) (D : Addr) (H1 : Hp) : Prop := ∃ W : Nat → Nat → Hp → Prop, (∃ m, W 0 m (upd H1 D (.lst []))) ∧ ∀ i m H, W i m H →
  (J.stop i H ∧ Q (.ref D) H) ∨ (J.go i H ∧ ∃ Nx : Hp → Prop, (∀ H', Nx H' → ∃ m', m' < m ∧ W (i + 1) m' H') ∧ ∀ x H', J.yld i H x H' → g x (wipe σ vs) H' fun σ2 H2 => wipe σ2 vs = wipe σ vs ∧ tt σ2 H2 fun b H3 =>
    if b = true then te σ2 H3 fun y H4 => ∃ acc, H4 D = some (.lst acc) ∧ acc.length < sizeLine ∧ Nx (upd H4 D (.lst (acc ++ [y]))) else Nx H3)
section
variable {wi : TI} {g : TG} {tt : TT} {te : TE} {vs : List Nat} {σ : L2.St} {H : Hp} {Q : VK} {K : PySem.W.Frag} {M : Addr → Prop}
theorem x_lc (h : wi σ H fun J H1 => ∀ D, H1 D = none → LCQ J g tt te vs σ Q D H1) : tLc wi g tt te vs σ H Q := h
theorem lc_itx {J : It} {n : Nat} {G : Hp → Prop} {Yy : Nat → Hp → V → Hp → Prop} {H1 : Hp} {D : Addr} (wk : Walk J n G Yy) (Pv : Nat → Hp → Prop) (h0 : Pv 0 (upd H1 D (.lst []))) (hG : ∀ i H, i ≤ n → Pv i H → G H)
    (hs : ∀ i x H H', i < n → Pv i H → Yy i H x H' → g x (wipe σ vs) H' fun σ2 H2 => wipe σ2 vs = wipe σ vs ∧ tt σ2 H2 fun b H3 =>
      if b = true then te σ2 H3 fun y H4 => ∃ acc, H4 D = some (.lst acc) ∧ acc.length < sizeLine ∧ Pv (i + 1) (upd H4 D (.lst (acc ++ [y]))) else Pv (i + 1) H3) (hd : ∀ H, Pv n H → Q (.ref D) H) : LCQ J g tt te vs σ Q D H1 := lc_it wk Pv h0 hG hs hd
theorem x_yes {A B : Hp → Prop} (h : A H) : tYes σ H fun b H3 => if b = true then A H3 else B H3 := by
  show if true = true then A H else B H
  rw [if_pos rfl]
  exact h
theorem x_push {α : Type} {en : α → D} {M0 : Addr → Prop} {Ls : List Addr} {L : Addr} {xs : List α} {x : α} {v vx : V} {N : Hp → Prop} (h : rV K (mxM M0 Ls) H (.mu L (xs.map en)) v) (hx : rV K (mxM M0 Ls) H (.im (en x)) vx) (hL : L ∈ Ls) (hz : xs.length < sizeLine)
    (k : ∀ H2, (∃ vs, H2 = L2.upd H L (.lst vs)) → rV K (mxM M0 Ls) H2 (.mu L ((xs ++ [x]).map en)) v → N H2) : ∃ acc, H L = some (.lst acc) ∧ acc.length < sizeLine ∧ N (L2.upd H L (.lst (acc ++ [vx]))) := by
  obtain ⟨rfl, vs, h2, h3⟩ := h
  refine ⟨vs, h2, by rw [h3.len, List.length_map]; exact hz, k _ ⟨_, rfl⟩ ⟨rfl, _, upd_same, ?_⟩⟩
  rw [List.map_append]
  exact (rDs.mono (Gd.lx_upd hL) _ _ h3).append (rDs.one (rD.mono (Gd.lx_upd hL) _ _ hx))
/-- len of the law's own list -/
theorem ev_lenSc {i : Nat} {l : Addr} {ns : List Int} (e : σ[i]? = some (some (V.ref l))) (hl : SqL K H l (ns.map V.int)) : EV K M σ H (tCB (rLenSq K) (tCons (tVar i) tNil)) (.im (.int (ns.length : Int))) := fun M' H1 w s Q k => by
  refine ⟨V.ref l, e, l, ns.map V.int, rfl, .inl (SqL.bu hl (Bu.same s.s)), ?_⟩
  rw [List.length_map]
  exact k _ H1 w (Same.refl _) rfl
end
end Lf
namespace Lf
open PySem PySem.Spec PyProof.Rows L2
section
variable {ta tb to te : TE} {tc : TT} {tA : TA} {σ : L2.St} {H : Hp} {Q : VK} {K : PySem.W.Frag} {M : Addr → Prop} {d f : DV} {ds : List DV}
theorem x_ifcut (R : V → Hp → Prop) (h : ∀ Q' : VK, (∀ v H', R v H' → Q' v H') → tIf tc ta tb σ H Q') (k : ∀ v H', R v H' → Q v H') : tIf tc ta tb σ H Q := h Q k
theorem x_if (h : tc σ H fun c H1 => if c = true then ta σ H1 Q else tb σ H1 Q) : tIf tc ta tb σ H Q := h
theorem x_m1 {r : V → List V → Hp → VK → Prop} (h : to σ H fun x H1 => (∃ a, x = .str a) ∧ te σ H1 fun y H2 => r x [y] H2 Q) : tM1 r to te σ H Q := h
theorem x_cb {r : List V → Hp → VK → Prop} (h : tA σ H fun vs H1 => r vs H1 Q) : tCB r tA σ H Q := h
theorem cad_go {r : List V → Hp → VK → Prop} {xs : List V} (h : CaD K r ds f) (w : Wd M H) (hx : rVs K M H ds xs) (k : ∀ v H2, Wd M H2 → Same H H2 → rV K M H2 f v → Q v H2) : r xs H Q := h M H w xs hx Q k
theorem mtd_go {r : V → List V → Hp → VK → Prop} {x : V} {xs : List V} (h : MtD K r d ds f) (w : Wd M H) (hd : rV K M H d x) (hx : rVs K M H ds xs) (k : ∀ v H2, Wd M H2 → Same H H2 → rV K M H2 f v → Q v H2) : r x xs H Q := h M H w x xs hd hx Q k
end
/-- the greatest -/
def maxL (xs : List Int) : Int := xs.tail.foldl (fun m x => if m < x then x else m) (xs.headD 0)
end Lf
namespace Lf
open PySem PySem.Spec PyProof.Rows L2
theorem foldM_spec : ∀ (xs : List Int) (m : Int), (xs.foldl (fun m x => if m < x then x else m) m = m ∨ xs.foldl (fun m x => if m < x then x else m) m ∈ xs) ∧ m ≤ xs.foldl (fun m x => if m < x then x else m) m ∧ ∀ y ∈ xs, y ≤ xs.foldl (fun m x => if m < x then x else m) m
  | [], m => ⟨.inl rfl, Int.le_refl _, fun y hy => nomatch hy⟩
  | x :: xs, m => by
    obtain ⟨h1, h2, h3⟩ := foldM_spec xs (if m < x then x else m)
    rw [List.foldl_cons]
    refine ⟨?_, ?_, fun y hy => ?_⟩
    · rcases h1 with h1 | h1
      · rw [h1]
        by_cases c : m < x
        · rw [if_pos c]; exact .inr (List.mem_cons_self ..)
        · rw [if_neg c]; exact .inl rfl
      · exact .inr (List.mem_cons_of_mem _ h1)
    · refine Int.le_trans ?_ h2
      split <;> omega
    · rcases List.mem_cons.mp hy with rfl | hy
      · refine Int.le_trans ?_ h2
        split <;> omega
      · exact h3 y hy
theorem maxL_spec {ns : List Int} (h : ns ≠ []) : maxL ns ∈ ns ∧ ∀ y ∈ ns, y ≤ maxL ns := by
  cases ns with
  | nil => exact absurd rfl h
  | cons n ns =>
    obtain ⟨h1, h2, h3⟩ := foldM_spec ns n
    refine ⟨?_, fun y hy => ?_⟩
    · rcases h1 with h1 | h1
      · show ns.foldl _ n ∈ _
        rw [h1]; exact List.mem_cons_self ..
      · exact List.mem_cons_of_mem _ h1
    · rcases List.mem_cons.mp hy with rfl | hy
      · exact h2
      · exact h3 y hy
theorem cd_max {K : PySem.W.Frag} {d : DV} {ns : List Int} (hd : LsOf d (ns.map .int)) (h0 : ns ≠ []) : CaD K (rMax K) [d] (.im (.int (maxL ns))) := fun M H w xs hx Q k => by
  cases hx with
  | cons h1 h2 =>
    cases h2
    obtain ⟨a, vs, rfl, e2, e3⟩ := hd.get h1
    cases e3.ints
    refine ⟨a, ns, rfl, SqL.of e2, List.length_pos_iff.mpr h0, fun m h1 h2 => ?_⟩
    obtain ⟨q1, q2⟩ := maxL_spec h0
    have : m = maxL ns := Int.le_antisymm (q2 m h1) (h2 _ q1)
    rw [this]
    exact k _ H w (Same.refl _) rfl
end Lf
namespace Lf
open PySem PySem.Spec PyProof.Rows L2
section
variable {K : PySem.W.Frag} {M : Addr → Prop} {σ : L2.St} {H : Hp}
theorem g_tup4 {i j l m : Nat} {d1 d2 d3 d4 : D} {x : V} {Q : L2.St → Hp → Prop} (h : rD K (Fx M H) (.tup [d1, d2, d3, d4]) x) (k : ∀ v1 v2 v3 v4, rD K (Fx M H) d1 v1 → rD K (Fx M H) d2 v2 → rD K (Fx M H) d3 v3 → rD K (Fx M H) d4 v4 → Q ((((σ.set i (some v1)).set j (some v2)).set l (some v3)).set m (some v4)) H) :
    gTup K 4 (gCons (gName i) (gCons (gName j) (gCons (gName l) (gCons (gName m) gNil)))) x σ H Q := by
  obtain ⟨a, vs, rfl, h2, v1, _, rfl, r1, v2, _, rfl, r2, v3, _, rfl, r3, v4, _, rfl, r4, rfl⟩ := h
  exact ⟨a, _, rfl, h2.sq, rfl, v1, _, rfl, v2, _, rfl, v3, _, rfl, v4, _, rfl, rfl, k v1 v2 v3 v4 r1 r2 r3 r4⟩
theorem gm_tup4 {n i j l m : Nat} : GMono (gTup K n (gCons (gName i) (gCons (gName j) (gCons (gName l) (gCons (gName m) gNil))))) := by
  rintro v σ H Q Q' h ⟨a, xs, h1, h2, h3, v1, r1, h4, v2, r2, h5, v3, r3, h6, v4, r4, h7, h8, h9⟩
  exact ⟨a, xs, h1, h2, h3, v1, r1, h4, v2, r2, h5, v3, r3, h6, v4, r4, h7, h8, h _ _ h9⟩
end
end Lf

set_option Elab.async false
set_option linter.all false
set_option maxRecDepth 100000
set_option maxHeartbeats 4000000
/-! == and in of nested data. -/
namespace Lf
open PySem PySem.Spec PyProof.Rows L2
mutual
def py : D → PyData
  | .non => .none
  | .bl b => .bool b
  | .int i => .int i
  | .str s => .str s
  | .lst ds => .list (pys ds)
  | .tup ds => .tuple (pys ds)
  | .ob _ _ _ => .none
  | .dk _ _ => .none
  | .rf _ => .none
  | .ty _ => .none
def pys : List D → List PyData
  | [] => []
  | d :: ds => py d :: pys ds
end
mutual
/-- plain data -/
def pur : D → Bool
  | .non => true
  | .bl _ => true
  | .int _ => true
  | .str s => PyData.strOk s
  | .lst ds => purs ds
  | .tup ds => purs ds
  | .ob _ _ _ => false
  | .dk _ _ => false
  | .rf _ => false
  | .ty _ => false
def purs : List D → Bool
  | [] => true
  | d :: ds => pur d && purs ds
end
mutual
def dep : D → Nat
  | .lst ds => deps ds + 1
  | .tup ds => deps ds + 1
  | _ => 0
def deps : List D → Nat
  | [] => 0
  | d :: ds => max (dep d) (deps ds)
end
theorem pys_map (ds : List D) : pys ds = ds.map py := by
  induction ds with
  | nil => rw [pys]; rfl
  | cons d ds ih => rw [pys, ih, List.map_cons]
theorem purs_all (ds : List D) : purs ds = ds.all pur := by
  induction ds with
  | nil => rw [purs]; rfl
  | cons d ds ih => rw [purs, ih, List.all_cons]
theorem deps_le {ds : List D} {n : Nat} (h : ∀ d ∈ ds, dep d ≤ n) : deps ds ≤ n := by
  induction ds with
  | nil => rw [deps]; exact Nat.zero_le _
  | cons d ds ih =>
    rw [deps]
    exact Nat.max_le.mpr ⟨h d (List.mem_cons_self ..), ih fun x hx => h x (List.mem_cons_of_mem _ hx)⟩
def Shp (d : D) : Prop := pur d = true ∧ dep d ≤ 60

mutual
theorem lay_pur : ∀ d : D, pur d = true → (py d).canLay0 = true
  | .non, _ => rfl
  | .bl _, _ => rfl
  | .int _, _ => rfl
  | .str s, h => by rw [py]; exact h
  | .lst ds, h => by rw [py]; rw [pur] at h; exact lay_purs ds h
  | .tup ds, h => by rw [py]; rw [pur] at h; exact lay_purs ds h
  | .ob _ _ _, h => by rw [pur] at h; cases h
  | .dk _ _, h => by rw [pur] at h; cases h
  | .rf _, h => by rw [pur] at h; cases h
  | .ty _, h => by rw [pur] at h; cases h
theorem lay_purs : ∀ ds : List D, purs ds = true → PyData.canLayAll0 (pys ds) = true
  | [], _ => rfl
  | d :: ds, h => by
    rw [pys]
    rw [purs, Bool.and_eq_true] at h
    show ((py d).canLay0 && PyData.canLayAll0 (pys ds)) = true
    rw [lay_pur d h.1, lay_purs ds h.2]
    rfl
end
mutual
theorem dep_py : ∀ d : D, (py d).depth ≤ dep d + 1
  | .non => by rw [py]; decide
  | .bl _ => by rw [py]; exact Nat.le_add_left _ _
  | .int _ => by rw [py]; exact Nat.le_add_left _ _
  | .str s => by rw [py]; exact Nat.le_add_left _ _
  | .lst ds => by
    rw [py, dep]
    have := deps_py ds
    show PyData.depthAll (pys ds) + 1 ≤ _
    omega
  | .tup ds => by
    rw [py, dep]
    have := deps_py ds
    show PyData.depthAll (pys ds) + 1 ≤ _
    omega
  | .ob _ _ _ => by rw [py]; exact Nat.le_add_left _ _
  | .dk _ _ => by rw [py]; exact Nat.le_add_left _ _
  | .rf _ => by rw [py]; exact Nat.le_add_left _ _
  | .ty _ => by rw [py]; exact Nat.le_add_left _ _
theorem deps_py : ∀ ds : List D, PyData.depthAll (pys ds) ≤ deps ds + 1
  | [] => by rw [pys]; exact Nat.zero_le _
  | d :: ds => by
    rw [pys, deps]
    have h1 := dep_py d
    have h2 := deps_py ds
    show max (py d).depth (PyData.depthAll (pys ds)) ≤ _
    omega
end
theorem Shp.shaped {d : D} (h : Shp d) : SeqAt.shaped (py d) = true := by
  unfold SeqAt.shaped
  rw [lay_pur d h.1, decide_eq_true (by have := dep_py d; have := h.2; omega)]
  rfl
section
variable {K : PySem.W.Frag} {M : Addr → Prop} {H : Hp}
mutual
theorem dp_of : ∀ (d : D) (v : V), pur d = true → rD K (Fx M H) d v → Dp K H v (py d)
  | .non, v, _, h => by cases (show v = .non from h); rw [py]; exact .non
  | .bl b, v, _, h => by cases (show v = .bl b from h); rw [py]; exact .bl b
  | .int b, v, _, h => by cases (show v = .int b from h); rw [py]; exact .int b
  | .str b, v, _, h => by cases (show v = .str b from h); rw [py]; exact .str b
  | .lst ds, v, hp, h => by
    obtain ⟨a, vs, rfl, h2, h3⟩ := h
    rw [py]
    rw [pur] at hp
    exact .lst (SqL.of h2.1) (dps_of ds vs hp h3)
  | .tup ds, v, hp, h => by
    obtain ⟨a, vs, rfl, h2, h3⟩ := h
    rw [py]
    rw [pur] at hp
    exact .tup h2.sq (dps_of ds vs hp h3)
  | .ob _ _ _, v, hp, _ => by rw [pur] at hp; cases hp
  | .dk _ _, v, hp, _ => by rw [pur] at hp; cases hp
  | .rf _, v, hp, _ => by rw [pur] at hp; cases hp
  | .ty _, v, hp, _ => by rw [pur] at hp; cases hp
theorem dps_of : ∀ (ds : List D) (vs : List V), purs ds = true → rDs K (Fx M H) ds vs → DpAll K H vs (pys ds)
  | [], vs, _, h => by cases (show vs = [] from h); rw [pys]; exact .nil
  | d :: ds, vs, hp, h => by
    obtain ⟨v, ws, rfl, h2, h3⟩ := h
    rw [purs, Bool.and_eq_true] at hp
    rw [pys]
    exact .cons (dp_of d v hp.1 h2) (dps_of ds ws hp.2 h3)
end
/-- a value that reads as a datum, frozen or a list of one's own -/
def DvOf (d : DV) (x : D) : Prop := d = .im x ∨ ∃ L ds, d = .mu L ds ∧ x = .lst ds
theorem DvOf.im {x : D} : DvOf (.im x) x := .inl rfl
theorem DvOf.mu {L : Addr} {ds : List D} : DvOf (.mu L ds) (.lst ds) := .inr ⟨L, ds, rfl, rfl⟩
theorem DvOf.dp {d : DV} {x : D} {v : V} (h : DvOf d x) (p : pur x = true) (r : rV K M H d v) : Dp K H v (py x) := by
  rcases h with rfl | ⟨L, ds, rfl, rfl⟩
  · exact dp_of x v p r
  · obtain ⟨rfl, vs, h2, h3⟩ := r
    rw [py]
    rw [pur] at p
    exact .lst (SqL.of h2) (dps_of ds vs p h3)
end
/-- == of two encoded values -/
def EqO {α : Type} [DecidableEq α] (en : α → D) : Prop := ∀ x y, PyData.eqv (py (en x)) (py (en y)) = decide (x = y)
theorem dec_and {p q : Prop} [Decidable p] [Decidable q] : (decide p && decide q) = decide (p ∧ q) := by
  by_cases h1 : p <;> by_cases h2 : q <;> simp [h1, h2]
theorem inj_int : EqO D.int := fun x y => by
  rw [py, py]
  show (x == y) = decide (x = y)
  by_cases h : x = y <;> simp [h]
theorem inj_str : EqO D.str := fun x y => by
  rw [py, py]
  show (x == y) = decide (x = y)
  by_cases h : x = y <;> simp [h]
theorem inj_bool : EqO D.bl := fun x y => by
  rw [py, py]
  show (x == y) = decide (x = y)
  by_cases h : x = y <;> simp [h]
theorem eqv_all {α : Type} [DecidableEq α] {en : α → D} (h : EqO en) : ∀ xs ys : List α, PyData.eqvAll (pys (xs.map en)) (pys (ys.map en)) = decide (xs = ys)
  | [], [] => by simp [pys, PyData.eqvAll]
  | [], y :: ys => by simp [pys, PyData.eqvAll]
  | x :: xs, [] => by simp [pys, PyData.eqvAll]
  | x :: xs, y :: ys => by
    rw [List.map_cons, List.map_cons, pys, pys]
    show (PyData.eqv (py (en x)) (py (en y)) && PyData.eqvAll (pys (xs.map en)) (pys (ys.map en))) = _
    rw [h x y, eqv_all h xs ys, dec_and]
    by_cases c : x = y ∧ xs = ys
    · rw [decide_eq_true c, decide_eq_true (by rw [c.1, c.2])]
    · rw [decide_eq_false c, decide_eq_false (fun e => c (by injection e with e1 e2; exact ⟨e1, e2⟩))]
theorem inj_L {α : Type} [DecidableEq α] {en : α → D} (h : EqO en) : EqO (eL en) := fun xs ys => by
  show PyData.eqv (py (.lst (xs.map en))) (py (.lst (ys.map en))) = _
  rw [py, py]
  exact eqv_all h xs ys
theorem inj_T {α : Type} [DecidableEq α] {en : α → D} (h : EqO en) : EqO (eT en) := fun xs ys => by
  show PyData.eqv (py (.tup (xs.map en))) (py (.tup (ys.map en))) = _
  rw [py, py]
  exact eqv_all h xs ys
theorem inj_P2 {α β : Type} [DecidableEq α] [DecidableEq β] {ea : α → D} {eb : β → D} (h1 : EqO ea) (h2 : EqO eb) : EqO (eP2 ea eb) := fun x y => by
  show PyData.eqv (py (.tup [ea x.1, eb x.2])) (py (.tup [ea y.1, eb y.2])) = _
  simp only [py, pys, PyData.eqv, PyData.eqvAll, Bool.and_true]
  rw [h1, h2, dec_and]
  by_cases c : x.1 = y.1 ∧ x.2 = y.2
  · rw [decide_eq_true c, decide_eq_true (Prod.ext c.1 c.2)]
  · rw [decide_eq_false c, decide_eq_false (fun e => c (by rw [e]; exact ⟨rfl, rfl⟩))]
theorem inj_P3 {α β γ : Type} [DecidableEq α] [DecidableEq β] [DecidableEq γ] {ea : α → D} {eb : β → D} {ec : γ → D} (h1 : EqO ea) (h2 : EqO eb) (h3 : EqO ec) : EqO (eP3 ea eb ec) := fun x y => by
  show PyData.eqv (py (.tup [ea x.1, eb x.2.1, ec x.2.2])) (py (.tup [ea y.1, eb y.2.1, ec y.2.2])) = _
  simp only [py, pys, PyData.eqv, PyData.eqvAll, Bool.and_true]
  rw [h1, h2, h3, dec_and, dec_and]
  by_cases c : x.1 = y.1 ∧ x.2.1 = y.2.1 ∧ x.2.2 = y.2.2
  · rw [decide_eq_true c, decide_eq_true (Prod.ext c.1 (Prod.ext c.2.1 c.2.2))]
  · rw [decide_eq_false c, decide_eq_false (fun e => c (by rw [e]; exact ⟨rfl, rfl, rfl⟩))]
theorem inj_H2 {α β : Type} [DecidableEq α] [DecidableEq β] {ea : α → D} {eb : β → D} (h1 : EqO ea) (h2 : EqO eb) : EqO (eH2 ea eb) := fun x y => by
  show PyData.eqv (py (.lst [ea x.1, eb x.2])) (py (.lst [ea y.1, eb y.2])) = _
  simp only [py, pys, PyData.eqv, PyData.eqvAll, Bool.and_true]
  rw [h1, h2, dec_and]
  by_cases c : x.1 = y.1 ∧ x.2 = y.2
  · rw [decide_eq_true c, decide_eq_true (Prod.ext c.1 c.2)]
  · rw [decide_eq_false c, decide_eq_false (fun e => c (by rw [e]; exact ⟨rfl, rfl⟩))]
theorem inj_H3 {α β γ : Type} [DecidableEq α] [DecidableEq β] [DecidableEq γ] {ea : α → D} {eb : β → D} {ec : γ → D} (h1 : EqO ea) (h2 : EqO eb) (h3 : EqO ec) : EqO (eH3 ea eb ec) := fun x y => by
  show PyData.eqv (py (.lst [ea x.1, eb x.2.1, ec x.2.2])) (py (.lst [ea y.1, eb y.2.1, ec y.2.2])) = _
  simp only [py, pys, PyData.eqv, PyData.eqvAll, Bool.and_true]
  rw [h1, h2, h3, dec_and, dec_and]
  by_cases c : x.1 = y.1 ∧ x.2.1 = y.2.1 ∧ x.2.2 = y.2.2
  · rw [decide_eq_true c, decide_eq_true (Prod.ext c.1 (Prod.ext c.2.1 c.2.2))]
  · rw [decide_eq_false c, decide_eq_false (fun e => c (by rw [e]; exact ⟨rfl, rfl, rfl⟩))]
section
variable {K : PySem.W.Frag} {α : Type} [DecidableEq α] {en : α → D} {d e : DV} {x y : α}
theorem od_eqD (i : EqO en) (h1 : Shp (en x)) (h2 : Shp (en y)) (hd : DvOf d (en x)) (he : DvOf e (en y)) : OpD K (rEqD K) d e (.im (.bl (decide (x = y)))) := fun M H w u v hu hv Q k =>
  ⟨_, _, hd.dp h1.1 hu, he.dp h2.1 hv, h1.shaped, h2.shaped, by rw [i x y]; exact k _ H w (Same.refl _) rfl⟩
theorem od_neD (i : EqO en) (h1 : Shp (en x)) (h2 : Shp (en y)) (hd : DvOf d (en x)) (he : DvOf e (en y)) : OpD K (rNeD K) d e (.im (.bl (!decide (x = y)))) := fun M H w u v hu hv Q k =>
  ⟨_, _, hd.dp h1.1 hu, he.dp h2.1 hv, h1.shaped, h2.shaped, by rw [i x y]; exact k _ H w (Same.refl _) rfl⟩
theorem any_eqv (i : EqO en) (x : α) : ∀ xs : List α, ((pys (xs.map en)).any fun z => PyData.eqv z (py (en x))) = decide (x ∈ xs)
  | [] => by simp [pys]
  | y :: xs => by
    rw [List.map_cons, pys, List.any_cons, i y x, any_eqv i x xs]
    by_cases c : y = x
    · rw [decide_eq_true c, Bool.true_or, decide_eq_true (show x ∈ y :: xs by rw [c]; exact List.mem_cons_self ..)]
    · rw [decide_eq_false c, Bool.false_or]
      by_cases c2 : x ∈ xs
      · rw [decide_eq_true c2, decide_eq_true (List.mem_cons_of_mem _ c2)]
      · rw [decide_eq_false c2, decide_eq_false (fun z => by rcases List.mem_cons.mp z with z | z; exact c z.symm; exact c2 z)]
theorem od_inD {xs : List α} (i : EqO en) (h1 : Shp (en x)) (h2 : Shp (eL en xs)) (hl : LsOf e (xs.map en)) : OpD K (rInD K) (.im (en x)) e (.im (.bl (decide (x ∈ xs)))) := fun M H w u v hu hv Q k => by
  have hd : DvOf e (eL en xs) := by
    rcases hl with rfl | ⟨L, rfl⟩
    · exact .im
    · exact .mu
  have h3 := hd.dp h2.1 hv
  have s2 := h2.shaped
  have e1 : py (eL en xs) = .list (pys (xs.map en)) := by show py (.lst (xs.map en)) = _; rw [py]
  rw [e1] at h3 s2
  exact ⟨_, _, dp_of (M := M) _ _ h1.1 hu, h3, h1.shaped, s2, by rw [any_eqv i x xs]; exact k _ H w (Same.refl _) rfl⟩
theorem od_ninD {xs : List α} (i : EqO en) (h1 : Shp (en x)) (h2 : Shp (eL en xs)) (hl : LsOf e (xs.map en)) : OpD K (rNotInD K) (.im (en x)) e (.im (.bl (!decide (x ∈ xs)))) := fun M H w u v hu hv Q k => by
  have hd : DvOf e (eL en xs) := by
    rcases hl with rfl | ⟨L, rfl⟩
    · exact .im
    · exact .mu
  have h3 := hd.dp h2.1 hv
  have s2 := h2.shaped
  have e1 : py (eL en xs) = .list (pys (xs.map en)) := by show py (.lst (xs.map en)) = _; rw [py]
  rw [e1] at h3 s2
  exact ⟨_, _, dp_of (M := M) _ _ h1.1 hu, h3, h1.shaped, s2, by rw [any_eqv i x xs]; exact k _ H w (Same.refl _) rfl⟩
end
/-! shapes -/
theorem Shp.list {α : Type} {en : α → D} {xs : List α} (h : ∀ x ∈ xs, pur (en x) = true ∧ dep (en x) ≤ 59) : Shp (eL en xs) := by
  constructor
  · show pur (.lst (xs.map en)) = true
    rw [pur, purs_all, List.all_map, List.all_eq_true]
    exact fun x hx => (h x hx).1
  · show dep (.lst (xs.map en)) ≤ 60
    rw [dep]
    have := deps_le (ds := xs.map en) (n := 59) fun d hd => by
      obtain ⟨x, hx, rfl⟩ := List.mem_map.mp hd
      exact (h x hx).2
    omega
theorem Shp.tuple {α : Type} {en : α → D} {xs : List α} (h : ∀ x ∈ xs, pur (en x) = true ∧ dep (en x) ≤ 59) : Shp (eT en xs) := by
  constructor
  · show pur (.tup (xs.map en)) = true
    rw [pur, purs_all, List.all_map, List.all_eq_true]
    exact fun x hx => (h x hx).1
  · show dep (.tup (xs.map en)) ≤ 60
    rw [dep]
    have := deps_le (ds := xs.map en) (n := 59) fun d hd => by
      obtain ⟨x, hx, rfl⟩ := List.mem_map.mp hd
      exact (h x hx).2
    omega
end Lf

set_option Elab.async false
set_option linter.all false
set_option maxRecDepth 100000
set_option maxHeartbeats 4000000
/-! Lists that a call gives anew; `is True`. -/
namespace Lf
open PySem PySem.Spec PyProof.Rows L2
section
variable {α ρ : Type}
/-- a function of data whose list is new -/
def spFN (K : PySem.W.Frag) (ens : α → List D) (er : ρ → D) (pre : α → Prop) (F : α → List ρ) : Sp := fun vs H Q _ => ∃ (M : Addr → Prop) (x : α), Wd M H ∧ rDs K (Fx M H) (ens x) vs ∧ pre x ∧
  ∀ p H3 ws, Wd M H3 → Same H H3 → H p = none → H3 p = some (.lst ws) → rDs K (Fx (adM M p) H3) ((F x).map er) ws → Q (.ref p) H3
theorem spFN_of {K : PySem.W.Frag} {ens : α → List D} {er : ρ → D} {pre : α → Prop} {F : α → List ρ} {vs : List V} {H : Hp} {Q : VK} {E : XK} (h : spF K ens (eL er) pre F vs H Q E) : spFN K ens er pre F vs H Q E := by
  obtain ⟨M, x, w, hx, hp, k⟩ := h
  refine ⟨M, x, w, hx, hp, fun p H3 ws w3 s3 np hp3 hv => k _ H3 w3 s3 ?_⟩
  exact ⟨p, ws, rfl, ⟨hp3, fun m => w p m np⟩, rDs.mono (fun q o z => ⟨z.1, fun y => z.2 (.inl y)⟩) _ _ hv⟩
end
def NwD (K : PySem.W.Frag) (r : List V → Hp → VK → Prop) (ds : List DV) (es : List D) : Prop := ∀ M H, Wd M H → ∀ xs, rVs K M H ds xs → ∀ Q : VK, (∀ p H3 ws, Wd M H3 → Same H H3 → H p = none → H3 p = some (.lst ws) → rDs K (Fx (adM M p) H3) es ws → Q (.ref p) H3) → r xs H Q
theorem cd_sortTI_new {K : PySem.W.Frag} {d : DV} {nss : List (List Int)} (hd : LsOf d (nss.map (eT D.int))) (h0 : ∀ n ∈ nss, n ≠ []) : ∀ M H, Wd M H → ∀ xs, rVs K M H [d] xs → ∀ Q : VK, (∀ p H3 ws, Same H H3 → H p = none → H3 p = some (.lst ws) → rDs K (Fx M H) ((sortT nss).map (eT D.int)) ws → Q (.ref p) H3) → rSortedTI K xs H Q := fun M H w xs hx Q k => by
  cases hx with
  | cons h1 h2 =>
    cases h2
    obtain ⟨a, vs, rfl, e2, e3⟩ := hd.get h1
    have tup : ∀ (i : Nat) (v : V), vs[i]? = some v → ∃ ns, nss[i]? = some ns ∧ rD K (Fx M H) (eT D.int ns) v ∧ ∃ t, v = V.ref t ∧ SqT K H t (ns.map V.int) := fun i v hi => by
      obtain ⟨dd, hdd, hr⟩ := e3.get hi
      rw [List.getElem?_map] at hdd
      obtain ⟨ns, hns, rfl⟩ := Option.map_eq_some_iff.mp hdd
      obtain ⟨t, ws, rfl, h3, h4⟩ := id hr
      cases h4.ints
      exact ⟨ns, hns, hr, t, rfl, h3.sq⟩
    refine ⟨a, vs, rfl, SqL.of e2, fun v hv => ?_, fun kf hk ys p H' hs hb np s' hp => ?_⟩
    · obtain ⟨i, hi⟩ := List.mem_iff_getElem?.mp hv
      obtain ⟨ns, hns, _, t, e, hq⟩ := tup i v hi
      exact ⟨t, ns, e, hq, h0 ns (List.mem_of_getElem? hns)⟩
    · have ek : vs.map kf = nss := by
        refine List.ext_getElem? fun i => ?_
        rw [List.getElem?_map]
        cases e : vs[i]? with
        | none =>
          have := List.getElem?_eq_none_iff.mp e
          rw [e3.len, List.length_map] at this
          exact (List.getElem?_eq_none_iff.mpr this).symm
        | some v =>
          obtain ⟨ns, hns, _, t, rfl, hq⟩ := tup i v e
          rw [hns]
          show some (kf (.ref t)) = some ns
          rw [hk t ns hq]
      have es : ys.map kf = sortT nss := by
        refine sortT_uniq (List.pairwise_map.mpr (hs.imp fun h => h)) ?_
        rw [← ek]
        exact hb.perm.map kf
      refine k p H' ys s' np hp ?_
      rw [← es]
      have all : ∀ y ∈ ys, rD K (Fx M H) (eT D.int (kf y)) y := fun y hy => by
        have hv := hb.perm.mem_iff.mp hy
        obtain ⟨i, hi⟩ := List.mem_iff_getElem?.mp hv
        obtain ⟨ns, hns, hr, t, rfl, hq⟩ := tup i y hi
        rw [hk t ns hq]
        exact hr
      clear hs hb hp es
      induction ys with
      | nil => rfl
      | cons y ys ih => exact ⟨y, ys, rfl, all y (List.mem_cons_self ..), ih fun z hz => all z (List.mem_cons_of_mem _ hz)⟩
section
variable {α ρ : Type} {K : PySem.W.Frag} {M : Addr → Prop} {σ : L2.St} {H : Hp} {ta : TE} {tA : TA} {ds : List DV} {es : List D} {Q : VK}
theorem nwd_fn {ens : α → List D} {er : ρ → D} {pre : α → Prop} {F : α → List ρ} {E : XK} (x : α) (hp : pre x) (hd : ds = (ens x).map .im) : NwD K (fun vs H Q => spFN K ens er pre F vs H Q E) ds ((F x).map er) := fun M H w xs hx Q k => by
  subst hd
  exact ⟨M, x, w, hx.ims, hp, k⟩
theorem go_methN {C : Addr} {ns : List Str} {xs : List D} {m : Str} {sp : Sp} {E : XK} (he : EV K M σ H ta (.im (.ob C ns xs))) (hm : m ∉ ns) (ha : EVA K M σ H tA ds) (ho : NwD K (fun vs H Q => sp vs H Q E) (.im (.ob C ns xs) :: ds) es) (w : Wd M H)
    (k : ∀ p H2 H3, Wd M H2 → Same H H2 → H2 p = none → Same H2 H3 → ∀ ws, H3 p = some (.lst ws) → rDs K (Fx (adM M p) H3) es ws → Q (.ref p) H3) : tMeth C m sp [] E ta tA σ H Q :=
  he M H w Ex.refl _ fun v H2 w2 s2 hv => by
    obtain ⟨a, dx, fs, rfl, h2, h3, h4⟩ := id hv
    refine ⟨a, dx, fs, rfl, h2.1, look_none h3 hm, ha M H2 w2 (Ex.same s2) _ fun vs H3 w3 s3 hvs => ?_⟩
    rw [List.append_nil]
    exact ho M H3 w3 _ (.cons (hv.same s3) hvs) Q fun p H4 ws w4 s4 np hp hw => k p H3 H4 w3 (s2.trans s3) np s4 ws hp hw
theorem adM_mx {M0 : Addr → Prop} {Ls : List Addr} {p : Addr} {vs : List V} (h : rDs K (Fx (adM (mxM M0 Ls) p) H) es vs) : rDs K (Fx (mxM M0 (p :: Ls)) H) es vs := rDs.mono (fun q o z => ⟨z.1, fun y => z.2 (by
  rcases y with y | y
  · exact .inl (.inl y)
  · rcases List.mem_cons.mp y with y | y
    · exact .inr y
    · exact .inl (.inr y))⟩) _ _ h
/-- what was a new list for the walk is a new list -/
theorem ad_new {H2 H3 : Hp} {p : Addr} {vs : List V} {M0 : Addr → Prop} {Ls : List Addr} (s : Same H2 H3) (np : H2 p = none) (h : rDs K (Fx (mxM M0 Ls) H2) es vs) : rDs K (Fx (adM M0 p) H3) es vs := rDs.mono (fun q o z => ⟨s q o z.1, fun y => by
  rcases y with y | y
  · exact z.2 (.inl y)
  · subst y; exact absurd z.1 (by rw [np]; exact fun e => nomatch e)⟩) _ _ h
theorem ad_own {p : Addr} {vs : List V} {M0 : Addr → Prop} {Ls : List Addr} (hL : p ∈ Ls) (h : rDs K (Fx (mxM M0 Ls) H) es vs) : rDs K (Fx (adM M0 p) H) es vs := rDs.mono (fun q o z => ⟨z.1, fun y => by
  rcases y with y | y
  · exact z.2 (.inl y)
  · exact z.2 (.inr (by rw [y]; exact hL))⟩) _ _ h
/-- sorted(..) is new -/
theorem evn_sortTI {d : DV} {nss : List (List Int)} (ha : EV K M σ H ta d) (hd : LsOf d (nss.map (eT D.int))) (h0 : ∀ n ∈ nss, n ≠ []) : EVN K M σ H (tCB (rSortedTI K) (tCons ta tNil)) ((sortT nss).map (eT D.int)) := fun H1 w s Q k =>
  ha M H1 w (Ex.same s) _ fun x H2 w2 s2 hx => by
    refine cd_sortTI_new hd h0 M H2 w2 [x] (.cons hx .nil) Q fun p H3 ws s3 np hp hv => k p H2 H3 w2 s2 np s3 ws hp hv
end
/-! is True, is False -/
def rIsBv : R2 := fun x y H Q => ∃ b : Bool, y = .bl b ∧ Q (.bl (decide (x = .bl b))) H
def isBD (d : D) (b : Bool) : Bool := match d with
  | .bl c => decide (c = b)
  | _ => false
theorem op_isBv {X : Cx} : OpR X (compareOp .Is) rIsBv := by
  intro pins s σ H x y v u Q I rx ry h
  obtain ⟨b, rfl, q⟩ := h
  cases (show u = Value.bool b from ry)
  cases x with
  | bl a =>
    cases (show v = Value.bool a from rx)
    by_cases e : a = b
    · subst e
      exact wpAny_is_self rfl ⟨.bl true, H, I, rfl, by simpa using q⟩
    · exact wpAny_is_other rfl (fun z => e (Value.bool.inj z)) ⟨.bl false, H, I, rfl, by simpa [e] using q⟩
  | non =>
    cases rx
    exact wpAny_is_other rfl (fun z => nomatch z) ⟨.bl false, H, I, rfl, by simpa using q⟩
  | int i =>
    obtain ⟨t, rfl⟩ := rx
    exact wpAny_is_other rfl (fun z => nomatch z) ⟨.bl false, H, I, rfl, by simpa using q⟩
  | str i =>
    obtain ⟨t, rfl⟩ := rx
    exact wpAny_is_other rfl (fun z => nomatch z) ⟨.bl false, H, I, rfl, by simpa using q⟩
  | byt i =>
    obtain ⟨t, rfl⟩ := rx
    exact wpAny_is_other rfl (fun z => nomatch z) ⟨.bl false, H, I, rfl, by simpa using q⟩
  | flt i =>
    obtain ⟨t, rfl⟩ := rx
    exact wpAny_is_other rfl (fun z => nomatch z) ⟨.bl false, H, I, rfl, by simpa using q⟩
  | ref i =>
    cases rx
    exact wpAny_is_other rfl (fun z => nomatch z) ⟨.bl false, H, I, rfl, by simpa using q⟩
  | ty i =>
    cases rx
    exact wpAny_is_other rfl (fun z => nomatch z) ⟨.bl false, H, I, rfl, by simpa using q⟩
theorem od_isB {K : PySem.W.Frag} {x : D} {b : Bool} : OpD K rIsBv (.im x) (.im (.bl b)) (.im (.bl (isBD x b))) := fun M H w u v hu hv Q k => by
  cases (show v = .bl b from hv)
  refine ⟨b, rfl, ?_⟩
  have e : decide (u = .bl b) = isBD x b := by
    have hu : rD K (Fx M H) x u := hu
    cases x with
    | bl c =>
      cases (show u = .bl c from hu)
      show decide (V.bl c = V.bl b) = decide (c = b)
      by_cases e : c = b
      · rw [decide_eq_true e, decide_eq_true (by rw [e])]
      · rw [decide_eq_false e, decide_eq_false (fun z => e (V.bl.inj z))]
    | non => cases (show u = .non from hu); rfl
    | int c => cases (show u = .int c from hu); exact decide_eq_false (fun z => nomatch z)
    | str c => cases (show u = .str c from hu); exact decide_eq_false (fun z => nomatch z)
    | lst ds => obtain ⟨a, vs, rfl, _⟩ := hu; exact decide_eq_false (fun z => nomatch z)
    | tup ds => obtain ⟨a, vs, rfl, _⟩ := hu; exact decide_eq_false (fun z => nomatch z)
    | ob C ns ds => obtain ⟨a, dx, fs, rfl, _⟩ := hu; exact decide_eq_false (fun z => nomatch z)
    | dk ks ds => obtain ⟨a, o, kvs, rfl, _⟩ := hu; exact decide_eq_false (fun z => nomatch z)
    | rf a => cases (show u = .ref a from hu); exact decide_eq_false (fun z => nomatch z)
    | ty n => cases (show u = .ty n from hu); exact decide_eq_false (fun z => nomatch z)
  rw [e]
  exact k _ H w (Same.refl _) rfl
end Lf
namespace Lf
open PySem PySem.Spec PyProof.Rows L2
theorem sm_none {H H2 : Hp} {p : Addr} (s : Same H H2) (n : H2 p = none) : H p = none := by
  cases e : H p with
  | none => rfl
  | some o => exact absurd (s p o e) (by rw [n]; exact fun z => nomatch z)
section
variable {K : PySem.W.Frag} {M : Addr → Prop} {σ : L2.St} {H H0 : Hp}
theorem cd_isiM {L : Addr} {ds : List D} {b : String} {r : Bool} (h : kitB "list" b = some r) : CaD K (rIsi K) [.mu L ds, .im (.ty b)] (.im (.bl r)) := fun M H w xs hx Q k => by
  cases hx with
  | cons h1 h2 =>
    cases h2 with
    | cons h2 h3 =>
      cases h3
      cases h2
      obtain ⟨e, vs, hp, _⟩ := h1
      subst e
      exact ⟨_, _, _, _, r, rfl, .ty _, .base (.lst hp), kit_ty h, k _ H w (Same.refl _) rfl⟩
theorem SqL.gd {M0 : Addr → Prop} {Ls Y : List Addr} {l : Addr} {xs : List V} (h : SqL K H0 l xs) (g : Gd M0 Ls Y H0 H) (e : Y = []) : SqL K H l xs := SqL.bu h (by rw [← e]; exact g.bu)
theorem ev_lenSc2 {i m : Nat} {l : Addr} {ns : List Int} (e : σ[i]? = some (some (V.ref l))) (hl : SqL K H l (ns.map V.int)) (em : ns.length = m) : EV K M σ H (tCB (rLenSq K) (tCons (tVar i) tNil)) (.im (.int (m : Int))) := by
  rw [← em]
  exact ev_lenSc e hl
end
end Lf
namespace Lf
open PySem PySem.Spec PyProof.Rows L2
def sc0 : Scope := { kind := .function, names := [], isGenerator := false, isCoroutine := false }
/-- a comprehension within another that reads none of its names -/
theorem blkOk_nf {N : List Str} {sc scope : Scope} {own : List (Str × Nat)} (h : blkC N sc0 scope own = true) : BlkOk N sc scope own := by
  refine blkOk_by ?_
  unfold blkC at h ⊢
  rw [Bool.and_eq_true] at h ⊢
  refine ⟨h.1, ?_⟩
  rw [List.all_eq_true] at h ⊢
  intro y hy
  have q := h.2 y hy
  revert q
  cases y.2 <;> intro q <;> first | exact q | exact (nomatch q)
end Lf

set_option Elab.async false
set_option linter.all false
set_option maxRecDepth 100000
set_option maxHeartbeats 4000000
/-! Comprehensions give new lists; extend, clear; isinstance of any data. -/
namespace Lf
open PySem PySem.Spec PyProof.Rows L2
section
variable {K : PySem.W.Frag} {M : Addr → Prop} {σ : L2.St} {H H' : Hp} {t ta tb tc : TE} {tt tu tt1 : TT} {tA : TA} {d e f : DV} {wi wi1 : TI} {G G1 : (Addr → Prop) → Hp → Hp → Prop} {es ds : List D}
/-- a new list -/
def EVM (K : PySem.W.Frag) (M : Addr → Prop) (σ : L2.St) (H : Hp) (t : TE) (ds : List D) : Prop := ∀ M1 H1, Wd M1 H1 → Ex M M1 H H1 → ∀ Q : VK, (∀ p H3 vs, Wd M1 H3 → Same H1 H3 → H1 p = none → H3 p = some (.lst vs) → rDs K (Fx (adM M1 p) H3) ds vs → Q (.ref p) H3) → t σ H1 Q
theorem EVM.go (h : EVM K M σ H t ds) (w : Wd M H) {Q : VK} (k : ∀ p H3 vs, Wd M H3 → Same H H3 → H p = none → H3 p = some (.lst vs) → rDs K (Fx (adM M p) H3) ds vs → Q (.ref p) H3) : t σ H Q := h M H w Ex.refl Q k
theorem EVM.go5 (h : EVM K M σ H t ds) (w : Wd M H) {Q : VK} (k : ∀ p H2 H3, Wd M H2 → Same H H2 → H2 p = none → Same H2 H3 → ∀ vs, H3 p = some (.lst vs) → rDs K (Fx (adM M p) H3) ds vs → Q (.ref p) H3) : t σ H Q := h.go w fun p H3 vs w3 s3 np hp hv => k p H H3 w (Same.refl _) np s3 vs hp hv
theorem evm_lcf {α : Type} {xs : List α} {en : α → D} {p : α → Bool} {f : α → D} {g : TG} {vs : List Nat} (hi : EVI K M σ H wi G (xs.map en)) (hG : ∀ {M M' : Addr → Prop} {H H' : Hp}, Ex M M' H H' → G M H H') (hg : GMono g) (hz : xs.length ≤ sizeLine)
    (hb : ∀ x ∈ xs, ∀ M' H' v, Wd M' H' → Ex M M' H H' → rD K (Fx M' H') (en x) v → g v (wipe σ vs) H' fun σ2 H2 => H2 = H' ∧ wipe σ2 vs = wipe σ vs ∧ EVT M' σ2 H' tt (p x) ∧ (p x = true → EV K M' σ2 H' t (.im (f x)))) :
    EVM K M σ H (tLc wi g tt t vs) ((xs.filter p).map f) := fun M1 H1 w s Q k => hi M1 H1 w s _ fun J H2 w2 s2 wk D nD => by
  have mD : ¬ M1 D := w2.free nD
  have sD : Same H2 (L2.upd H2 D (.lst [])) := Same.new nD
  refine lc_it wk (fun i H' => Wd (adM M1 D) H' ∧ Ex M1 (adM M1 D) H2 H' ∧ ∃ ws, H' D = some (.lst ws) ∧ rDs K (Fx (adM M1 D) H') (((xs.take i).filter p).map f) ws)
    ⟨(w2.same sD).add (by rw [upd_same]; exact fun z => nomatch z), Ex.add sD nD, [], upd_same, rfl⟩ (fun i H' _ z => hG z.2.1) ?_ ?_
  · rintro i x H3 H4 hi' ⟨w3, s3, ws, hD, hws⟩ ⟨s4, d, hd, hr⟩
    rw [List.getElem?_map] at hd
    obtain ⟨y, hy, rfl⟩ := Option.map_eq_some_iff.mp hd
    have hr := hr _ w3 s3.lx
    have w4 := w3.same s4
    have s24 := s3.sm s4
    have tk : xs.take (i + 1) = xs.take i ++ [y] := by rw [List.take_add_one, hy]; rfl
    have hl : ((xs.take i).filter p).length < sizeLine := by
      have h1 := List.length_filter_le p (xs.take i)
      have h2 := (List.getElem?_eq_some_iff.mp hy).1
      rw [List.length_take] at h1
      omega
    refine hg _ _ _ _ _ ?_ (hb y (List.mem_of_getElem? hy) _ H4 x w4 ((s.sm s2).trans s24) hr)
    rintro σ2 H5 ⟨rfl, hw, ht, he⟩
    refine ⟨hw, ht _ H5 w4 Ex.refl _ fun H6 w6 s6 => ?_⟩
    cases hp : p y with
    | true =>
      refine iteT ?_
      refine he hp _ H6 w6 (Ex.same s6) _ fun v H7 w7 s7 hv => ?_
      have s47 : Same H5 H7 := s6.trans s7
      have hD7 := s47 _ _ (s4 _ _ hD)
      have hws7 := (hws.same s4).same s47
      have lu : Lx (adM M1 D) (adM M1 D) H7 (L2.upd H7 D (.lst (ws ++ [v]))) := Lx.upd (.inr rfl)
      refine ⟨ws, hD7, by rw [hws.len, List.length_map]; exact hl, w7.upd, ⟨fun q o h => ?_, s24.u, s24.n⟩, ws ++ [v], upd_same, ?_⟩
      · rw [upd_ne (ne_of_none h nD)]
        exact s47 _ _ (s24.s _ _ h)
      · rw [tk, List.filter_append, List.map_append]
        have e1 : [y].filter p = [y] := by simp [hp]
        rw [e1]
        exact (rDs.mono lu _ _ hws7).append (rDs.one (rD.mono lu _ _ hv))
    | false =>
      refine iteF ?_
      refine ⟨w6, s24.sm s6, ws, s6 _ _ (s4 _ _ hD), ?_⟩
      rw [tk, List.filter_append, List.map_append]
      have e1 : [y].filter p = [] := by simp [hp]
      rw [e1, List.map_nil, List.append_nil]
      exact (hws.same s4).same s6
  · rintro H3 ⟨w3, s3, ws, hD, hws⟩
    rw [List.length_map, List.take_length] at hws
    exact k D H3 ws (fun q hq => w3 q (.inl hq)) (s2.trans s3.s) (sm_none s2 nD) hD hws
theorem evm_lcm {α : Type} {xs : List α} {en : α → D} {f : α → D} {g : TG} {vs : List Nat} (hi : EVI K M σ H wi G (xs.map en)) (hG : ∀ {M M' : Addr → Prop} {H H' : Hp}, Ex M M' H H' → G M H H') (hg : GMono g) (hz : xs.length ≤ sizeLine)
    (hb : ∀ x ∈ xs, ∀ M' H' v, Wd M' H' → Ex M M' H H' → rD K (Fx M' H') (en x) v → g v (wipe σ vs) H' fun σ2 H2 => H2 = H' ∧ wipe σ2 vs = wipe σ vs ∧ EV K M' σ2 H' t (.im (f x))) :
    EVM K M σ H (tLc wi g tYes t vs) (xs.map f) := by
  have := evm_lcf (tt := tYes) (p := fun _ => true) (f := f) hi hG hg hz fun x hx M' H' v w' s' hv => hg _ _ _ _ _ (fun σ2 H2 z => ⟨z.1, z.2.1, evt_yes, fun _ => z.2.2⟩) (hb x hx M' H' v w' s' hv)
  rw [List.filter_eq_self.mpr (fun _ _ => rfl)] at this
  exact this
theorem evm_lcmm {α β : Type} {xs : List α} {en : α → D} {fd : α → β} {en2 : β → D} {g : TG} {vs : List Nat} (hi : EVI K M σ H wi G (xs.map en)) (hG : ∀ {M M' : Addr → Prop} {H H' : Hp}, Ex M M' H H' → G M H H') (hg : GMono g) (hz : xs.length ≤ sizeLine)
    (hb : ∀ x ∈ xs, ∀ M' H' v, Wd M' H' → Ex M M' H H' → rD K (Fx M' H') (en x) v → g v (wipe σ vs) H' fun σ2 H2 => H2 = H' ∧ wipe σ2 vs = wipe σ vs ∧ EV K M' σ2 H' t (.im (en2 (fd x)))) :
    EVM K M σ H (tLc wi g tYes t vs) ((xs.map fd).map en2) := by
  have := evm_lcm (f := fun x => en2 (fd x)) hi hG hg hz hb
  rw [List.map_map]
  exact this
theorem evm_lcfm {α β : Type} {xs : List α} {en : α → D} {fd : α → β} {en2 : β → D} {p : α → Bool} {g : TG} {vs : List Nat} (hi : EVI K M σ H wi G (xs.map en)) (hG : ∀ {M M' : Addr → Prop} {H H' : Hp}, Ex M M' H H' → G M H H') (hg : GMono g) (hz : xs.length ≤ sizeLine)
    (hb : ∀ x ∈ xs, ∀ M' H' v, Wd M' H' → Ex M M' H H' → rD K (Fx M' H') (en x) v → g v (wipe σ vs) H' fun σ2 H2 => H2 = H' ∧ wipe σ2 vs = wipe σ vs ∧ EVT M' σ2 H' tt (p x) ∧ (p x = true → EV K M' σ2 H' t (.im (en2 (fd x))))) :
    EVM K M σ H (tLc wi g tt t vs) (((xs.filter p).map fd).map en2) := by
  have := evm_lcf (f := fun x => en2 (fd x)) hi hG hg hz hb
  rw [List.map_map]
  exact this
theorem evm_lcff {α : Type} {xs : List α} {en : α → D} {p : α → Bool} {g : TG} {vs : List Nat} (hi : EVI K M σ H wi G (xs.map en)) (hG : ∀ {M M' : Addr → Prop} {H H' : Hp}, Ex M M' H H' → G M H H') (hg : GMono g) (hz : xs.length ≤ sizeLine)
    (hb : ∀ x ∈ xs, ∀ M' H' v, Wd M' H' → Ex M M' H H' → rD K (Fx M' H') (en x) v → g v (wipe σ vs) H' fun σ2 H2 => H2 = H' ∧ wipe σ2 vs = wipe σ vs ∧ EVT M' σ2 H' tt (p x) ∧ (p x = true → EV K M' σ2 H' t (.im (en x)))) :
    EVM K M σ H (tLc wi g tt t vs) ((xs.filter p).map en) := evm_lcf (f := en) hi hG hg hz hb
theorem evm_lc2 {α β γ : Type} {xs : List α} {en : α → D} {ys : α → List β} {en1 : β → D} {p : α → Bool} {q : α → β → Bool} {fd : α → β → γ} {en2 : γ → D} {g g1 : TG} {vs vs1 : List Nat}
    (hi : EVI K M σ H wi G (xs.map en)) (hG : ∀ {M M' : Addr → Prop} {H H' : Hp}, Ex M M' H H' → G M H H') (hg : GMono g) (hg1 : GMono g1)
    (hz : (((xs.filter p).flatMap fun x => ((ys x).filter (q x)).map (fd x))).length ≤ sizeLine)
    (hb : ∀ x ∈ xs, ∀ M' H' v, Wd M' H' → Ex M M' H H' → rD K (Fx M' H') (en x) v → g v (wipe σ vs) H' fun σ2 H2 => H2 = H' ∧ wipe σ2 vs = wipe σ vs ∧ ∀ M2 H3, Wd M2 H3 → Ex M M2 H H3 → Lx M' M2 H' H3 →
      EVT M2 σ2 H3 tt (p x) ∧ (p x = true → EVI K M2 σ2 H3 wi1 GI ((ys x).map en1) ∧
      ∀ y ∈ ys x, ∀ u, rD K (Fx M2 H3) (en1 y) u → g1 u (wipe σ2 vs1) H3 fun σ3 H4 => H4 = H3 ∧ wipe σ3 vs1 = wipe σ2 vs1 ∧ EVT M2 σ3 H3 tt1 (q x y) ∧ (q x y = true → EV K M2 σ3 H3 t (.im (en2 (fd x y)))))) :
    EVM K M σ H (tLc2 wi g tt wi1 g1 tt1 t vs vs1) (((xs.filter p).flatMap fun x => ((ys x).filter (q x)).map (fd x)).map en2) := fun M1 H1 w s Q k => hi M1 H1 w s _ fun J H2 w2 s2 wk D nD => by
  have mD : ¬ M1 D := w2.free nD
  have sD : Same H2 (L2.upd H2 D (.lst [])) := Same.new nD
  obtain ⟨F, eF⟩ : ∃ F : α → List γ, F = fun x => ((ys x).filter (q x)).map (fd x) := ⟨_, rfl⟩
  rw [← eF] at hz
  have pre : ∀ i, (((xs.take i).filter p).flatMap F).length ≤ (((xs.filter p).flatMap F)).length := fun i => by
    have e : xs.filter p = (xs.take i).filter p ++ (xs.drop i).filter p := by rw [← List.filter_append, List.take_append_drop]
    rw [e, List.flatMap_append, List.length_append]
    omega
  refine lc2o_it wk (fun i H' => Wd (adM M1 D) H' ∧ Ex M1 (adM M1 D) H2 H' ∧ ∃ ws, H' D = some (.lst ws) ∧ rDs K (Fx (adM M1 D) H') ((((xs.take i).filter p).flatMap F).map en2) ws)
    ⟨(w2.same sD).add (by rw [upd_same]; exact fun z => nomatch z), Ex.add sD nD, [], upd_same, rfl⟩ (fun i H' _ z => hG z.2.1) ?_ ?_
  · rintro i x H3 H4 hi' ⟨w3, s3, ws, hD, hws⟩ ⟨s4, d, hd, hr⟩
    rw [List.getElem?_map] at hd
    obtain ⟨y, hy, rfl⟩ := Option.map_eq_some_iff.mp hd
    have hr := hr _ w3 s3.lx
    have w4 := w3.same s4
    have s24 := s3.sm s4
    have tk : xs.take (i + 1) = xs.take i ++ [y] := by rw [List.take_add_one, hy]; rfl
    have pi := pre (i + 1)
    refine hg _ _ _ _ _ ?_ (hb y (List.mem_of_getElem? hy) _ H4 x w4 ((s.sm s2).trans s24) hr)
    rintro σ2 H5 ⟨rfl, hw, hin⟩
    obtain ⟨ht, he⟩ := hin _ H5 w4 ((s.sm s2).trans s24) Lx.refl
    refine ⟨hw, ht _ H5 w4 Ex.refl _ fun H6 w6 s6 => ?_⟩
    cases hp : p y with
    | false =>
      refine iteF ?_
      refine ⟨w6, s24.sm s6, ws, s6 _ _ (s4 _ _ hD), ?_⟩
      rw [tk, List.filter_append]
      have e1 : [y].filter p = [] := by simp [hp]
      rw [e1, List.append_nil]
      exact (hws.same s4).same s6
    | true =>
      refine iteT ?_
      have e1 : (xs.take (i + 1)).filter p = (xs.take i).filter p ++ [y] := by rw [tk, List.filter_append]; simp [hp]
      have fl : ((xs.take (i + 1)).filter p).flatMap F = ((xs.take i).filter p).flatMap F ++ F y := by rw [e1, List.flatMap_append]; simp
      rw [fl] at pi ⊢
      obtain ⟨hi1, _⟩ := he hp
      refine hi1 _ H6 w6 (Ex.same s6) _ fun J1 H7 w7 s7 wk1 => ?_
      have s57 : Same H5 H7 := s6.trans s7
      refine lc2_it wk1 (fun j H' => Wd (adM M1 D) H' ∧ Ex M1 (adM M1 D) H2 H' ∧ Lx (adM M1 D) (adM M1 D) H5 H' ∧ Lx (adM M1 D) (adM M1 D) H7 H' ∧ ∃ ws, H' D = some (.lst ws) ∧ rDs K (Fx (adM M1 D) H') ((((xs.take i).filter p).flatMap F ++ (((ys y).take j).filter (q y)).map (fd y)).map en2) ws)
        ⟨w7, s24.sm s57, Lx.same s57, Lx.refl, ws, s57 _ _ (s4 _ _ hD), by simp only [List.take_zero, List.filter_nil, List.map_nil, List.append_nil]; exact (hws.same s4).same s57⟩ (fun j H' _ z => ⟨_, z.2.2.2.1⟩) ?_ ?_
      · rintro j u H8 H9 hj ⟨w8, s8, l8, k8, ws8, hD8, hws8⟩ ⟨s9, d, hd, hr9⟩
        rw [List.getElem?_map] at hd
        obtain ⟨b, hb', rfl⟩ := Option.map_eq_some_iff.mp hd
        have hr9 := hr9 _ w8 k8
        have w9 := w8.same s9
        have tk1 : (ys y).take (j + 1) = (ys y).take j ++ [b] := by rw [List.take_add_one, hb']; rfl
        obtain ⟨_, he9⟩ := hin _ H9 w9 ((s.sm s2).trans (s8.sm s9)) (l8.trans (Lx.same s9))
        refine hg1 _ _ _ _ _ ?_ ((he9 hp).2 b (List.mem_of_getElem? hb') u hr9)
        rintro σ3 H10 ⟨rfl, hw3, ht3, he3⟩
        refine ⟨hw3, ht3 _ H10 w9 Ex.refl _ fun H11 w11 s11 => ?_⟩
        cases hq : q y b with
        | false =>
          refine iteF ?_
          refine ⟨w11, (s8.sm s9).sm s11, (l8.trans (Lx.same s9)).trans (Lx.same s11), (k8.trans (Lx.same s9)).trans (Lx.same s11), ws8, s11 _ _ (s9 _ _ hD8), ?_⟩
          rw [tk1, List.filter_append]
          have e2 : [b].filter (q y) = [] := by simp [hq]
          rw [e2, List.append_nil]
          exact (hws8.same s9).same s11
        | true =>
          refine iteT ?_
          refine he3 hq _ H11 w11 (Ex.same s11) _ fun v H12 w12 s12 hv => ?_
          have s912 : Same H10 H12 := s11.trans s12
          have lu : Lx (adM M1 D) (adM M1 D) H12 (L2.upd H12 D (.lst (ws8 ++ [v]))) := Lx.upd (.inr rfl)
          have e2 : (((ys y).take (j + 1)).filter (q y)).map (fd y) = (((ys y).take j).filter (q y)).map (fd y) ++ [fd y b] := by
            rw [tk1, List.filter_append, List.map_append]
            simp [hq]
          have ln : (((xs.take i).filter p).flatMap F ++ (((ys y).take j).filter (q y)).map (fd y)).length < sizeLine := by
            have : (((ys y).take (j + 1)).filter (q y)).length ≤ ((ys y).filter (q y)).length := by
              have e : (ys y).filter (q y) = ((ys y).take (j + 1)).filter (q y) ++ ((ys y).drop (j + 1)).filter (q y) := by rw [← List.filter_append, List.take_append_drop]
              rw [e, List.length_append]
              omega
            have e3 := congrArg List.length e2
            rw [List.length_append, List.length_map, List.length_map] at e3
            have e4 : (F y).length = ((ys y).filter (q y)).length := by rw [eF]; simp
            rw [List.length_append, List.length_map]
            rw [List.length_append, e4] at pi
            simp only [List.length_cons, List.length_nil] at e3
            omega
          refine ⟨ws8, s912 _ _ (s9 _ _ hD8), by rw [hws8.len, List.length_map]; exact ln, w12.upd, ⟨fun r o h => ?_, s8.u, s8.n⟩, ((l8.trans (Lx.same s9)).trans (Lx.same s912)).trans lu, ((k8.trans (Lx.same s9)).trans (Lx.same s912)).trans lu, ws8 ++ [v], upd_same, ?_⟩
          · rw [upd_ne (ne_of_none h nD)]
            exact s912 _ _ (s9 _ _ (s8.s _ _ h))
          · rw [e2, ← List.append_assoc, List.map_append]
            exact (rDs.mono lu _ _ ((hws8.same s9).same s912)).append (rDs.one (rD.mono lu _ _ hv))
      · rintro H8 ⟨w8, s8, l8, k8, ws8, hD8, hws8⟩
        refine ⟨w8, s8, ws8, hD8, ?_⟩
        rw [List.length_map, List.take_length] at hws8
        rw [eF]
        rw [eF] at hws8
        exact hws8
  · rintro H3 ⟨w3, s3, ws, hD, hws⟩
    rw [List.length_map, List.take_length] at hws
    refine k D H3 ws (fun q hq => w3 q (.inl hq)) (s2.trans s3.s) (sm_none s2 nD) hD ?_
    rw [← eF]
    exact hws
theorem evm_lc2f {α β γ : Type} {xs : List α} {en : α → D} {ys : α → List β} {en1 : β → D} {q : α → β → Bool} {fd : α → β → γ} {en2 : γ → D} {g g1 : TG} {vs vs1 : List Nat}
    (hi : EVI K M σ H wi G (xs.map en)) (hG : ∀ {M M' : Addr → Prop} {H H' : Hp}, Ex M M' H H' → G M H H') (hg : GMono g) (hg1 : GMono g1)
    (hz : ((xs.flatMap fun x => ((ys x).filter (q x)).map (fd x))).length ≤ sizeLine)
    (hb : ∀ x ∈ xs, ∀ M' H' v, Wd M' H' → Ex M M' H H' → rD K (Fx M' H') (en x) v → g v (wipe σ vs) H' fun σ2 H2 => H2 = H' ∧ wipe σ2 vs = wipe σ vs ∧ ∀ M2 H3, Wd M2 H3 → Ex M M2 H H3 → Lx M' M2 H' H3 →
      EVI K M2 σ2 H3 wi1 GI ((ys x).map en1) ∧
      ∀ y ∈ ys x, ∀ u, rD K (Fx M2 H3) (en1 y) u → g1 u (wipe σ2 vs1) H3 fun σ3 H4 => H4 = H3 ∧ wipe σ3 vs1 = wipe σ2 vs1 ∧ EVT M2 σ3 H3 tt1 (q x y) ∧ (q x y = true → EV K M2 σ3 H3 t (.im (en2 (fd x y))))) :
    EVM K M σ H (tLc2 wi g tYes wi1 g1 tt1 t vs vs1) ((xs.flatMap fun x => ((ys x).filter (q x)).map (fd x)).map en2) := by
  have := evm_lc2 (p := fun _ => true) (q := q) (fd := fd) (en2 := en2) (ys := ys) (tt := tYes) (t := t) (tt1 := tt1) hi hG hg hg1 (by rw [filt_true]; exact hz) fun x hx M' H' v w' s' hv =>
    hg _ _ _ _ _ (fun σ2 H2 z => ⟨z.1, z.2.1, fun M2 H3 w3 s3 l3 => ⟨evt_yes, fun _ => z.2.2 M2 H3 w3 s3 l3⟩⟩) (hb x hx M' H' v w' s' hv)
  rw [filt_true] at this
  exact this
theorem evm_lc2m {α β γ : Type} {xs : List α} {en : α → D} {ys : α → List β} {en1 : β → D} {fd : α → β → γ} {en2 : γ → D} {g g1 : TG} {vs vs1 : List Nat}
    (hi : EVI K M σ H wi G (xs.map en)) (hG : ∀ {M M' : Addr → Prop} {H H' : Hp}, Ex M M' H H' → G M H H') (hg : GMono g) (hg1 : GMono g1)
    (hz : ((xs.flatMap fun x => (ys x).map (fd x))).length ≤ sizeLine)
    (hb : ∀ x ∈ xs, ∀ M' H' v, Wd M' H' → Ex M M' H H' → rD K (Fx M' H') (en x) v → g v (wipe σ vs) H' fun σ2 H2 => H2 = H' ∧ wipe σ2 vs = wipe σ vs ∧ ∀ M2 H3, Wd M2 H3 → Ex M M2 H H3 → Lx M' M2 H' H3 →
      EVI K M2 σ2 H3 wi1 GI ((ys x).map en1) ∧
      ∀ y ∈ ys x, ∀ u, rD K (Fx M2 H3) (en1 y) u → g1 u (wipe σ2 vs1) H3 fun σ3 H4 => H4 = H3 ∧ wipe σ3 vs1 = wipe σ2 vs1 ∧ EV K M2 σ3 H3 t (.im (en2 (fd x y)))) :
    EVM K M σ H (tLc2 wi g tYes wi1 g1 tYes t vs vs1) ((xs.flatMap fun x => (ys x).map (fd x)).map en2) := by
  have := evm_lc2f (q := fun _ _ => true) (fd := fd) (en2 := en2) (ys := ys) (t := t) (tt1 := tYes) hi hG hg hg1 (by simp only [filt_true]; exact hz) fun x hx M' H' v w' s' hv =>
    hg _ _ _ _ _ (fun σ2 H2 z => ⟨z.1, z.2.1, fun M2 H3 w3 s3 l3 => ⟨(z.2.2 M2 H3 w3 s3 l3).1, fun y hy u hu => hg1 _ _ _ _ _ (fun σ3 H4 z => ⟨z.1, z.2.1, evt_yes, fun _ => z.2.2⟩) ((z.2.2 M2 H3 w3 s3 l3).2 y hy u hu)⟩⟩) (hb x hx M' H' v w' s' hv)
  simp only [filt_true] at this
  exact this
/-- L.extend(xs), L.clear() -/
theorem x_extend {M0 : Addr → Prop} {Ls : List Addr} {L : Addr} {Q : VK} {x : V} {v : V} (h : rV K (mxM M0 Ls) H (.mu L ds) v) (hl : LsOf d es) (hx : rV K (mxM M0 Ls) H d x) (hL : L ∈ Ls) (hz : ds.length + es.length ≤ sizeLine)
    (k : ∀ H2, (∃ vs, H2 = L2.upd H L (.lst vs)) → rV K (mxM M0 Ls) H2 (.mu L (ds ++ es)) v → Q .non H2) : rExtend v [x] H Q := by
  obtain ⟨rfl, vs, h2, h3⟩ := h
  obtain ⟨b, ws, rfl, f2, f3⟩ := hl.get hx
  refine ⟨L, b, vs, ws, rfl, rfl, h2, f2, by rw [h3.len, f3.len]; exact hz, k _ ⟨_, rfl⟩ ⟨rfl, _, upd_same, ?_⟩⟩
  exact (rDs.mono (Gd.lx_upd hL) _ _ h3).append (rDs.mono (Gd.lx_upd hL) _ _ f3)
theorem x_bm0 {r : V → List V → Hp → VK → Prop} {Q : VK} (ha : EV K M σ H ta d) (hl : LsOf d ds) (w : Wd M H) (k : ∀ v H2, Wd M H2 → Same H H2 → rV K M H2 d v → r v [] H2 Q) : tBM0 K "list" r ta σ H Q := ha.go w fun v H2 w2 s2 hv => by
  obtain ⟨a, vs, rfl, h2, h3⟩ := hl.get hv
  exact ⟨.inl ⟨rfl, _, SqL.of h2⟩, k _ H2 w2 s2 hv⟩
theorem x_clear {M0 : Addr → Prop} {Ls : List Addr} {L : Addr} {Q : VK} {v : V} (h : rV K (mxM M0 Ls) H (.mu L ds) v)
    (k : ∀ H2, (∃ vs, H2 = L2.upd H L (.lst vs)) → rV K (mxM M0 Ls) H2 (.mu L []) v → Q .non H2) : rClear v [] H Q := by
  obtain ⟨rfl, vs, h2, h3⟩ := h
  exact ⟨L, vs, rfl, rfl, h2, k _ ⟨_, rfl⟩ ⟨rfl, _, upd_same, rfl⟩⟩
/-- any data -/
def eA (d : D) : D := d
def isiD (d : D) (b : String) : Bool := match tyD d with
  | some a => (kitB a b).getD false
  | none => false
def isiC (d : D) (b : String) : Prop := ∃ a, tyD d = some a ∧ (kitB a b).isSome = true
theorem cd_isiD {x : D} {b : String} (h : isiC x b) : CaD K (rIsi K) [.im (eA x), .im (.ty b)] (.im (.bl (isiD x b))) := by
  obtain ⟨a, e, z⟩ := h
  obtain ⟨r, er⟩ := Option.isSome_iff_exists.mp z
  have : isiD x b = r := by unfold isiD; rw [e]; show (kitB a b).getD false = r; rw [er]; rfl
  rw [this]
  exact cd_isi e er
/-- own lists in a list -/
theorem ev_ixN {i : Int} {q : Addr} {qs : List Addr} (ha : EV K M σ H ta (.im (.lst (qs.map D.rf)))) (hi : L2.atI (qs.map V.ref) i = some (.ref q)) (hq : rV K M H (.mu q ds) (.ref q)) : EV K M σ H (tOp (rIxL K) ta (tC (.int i))) (.mu q ds) := fun M' H1 w s Q k =>
  ha M' H1 w s _ fun x H2 w2 s2 hx => by
    obtain ⟨a, vs, rfl, h2, h3⟩ := hx
    have e : vs = qs.map V.ref := by
      clear h2 hi ha
      induction qs generalizing vs with
      | nil => exact h3
      | cons z zs ih =>
        obtain ⟨v, ws, rfl, e2, e3⟩ := h3
        rw [ih ws e3, List.map_cons, show v = .ref z from e2]
    subst e
    refine ⟨a, _, i, .ref q, rfl, rfl, SqL.of h2.1, hi, k _ H2 w2 s2 ?_⟩
    exact rV.same s2 (rV.ex s hq)
theorem rDs.of_ints {R : RH} : ∀ xs : List Int, rDs K R (xs.map D.int) (xs.map V.int)
  | [] => rfl
  | x :: xs => ⟨_, _, rfl, rfl, rDs.of_ints xs⟩
end
section
variable {M0 : Addr → Prop} {Ls Y : List Addr} {H0 H H1 H3 : Hp} {K : PySem.W.Frag} {p r q0 q1 q2 : Addr}
theorem ad_mx (q : Addr) (o : HO) (z : Fx (adM (mxM M0 Ls) p) H3 q o) : Fx (adM M0 p) H3 q o := ⟨z.1, fun y => z.2 (y.elim (fun y => .inl (.inl y)) .inr)⟩
theorem Gd.ex_new3 (s : Same H H1) (n0 : H q0 = none) (n1 : H q1 = none) (n2 : H q2 = none) : Ex (mxM M0 Ls) (mxM M0 (q0 :: q1 :: q2 :: Ls)) H H1 := ⟨s, fun q h => h.elim .inl fun h => .inr (List.mem_cons_of_mem _ (List.mem_cons_of_mem _ (List.mem_cons_of_mem _ h))), fun q h => by
  rcases h with h | h
  · exact .inl (.inl h)
  · simp only [List.mem_cons] at h
    rcases h with rfl | rfl | rfl | h
    · exact .inr n0
    · exact .inr n1
    · exact .inr n2
    · exact .inl (.inr h)⟩
theorem Gd.free0 (g : Gd M0 Ls Y H0 H) {q : Addr} (n : H q = none) : H0 q = none := by
  cases e : H0 q with
  | none => rfl
  | some u =>
    by_cases hy : q ∈ Y
    · exact absurd n (g.wd q (.inl (g.ys q hy)))
    · rw [g.bu q u e hy] at n; cases n
theorem Gd.new3 {o0 o1 o2 : HO} (g : Gd M0 Ls Y H0 H) (s : Same H H1) (n0 : H q0 = none) (n1 : H q1 = none) (n2 : H q2 = none) (nd : [q0, q1, q2, r].Nodup) (h0 : H1 q0 = some o0) (h1 : H1 q1 = some o1) (h2 : H1 q2 = some o2) : Gd M0 (q0 :: q1 :: q2 :: Ls) Y H0 H1 := by
  have a0 : ∀ {q : Addr}, H q = none → q ∉ Ls := fun n m => g.wd _ (.inr m) n
  refine ⟨fun q hq => ?_, g.bu.trans (Bu.same s), fun q hq => ?_, ?_, g.w0, g.ys⟩
  · rcases hq with hq | hq
    · exact (g.wd.same s) q (.inl hq)
    · simp only [List.mem_cons] at hq
      rcases hq with rfl | rfl | rfl | hq
      · rw [h0]; exact fun z => nomatch z
      · rw [h1]; exact fun z => nomatch z
      · rw [h2]; exact fun z => nomatch z
      · exact (g.wd.same s) q (.inr hq)
  · simp only [List.mem_cons] at hq
    rcases hq with rfl | rfl | rfl | hq
    · exact g.free0 n0
    · exact g.free0 n1
    · exact g.free0 n2
    · exact g.nw q hq
  · simp only [List.nodup_cons, List.mem_cons, List.not_mem_nil, or_false, not_or] at nd ⊢
    exact ⟨⟨nd.1.1, nd.1.2.1, a0 n0⟩, ⟨nd.2.1.1, a0 n1⟩, a0 n2, g.nd⟩
theorem n3_at (g : Gd M0 Ls Y H0 H) (nr : H r = none) (nd : [q0, q1, q2, r].Nodup) (hr : H1 r = some (.lst [.ref q0, .ref q1, .ref q2])) : rV K (mxM M0 (q0 :: q1 :: q2 :: Ls)) H1 (.im (.lst [D.rf q0, D.rf q1, D.rf q2])) (.ref r) := by
  refine ⟨r, _, rfl, ⟨hr, fun m => ?_⟩, _, _, rfl, rfl, _, _, rfl, rfl, _, _, rfl, rfl, rfl⟩
  simp only [List.nodup_cons, List.mem_cons, List.not_mem_nil, or_false, not_or] at nd
  rcases m with m | m
  · exact g.wd r (.inl m) nr
  · simp only [List.mem_cons] at m
    rcases m with rfl | rfl | rfl | m
    · exact nd.1.2.2 rfl
    · exact nd.2.1.2 rfl
    · exact nd.2.2.1 rfl
    · exact g.wd r (.inr m) nr
theorem n3_low {M : Addr → Prop} {Ls2 : List Addr} {v : V} {d0 d1 d2 : List D} (hr : rV K M H (.im (.lst [D.rf q0, D.rf q1, D.rf q2])) v) (n0 : ∀ q ∈ [q0, q1, q2], ¬ M0 q) (nl : ∀ q ∈ [q0, q1, q2], q ∉ Ls2) (h0 : rV K M H (.mu q0 d0) (.ref q0)) (h1 : rV K M H (.mu q1 d1) (.ref q1)) (h2 : rV K M H (.mu q2 d2) (.ref q2)) (l : Lx M (mxM M0 Ls2) H H) : rV K (mxM M0 Ls2) H (.im (.lst [.lst d0, .lst d1, .lst d2])) v := by
  obtain ⟨a, vs, rfl, h, v0, _, rfl, rfl, v1, _, rfl, rfl, v2, _, rfl, rfl, rfl⟩ := hr
  obtain ⟨_, w0, e0, f0⟩ := h0
  obtain ⟨_, w1, e1, f1⟩ := h1
  obtain ⟨_, w2, e2, f2⟩ := h2
  have no : ∀ q ∈ [q0, q1, q2], ¬ mxM M0 Ls2 q := fun q hq m => m.elim (n0 q hq) (nl q hq)
  exact ⟨a, _, rfl, l _ _ h, _, _, rfl, ⟨_, _, rfl, ⟨e0, no _ (by simp)⟩, rDs.mono l _ _ f0⟩, _, _, rfl, ⟨_, _, rfl, ⟨e1, no _ (by simp)⟩, rDs.mono l _ _ f1⟩, _, _, rfl, ⟨_, _, rfl, ⟨e2, no _ (by simp)⟩, rDs.mono l _ _ f2⟩, rfl⟩
theorem n3_end {c0 c2 : List Str} {c1 : List Int} {H9 : Hp} (g : Gd M0 [q2, q1, q0] Y H0 H) (eY : Y = []) (h0 : rV K (mxM M0 [q2, q1, q0]) H (.mu q0 (c0.map D.str)) (.ref q0)) (h1 : rV K (mxM M0 [q2, q1, q0]) H (.mu q1 (c1.map D.int)) (.ref q1)) (h2 : rV K (mxM M0 [q2, q1, q0]) H (.mu q2 (c2.map D.str)) (.ref q2)) (nr : H r = none) (s : Same H H9) :
    Wd M0 H9 ∧ Same H0 H9 ∧ H0 r = none ∧ H0 q0 = none ∧ H0 q1 = none ∧ H0 q2 = none ∧ [q0, q1, q2, r].Nodup ∧ H9 q0 = some (.lst (c0.map V.str)) ∧ H9 q1 = some (.lst (c1.map V.int)) ∧ H9 q2 = some (.lst (c2.map V.str)) := by
  obtain ⟨_, w0, e0, f0⟩ := h0
  obtain ⟨_, w1, e1, f1⟩ := h1
  obtain ⟨_, w2, e2, f2⟩ := h2
  cases f0.strs
  cases f1.ints
  cases f2.strs
  have nd := g.nd
  have ne : ∀ {q : Addr} {o : HO}, H q = some o → q ≠ r := fun h e => by rw [e, nr] at h; cases h
  refine ⟨g.w_end.same s, (Bu.nil g.bu eY).trans s, g.free0 nr, g.nw _ (by simp), g.nw _ (by simp), g.nw _ (by simp), ?_, s _ _ e0, s _ _ e1, s _ _ e2⟩
  simp only [List.nodup_cons, List.mem_cons, List.not_mem_nil, or_false, not_or] at nd ⊢
  exact ⟨⟨fun h => nd.2.1 h.symm, fun h => nd.1.2 h.symm, ne e0⟩, ⟨fun h => nd.1.1 h.symm, ne e1⟩, ne e2, not_false, List.nodup_nil⟩
theorem raw0 {P : Program} {w : World} {mg : Str → Option Value} {base : Heap} {CX : CXT} {k : Nat} {g : Addr} {sp : Sp} (h : FnR P w K mg base CX k g (fun vs H Q E => sp (vs ++ []) H Q E)) : FnR P w K mg base CX k g sp := by
  have e : (fun vs H Q E => sp (vs ++ []) H Q E) = sp := by
    funext vs H Q E
    rw [List.append_nil]
  rw [e] at h
  exact h
end
end Lf

set_option Elab.async false
set_option linter.all false
set_option maxRecDepth 100000
set_option maxHeartbeats 4000000
/-! Any data; own == and != by data; walks of values; tests with effects. -/
namespace Lf
open PySem PySem.Spec PyProof.Rows L2
def isS : D → Bool
  | .str _ => true
  | _ => false
def strOf : D → Str
  | .str s => s
  | _ => Str.ofString ""
section
variable {K : PySem.W.Frag} {M : Addr → Prop} {σ : L2.St} {H H' : Hp} {t ta tb te : TE} {tt tu : TT} {d e f : DV} {R : It → Hp → Prop} {es ds : List D}
theorem ev_getS {x : D} (h : EV K M σ H t (.im (eA x))) (c : isS x = true) : EV K M σ H t (.im (.str (strOf x))) := by
  cases x with
  | str s => exact h
  | _ => exact absurd c (fun z => nomatch (show false = true from z))
def rStrS : List V → Hp → VK → Prop := fun xs H Q => ∃ a, xs = [.str a] ∧ Q (.str a) H
theorem cd_strS {x : Str} : CaD K rStrS [.im (.str x)] (.im (.str x)) := fun M H w xs hx Q k => by
  cases hx with
  | cons h1 h2 =>
    cases h2
    cases (show _ = V.str x from h1)
    exact ⟨x, rfl, k _ H w (Same.refl _) rfl⟩
/-! own == and != -/
def TyQ (K : PySem.W.Frag) (C : Addr) (y : D) : Prop := ∀ M H v, rD K (Fx M H) y v → ∃ t, TyX K H v t ∧ PySem.W.notFirst K C t = true
theorem tyq_of {C : Addr} {y : D} (e : (tyD y).isSome = true) : TyQ K C y := fun M H v h => by
  obtain ⟨a, ea⟩ := Option.isSome_iff_exists.mp e
  refine ⟨_, tyX_of h ea, nf_ty ?_⟩
  cases y with
  | non => cases (Option.some.inj ea); exact mro_none
  | bl b => cases (Option.some.inj ea); exact mro_bool
  | int b => cases (Option.some.inj ea); exact mro_int
  | str b => cases (Option.some.inj ea); exact mro_str
  | lst b => cases (Option.some.inj ea); exact mro_list
  | tup b => cases (Option.some.inj ea); exact mro_tuple
  | ob _ _ _ => exact absurd ea (by unfold tyD; exact fun z => nomatch z)
  | dk _ _ => exact absurd ea (by unfold tyD; exact fun z => nomatch z)
  | rf _ => exact absurd ea (by unfold tyD; exact fun z => nomatch z)
  | ty _ => exact absurd ea (by unfold tyD; exact fun z => nomatch z)
theorem tyq_ob {C : Addr} {ns : List Str} {xs : List D} (ct : ClsT K C) : TyQ K C (.ob C ns xs) := fun M H v h => by
  obtain ⟨a, dx, fs, rfl, h2, _⟩ := h
  exact ⟨_, ct.ty h2.1, nf_own⟩
theorem od_ownEq {C : Addr} {ns : List Str} {xs : List D} {sp : Sp} {E : XK} {y : D} {b : Bool} (ho : CaD K (fun vs H Q => sp vs H Q E) [.im (.ob C ns xs), .im y] (.im (.bl b))) (ht : TyQ K C y) : OpD K (rOwnEq K C sp E) (.im (.ob C ns xs)) (.im y) (.im (.bl b)) := fun M H w u v hu hv Q k => by
  obtain ⟨a, dx, fs, rfl, h2, h3, h4⟩ := id hu
  obtain ⟨t, t1, t2⟩ := ht M H v hv
  exact ⟨a, dx, fs, t, rfl, h2.1, t1, t2, ho M H w _ (.cons hu (.cons hv .nil)) _ k⟩
theorem od_ownNe {C : Addr} {ns : List Str} {xs : List D} {sp : Sp} {E : XK} {y : D} {b : Bool} (ho : CaD K (fun vs H Q => sp vs H Q E) [.im (.ob C ns xs), .im y] (.im (.bl b))) (ht : TyQ K C y) : OpD K (rOwnNe K C sp E) (.im (.ob C ns xs)) (.im y) (.im (.bl (!b))) := fun M H w u v hu hv Q k => by
  obtain ⟨a, dx, fs, rfl, h2, h3, h4⟩ := id hu
  obtain ⟨t, t1, t2⟩ := ht M H v hv
  exact ⟨a, dx, fs, t, rfl, h2.1, t1, t2, ho M H w _ (.cons hu (.cons hv .nil)) _ fun z H2 w2 s2 hz => ⟨b, hz, k _ H2 w2 s2 rfl⟩⟩
/-! walks of a value -/
def IL (K : PySem.W.Frag) (R : It → Hp → Prop) (x : V) (H1 : Hp) : Prop := ∃ a, x = .ref a ∧ (∃ xs, SqL K H1 a xs) ∧ R (Itl K a) H1
theorem x_ilist (h : te σ H fun v H1 => IL K R v H1) : iList K te σ H R := h
theorem il_go {α : Type} {en : α → D} {xs : List α} {v : V} (hv : rV K M H (.im (.lst (xs.map en))) v) (k : ∀ J, Walk J xs.length (GI M H) (YD K M H (xs.map en)) → R J H) : IL K R v H := by
  obtain ⟨a, vs, rfl, h2, h3⟩ := hv
  refine ⟨a, rfl, ⟨_, SqL.of h2.1⟩, k _ ?_⟩
  rw [show xs.length = vs.length by rw [h3.len, List.length_map]]
  refine walk_list.mono (fun H' g => SqL.of (g.choose_spec _ _ h2).1) fun i H' x H'' hi g y => ?_
  obtain ⟨e1, e2⟩ := y
  obtain ⟨d, hd, hr⟩ := h3.get e2
  rw [e1]
  exact ⟨Same.refl _, d, hd, fun M2 _ l => rD.mono l d x hr⟩
/-! tests with effects -/
theorem x_not {Q : Bool → Hp → Prop} (h : tt σ H fun c H1 => Q (!c) H1) : tNot tt σ H Q := h
theorem x_b {Q : Bool → Hp → Prop} (h : te σ H fun x H1 => ∃ c, x = .bl c ∧ Q c H1) : tB te σ H Q := h
theorem x_or {Q : Bool → Hp → Prop} (h : tt σ H fun c H1 => if c = true then Q true H1 else tu σ H1 Q) : tOr tt tu σ H Q := h
end
theorem st_norm {u : TS} {D : Ends} {σ σ' : L2.St} {H : Hp} (e : σ = σ') (h : u D σ' H) : u D σ H := by rw [e]; exact h
theorem st_par3 {i j l : Nat} {tA : TA} {u : TS} {D : Ends} {σ : L2.St} {H : Hp} (h : tA σ H fun vs H1 => ∃ a b c, vs = [a, b, c] ∧ u D (((σ.set i (some a)).set j (some b)).set l (some c)) H1) : tSeq (tPar3 i j l tA) u D σ H := h
/-! a list by a condition -/
section
variable {K : PySem.W.Frag} {M : Addr → Prop} {σ : L2.St} {H : Hp} {ta tb : TE} {tt : TT} {b : Bool}
theorem evn_if {α : Type} {en : α → D} {x y : List α} (hc : EVT M σ H tt b) (h1 : b = true → EVN K M σ H ta (x.map en)) (h2 : b = false → EVN K M σ H tb (y.map en)) : EVN K M σ H (tIf tt ta tb) ((if b = true then x else y).map en) := fun H1 w s Q k => hc M H1 w (Ex.same s) _ fun H2 w2 s2 => by
  cases b with
  | true => exact h1 rfl H2 w2 (s.trans s2) _ fun p H3 H4 w3 s3 => k p H3 H4 w3 (s2.trans s3)
  | false => exact h2 rfl H2 w2 (s.trans s2) _ fun p H3 H4 w3 s3 => k p H3 H4 w3 (s2.trans s3)
end
end Lf

set_option Elab.async false
set_option linter.all false
set_option maxRecDepth 100000
set_option maxHeartbeats 4000000
/-! sorted, < and index of data at any depth. -/
namespace Lf
open PySem PySem.Spec PyProof.Rows L2 PySem.W
theorem each_len {α β : Type} {R : α → β → Prop} : ∀ {as : List α} {bs : List β}, EachIs R as bs → as.length = bs.length
  | _, _, .nil => rfl
  | _, _, .cons _ h => congrArg Nat.succ (each_len h)
theorem each_vals {ds : List PyData} : ∀ {vs : List V} {us : List Value}, Vals vs us → ∀ {ds : List PyData}, vs.length = ds.length → EachIs (fun u (b : V × PyData) => RelV b.1 u) us (vs.zip ds)
  | _, _, .nil, ds, _ => by rw [List.zip_nil_left]; exact .nil
  | _, _, .cons r h, [], e => by cases e
  | _, _, .cons r h, d :: ds, e => .cons r (each_vals (ds := ds) h (Nat.succ.inj e))
theorem vals_each : ∀ {bs : List (V × PyData)} {us : List Value}, EachIs (fun u (b : V × PyData) => RelV b.1 u) us bs → Vals (bs.map Prod.fst) us
  | _, _, .nil => .nil
  | _, _, .cons r h => .cons r (vals_each h)
theorem DpAll.len {K : PySem.W.Frag} {H : Hp} : ∀ {vs : List V} {ds : List PyData}, DpAll K H vs ds → vs.length = ds.length
  | _, _, .nil => rfl
  | _, _, .cons _ h => congrArg Nat.succ (DpAll.len h)
theorem each_dp {X : Cx} {pins : List (Addr × Obj)} {σ : L2.St} {H : Hp} {s : Shared} (I : Inv X pins σ H s) : ∀ {vs : List V} {ds : List PyData} {us : List Value}, DpAll X.K H vs ds → Vals vs us → EachIs (fun u (b : V × PyData) => ∃ as, Reads s.heap u b.2 as) us (vs.zip ds)
  | _, _, _, .nil, .nil => .nil
  | _, _, _, .cons h1 h2, .cons r1 r2 => .cons (Dp.reads I _ _ _ h1 r1) (each_dp I h2 r2)
theorem zip_snd {K : PySem.W.Frag} {H : Hp} : ∀ {vs : List V} {ds : List PyData}, DpAll K H vs ds → (vs.zip ds).map Prod.snd = ds
  | _, _, .nil => rfl
  | _, _, .cons _ h => by rw [List.zip_cons_cons, List.map_cons, zip_snd h]
def rSortedD (K : PySem.W.Frag) : List V → Hp → VK → Prop := fun xs H Q => ∃ (a : Addr) (vs : List V) (ds : List PyData), xs = [V.ref a] ∧ SqL K H a vs ∧ DpAll K H vs ds ∧ AllAlike ds ∧ Sortable ds ∧ (∀ d ∈ ds, d.depth ≤ 61) ∧
  ∀ p H', H p = none → Same H H' → H' p = some (.lst (((vs.zip ds).mergeSort (dataLe false Prod.snd)).map Prod.fst)) → Q (.ref p) H'
theorem cr_sortedD {X : Cx} (hu : X.A.units + 65 < cLine) : CallR X (.builtin "sorted") (rSortedD X.K) := by
  intro pins s σ H xs us Q I r h
  obtain ⟨a, vs, ds, rfl, hs, hd, hal, hk, hdep, q⟩ := h
  obtain ⟨its, rv, hl, hz⟩ := I.list hs
  obtain ⟨u, rfl, ru⟩ := vals1 r
  obtain rfl : u = Value.ref a := ru
  have ln := DpAll.len hd
  have lz : (vs.zip ds).length = vs.length := by rw [List.length_zip, ln, Nat.min_self]
  refine sorted_data (enc := Prod.snd) (R := fun u (b : V × PyData) => RelV b.1 u) (bs := vs.zip ds) hl.isList (each_vals (ds := ds) rv ln) (each_dp I hd rv) (by rw [zip_snd hd]; exact hal) (by rw [zip_snd hd]; exact hk) (by rw [lz]; exact hz) (fun b hb => ?_) fun out ho he => ?_
  · have : b.2 ∈ ds := by rw [← zip_snd hd]; exact List.mem_map.mpr ⟨b, hb, rfl⟩
    have := hdep _ this
    omega
  · have vb := vals_each he
    have nd : H (s.heap.objs.size + 1) = none := I.hok.fresh (Nat.le_succ _)
    obtain ⟨n, hn⟩ := sortedAll_at s.heap its out.toArray
    refine ⟨.ref (s.heap.objs.size + 1), upd H (s.heap.objs.size + 1) (.lst (((vs.zip ds).mergeSort (dataLe false Prod.snd)).map Prod.fst)), I.laid (t' := s.toks) (fun b o e => sortedAll_old e) (Nat.le_succ _) ⟨?_, out, n, vb, hn⟩, rfl, q _ _ nd (Same.new nd) upd_same⟩
    rw [List.length_map, List.length_mergeSort, lz]
    exact hz
/-! x < y -/
def rLtD (K : PySem.W.Frag) : R2 := fun x y H Q => ∃ d e, Dp K H x d ∧ Dp K H y e ∧ alike d e = true ∧ d ≠ .none ∧ d.depth ≤ 61 ∧ Q (.bl (dataLt d e)) H
theorem op_ltD {X : Cx} (hu : X.A.units + 65 < cLine) : OpR X (compareOp .Lt) (rLtD X.K) := by
  intro pins s σ H x y v u Q I rx ry h
  obtain ⟨d, e, hd, he, ha, hn, hdep, q⟩ := h
  obtain ⟨as, r1⟩ := Dp.reads I d x v hd rx
  obtain ⟨bs, r2⟩ := Dp.reads I e y u he ry
  exact lt_data r1 r2 ha hn (by omega) ⟨.bl _, H, I, rfl, q⟩
end Lf

set_option Elab.async false
set_option linter.all false
set_option maxRecDepth 100000
set_option maxHeartbeats 4000000
/-! list(zip(a list, a list)). -/
namespace Lf
open PySem PySem.Spec PyProof.Rows L2
/-- a zip of two lists that stands at i; the tuple given out last is T -/
structure ZS (h : Heap) (H : Hp) (z TI TO i1 i2 a b : Addr) (i : Nat) : Prop where
  ti : IsPair h TI (.ref i1) (.ref i2)
  to : ∃ x y, IsPair h TO x y
  p1 : h.IsListIter i1 a i
  p2 : h.IsListIter i2 b i
  zz : IsZip h z TI TO .none ∨ ∃ T f xs, IsZipHeld h z TI TO T f ∧ H T = some (.tup xs)
theorem ZS.keep {h h' : Heap} {H H' : Hp} {z TI TO i1 i2 a b : Addr} {i : Nat} (Z : ZS h H z TI TO i1 i2 a b i) (k : ∀ c ∈ [z, TI, TO, i1, i2], ∀ o, h.get? c = some o → h'.get? c = some o) (l : ∀ T xs, H T = some (.tup xs) → H' T = some (.tup xs)) : ZS h' H' z TI TO i1 i2 a b i := by
  obtain ⟨t1, ⟨x, y, t2⟩, q1, q2, q3⟩ := Z
  refine ⟨k TI (by simp) _ t1, ⟨x, y, k TO (by simp) _ t2⟩, q1.at fun o e => k i1 (by simp) o e, q2.at fun o e => k i2 (by simp) o e, ?_⟩
  rcases q3 with q | ⟨T, f, xs, q, r⟩
  · exact .inl (k z (by simp) _ q)
  · exact .inr ⟨T, f, xs, k z (by simp) _ q, l _ _ r⟩
theorem zip_no_len : typeLookup (.type "zip") "__len__" = pure none := am_miss_of_fast (by decide +kernel)
theorem zip_no_hint : typeLookup (.type "zip") "__length_hint__" = pure none := am_miss_of_fast (by decide +kernel)
def PrsAt (H0 H : Hp) (xs ys vs : List V) : Prop := ∀ (j : Nat) (v : V), vs[j]? = some v → ∃ p x y, v = .ref p ∧ H0 p = none ∧ H p = some (.tup [x, y]) ∧ xs[j]? = some x ∧ ys[j]? = some y
section
variable {X : Cx} {pins : List (Addr × Obj)} {σ : L2.St} {z TI TO i1 i2 a b S : Addr} {xs ys : List V}
theorem lz_next {A : Around} {E : Value → Shared → Prop} {H : Hp} {s : Shared} {i : Nat} {x y : V} {Q : Option Value → Shared → Prop} (D : ZipApart z TI TO i1 i2 a b) (I : Inv X pins σ H s) (hf : ∀ c ∈ [z, TI, TO, i1, i2], FpOk X pins H c) (Z : ZS s.heap H z TI TO i1 i2 a b i)
    (hx : SqL X.K H a xs) (hy : SqL X.K H b ys) (ex : xs[i]? = some x) (ey : ys[i]? = some y)
    (hQ : ∀ T s', H T = none → Inv X pins σ (upd H T (.tup [x, y])) s' → (∀ c ∈ [z, TI, TO, i1, i2], FpOk X pins (upd H T (.tup [x, y])) c) → ZS s'.heap (upd H T (.tup [x, y])) z TI TO i1 i2 a b (i + 1) → Q (some (.ref T)) s') :
    wpAny (model X.prog X.w) A (pyNext (.ref z)) Q E s := by
  obtain ⟨t1, ⟨x0, y0, t2⟩, q1, q2, q3⟩ := Z
  obtain ⟨its, rv, p, _⟩ := I.list hx
  obtain ⟨its2, rv2, p2, _⟩ := I.list hy
  obtain ⟨u, hu, ru⟩ := rv.get ex
  obtain ⟨u2, hu2, ru2⟩ := rv2.get ey
  have nT : H s.heap.objs.size = none := I.hok.fresh (Nat.le_refl _)
  have low : ∀ c o, s.heap.get? c = some o → c ≠ s.heap.objs.size := fun c o e => Nat.ne_of_lt (Heap.lt_size e)
  have lowF : ∀ c ∈ [z, TI, TO, i1, i2], c ≠ s.heap.objs.size := fun c hc => by
    have e' : c = z ∨ c = TI ∨ c = TO ∨ c = i1 ∨ c = i2 := by simpa using hc
    rcases e' with q | q | q | q | q
    · rw [q]; rcases q3 with q | ⟨T, f, ws, q, _⟩ <;> exact low _ _ q
    · rw [q]; exact low _ _ t1
    · rw [q]; exact low _ _ t2
    · rw [q]; obtain ⟨_, e1, _⟩ := q1; exact low _ _ e1
    · rw [q]; obtain ⟨_, e1, _⟩ := q2; exact low _ _ e1
  have fin : ∀ h', IsPair h' s.heap.objs.size u u2 → (∀ c o, c ≠ z → c ≠ TO → c ≠ i1 → c ≠ i2 → s.heap.get? c = some o → h'.get? c = some o) →
      (IsPair h' TI (.ref i1) (.ref i2) → (∀ T ws, H T = some (.tup ws) → (upd H s.heap.objs.size (.tup [x, y])) T = some (.tup ws)) → ZS h' (upd H s.heap.objs.size (.tup [x, y])) z TI TO i1 i2 a b (i + 1)) → Q (some (.ref s.heap.objs.size)) { s with heap := h' } := fun h' hT hk hz => by
    have new : ObjOk X.prog X.w (upd H s.heap.objs.size (.tup [x, y])) h' s.heap.objs.size (.tup [x, y]) :=
      ⟨by show 2 ≤ sizeLine; decide, [u, u2], .cons ru (.cons ru2 .nil), ⟨_, hT, rfl, _, rfl⟩⟩
    have I1 : Inv X pins σ (upd H s.heap.objs.size (.tup [x, y])) { s with heap := h' } :=
      I.turnedNew (t' := s.toks) (ch := [z, TI, TO, i1, i2]) (fun c o hb q => hk c o (fun q' => hb (by simp [q'])) (fun q' => hb (by simp [q'])) (fun q' => hb (by simp [q'])) (fun q' => hb (by simp [q'])) q) hf (Nat.le_refl _) new
    refine hQ _ _ nT I1 (fun c hc => ?_) (hz (hk _ _ D.TIz D.TITO D.TIi1 D.TIi2 t1) fun T ws e => ?_)
    · refine ⟨?_, (hf c hc).2⟩
      rw [upd_ne (lowF c hc)]
      exact (hf c hc).1
    · rw [upd_ne (ne_of_none e nT)]; exact e
  rcases q3 with q | ⟨T, f, ws, q, rT⟩
  · refine nextZ_item (b1 := true) (b2 := true) D q t1 t2 q1 q2 (show SqB true s.heap a its.toArray from p.isList) (show SqB true s.heap b its2.toArray from p2.isList) (x := u) (y := u2) (by simpa using hu) (by simpa using hu2) fun h' z' TO' h1' h2' hT hsz hk => fin h' hT hk fun ti _ => ⟨ti, ⟨_, _, TO'⟩, h1', h2', .inr ⟨_, false, _, z', upd_same⟩⟩
  · obtain ⟨_, _, _, oT, eT, _⟩ := (show ObjOk X.prog X.w H s.heap T (.tup ws) from I.hok T _ rT)
    refine wpAny_pyNext_zip_item_held D q eT t1 q1 q2 p.isList p2.isList (x := u) (y := u2) (by simpa using hu) (by simpa using hu2) fun h' z' h1' h2' hT hsz hk => fin h' hT (fun c o c1 _ c3 c4 e => hk c o c1 c3 c4 e) fun ti l => ⟨ti, ⟨x0, y0, hk _ _ D.TOz D.TOi1 D.TOi2 t2⟩, h1', h2', .inr ⟨T, true, ws, z', l _ _ rT⟩⟩
theorem lz_end {A : Around} {E : Value → Shared → Prop} {H : Hp} {s : Shared} {i : Nat} {Q : Option Value → Shared → Prop} (hh : A.handled = none) (D : ZipApart z TI TO i1 i2 a b) (I : Inv X pins σ H s) (hf : ∀ c ∈ [z, TI, TO, i1, i2], FpOk X pins H c) (Z : ZS s.heap H z TI TO i1 i2 a b i)
    (hx : SqL X.K H a xs) (hy : SqL X.K H b ys) (he : xs.length ≤ i ∨ ys.length ≤ i) (hQ : ∀ s', Inv X pins σ H s' → Q none s') : wpAny (model X.prog X.w) A (pyNext (.ref z)) Q E s := by
  obtain ⟨t1, ⟨x0, y0, t2⟩, q1, q2, q3⟩ := Z
  obtain ⟨its, rv, p, _⟩ := I.list hx
  obtain ⟨its2, rv2, p2, _⟩ := I.list hy
  have l1 := rv.length
  have l2 := rv2.length
  have he : its.toArray[i]? = none ∨ its2.toArray[i]? = none := by
    rcases he with q | q
    · exact .inl (by simp; omega)
    · exact .inr (by simp; omega)
  have fin : ∀ h', (∀ c o, c ≠ z → c ≠ TO → c ≠ i1 → c ≠ i2 → s.heap.get? c = some o → h'.get? c = some o) → Q none { s with heap := h' } := fun h' hk =>
    hQ _ (I.turnedL (t' := s.toks) (ch := [z, TI, TO, i1, i2]) (fun c o hb q => hk c o (fun q' => hb (by simp [q'])) (fun q' => hb (by simp [q'])) (fun q' => hb (by simp [q'])) (fun q' => hb (by simp [q'])) q) hf)
  rcases q3 with q | ⟨T, f, ws, q, rT⟩
  · exact nextZ_end (b1 := true) (b2 := true) hh D q t1 t2 q1 q2 (show SqB true s.heap a its.toArray from p.isList) (show SqB true s.heap b its2.toArray from p2.isList) he fin
  · obtain ⟨_, _, _, oT, eT, _⟩ := (show ObjOk X.prog X.w H s.heap T (.tup ws) from I.hok T _ rT)
    exact wpAny_pyNext_zip_end_held hh D q eT t1 q1 q2 p.isList p2.isList he fun h' hk => fin h' fun c o c1 _ c3 c4 e => hk c o c1 c3 c4 e
/-- the loop that fills the list S -/
theorem lz_loop {A : Around} {res : Value} {R : Result → Shared → Prop} {H0 : Hp} (hh : A.handled = none) (D : ZipApart z TI TO i1 i2 a b) (h0 : H0 S = none) (hx : SqL X.K H0 a xs) (hy : SqL X.K H0 b ys) (hz : min xs.length ys.length ≤ sizeLine)
    (hR : ∀ s' H' vs, Inv X pins σ H' s' → Same H0 H' → H' S = some (.lst vs) → vs.length = min xs.length ys.length → PrsAt H0 H' xs ys vs → R (.ok (.ret res)) s') :
    ∀ (k i : Nat) (s : Shared) (H : Hp) (vs : List V), min xs.length ys.length - i = k → i ≤ min xs.length ys.length → Inv X pins σ H s → (∀ c ∈ [z, TI, TO, i1, i2], FpOk X pins H c) → ZS s.heap H z TI TO i1 i2 a b i →
      Same H0 H → H S = some (.lst vs) → vs.length = i → PrsAt H0 H xs ys vs → codeAny (model X.prog X.w) A (.builtin "list.extend.loop" ⟨[.ref S, .ref z, res], []⟩) R s := by
  intro k
  induction k with
  | zero =>
    intro i s H vs hk hi I hf Z sm hS hl hp
    refine codeAny_builtin F.entry_extend_loop ?_
    rw [Around.under_plainId F.plain_extend_loop _]
    show wpAny _ A.in1 (pyNext (.ref z) >>= _) _ _ s
    refine wpAny_bind (lz_end (A := A.in1) hh D I hf Z (sm.seq hx) (sm.seq hy) (by omega) fun s' I' => ?_)
    exact wpAny_pure (hR s' H vs I' sm hS (by omega) hp)
  | succ k ih =>
    intro i s H vs hk hi I hf Z sm hS hl hp
    have a1 : i < xs.length := by omega
    have a2 : i < ys.length := by omega
    refine codeAny_builtin F.entry_extend_loop ?_
    rw [Around.under_plainId F.plain_extend_loop _]
    show wpAny _ A.in1 (pyNext (.ref z) >>= _) _ _ s
    refine wpAny_bind (lz_next (A := A.in1) D I hf Z (sm.seq hx) (sm.seq hy) (List.getElem?_eq_getElem a1) (List.getElem?_eq_getElem a2) fun T s1 nT I1 hf1 Z1 => ?_)
    have hS1 : (upd H T (.tup [xs[i], ys[i]])) S = some (.lst vs) := by rw [upd_ne (ne_of_none hS nT)]; exact hS
    have sm1 : Same H0 (upd H T (.tup [xs[i], ys[i]])) := sm.trans (Same.new nT)
    have hp1 : PrsAt H0 (upd H T (.tup [xs[i], ys[i]])) xs ys vs := fun j v e => by
      obtain ⟨p, x, y, e1, e0, e2, e3⟩ := hp j v e
      exact ⟨p, x, y, e1, e0, Same.new nT _ _ e2, e3⟩
    have eT : (upd H T (.tup [xs[i], ys[i]])) T = some (.tup [xs[i], ys[i]]) := upd_same
    generalize upd H T (.tup [xs[i], ys[i]]) = H1 at I1 hf1 Z1 hS1 sm1 hp1 eT
    obtain ⟨_, its, c, rv, hO⟩ := (show ObjOk X.prog X.w H1 s1.heap S (.lst vs) from I1.hok S _ hS1)
    have li : its.length = i := by rw [← rv.length]; exact hl
    show wpAny _ A.in1 (updateSeq S (·.push (Value.ref T)) >>= _) _ _ _
    have nS : ∀ c ∈ [z, TI, TO, i1, i2], c ≠ S := fun c hc e => by
      have := (hf1 c hc).1
      rw [e, hS1] at this
      cases this
    refine wpAny_bind (wpAny_updateSeq hO rfl (wpAny_pure ⟨plainId_quiet F.plain_extend_loop _, ?_⟩) (by rw [List.size_toArray, li]; omega) (by show (its.toArray.push _).size ≤ sizeLine + 1; rw [Array.size_push, List.size_toArray, li]; omega))
    have oth : ∀ c o, c ≠ S → s1.heap.get? c = some o → (s1.heap.update S (Obj.mapSeq (·.push (Value.ref T)))).get? c = some o := fun c o hc e => (Heap.get?_update_other _ _ (Ne.symm hc)).trans e
    obtain ⟨c', hN⟩ : ∃ c', (s1.heap.update S (Obj.mapSeq (·.push (Value.ref T)))).get? S = some (seqObj "list" (its ++ [Value.ref T]).toArray c') := ⟨_, by rw [Heap.get?_update_self _ hO rfl, ← List.push_toArray]; rfl⟩
    have I2 : Inv X pins σ (upd H1 S (.lst (vs ++ [V.ref T]))) { s1 with heap := s1.heap.update S (Obj.mapSeq (·.push (Value.ref T))) } :=
      I1.write (e := S) (t' := s1.toks) (by rw [hS1]; trivial) (.inl rfl) oth ⟨_, hN⟩ ⟨by rw [List.length_append, List.length_singleton, hl]; omega, its ++ [Value.ref T], c', rv.append (.cons rfl .nil), hN⟩
    have n2 : ∀ p ws, H1 p = some (.tup ws) → (upd H1 S (.lst (vs ++ [V.ref T]))) p = some (.tup ws) := fun p ws e => by
      rw [upd_ne fun (q : p = S) => by rw [q, hS1] at e; cases e]; exact e
    refine ih (i + 1) _ (upd H1 S (.lst (vs ++ [V.ref T]))) (vs ++ [V.ref T]) (by omega) (by omega) I2 (fun c hc => ⟨?_, (hf1 c hc).2⟩) (Z1.keep (fun c hc o e => oth c o (nS c hc) e) n2) (fun c o e => ?_) upd_same (by rw [List.length_append, List.length_singleton, hl]) (fun j v e => ?_)
    · rw [upd_ne (nS c hc)]; exact (hf1 c hc).1
    · rw [upd_ne fun (q : c = S) => by rw [q, h0] at e; cases e]; exact sm1 c o e
    · by_cases hj : j < vs.length
      · rw [List.getElem?_append_left hj] at e
        obtain ⟨p, x, y, e1, e0, e2, e3⟩ := hp1 j v e
        exact ⟨p, x, y, e1, e0, n2 _ _ e2, e3⟩
      · rw [List.getElem?_append_right (by omega)] at e
        have ej : j = i := by
          have := (List.getElem?_eq_some_iff.mp e).choose
          simp at this
          omega
        subst ej
        rw [hl, Nat.sub_self] at e
        cases e
        exact ⟨T, xs[j], ys[j], rfl, sm.free nT, n2 _ _ eT, List.getElem?_eq_getElem a1, List.getElem?_eq_getElem a2⟩
end
section
variable {X : Cx} {pins : List (Addr × Obj)} {σ : L2.St} {z TI TO i1 i2 a b : Addr} {xs ys : List V}
theorem hint_zip {P : Program} {w : World} {A : Around} {E : Value → Shared → Prop} {s : Shared} {Q : Bool → Shared → Prop} (hT : s.TypeIs (.ref z) "zip") (h : Q true s) : wpAny (model P w) A (Builtin.List.listLengthHint (.ref z)) Q E s := by
  unfold Builtin.List.listLengthHint
  refine wpAny_bind (wpAny_specialOf hT zip_no_len ?_)
  show wpAny _ A (specialOf (Value.ref z) (Str.ofString "__length_hint__") >>= _) _ _ _
  refine wpAny_bind (wpAny_specialOf hT zip_no_hint ?_)
  exact wpAny_pure h
/-- list(a zip that stands at its start) -/
theorem lz_call {A : Around} {E : Value → Shared → Prop} {H : Hp} {s : Shared} {Q : Value → Shared → Prop} (hh : A.handled = none) (D : ZipApart z TI TO i1 i2 a b) (I : Inv X pins σ H s) (hf : ∀ c ∈ [z, TI, TO, i1, i2], FpOk X pins H c) (Z : ZS s.heap H z TI TO i1 i2 a b 0) (hzip : IsZip s.heap z TI TO .none)
    (hx : SqL X.K H a xs) (hy : SqL X.K H b ys) (hz : min xs.length ys.length ≤ sizeLine)
    (hQ : ∀ S s' H' vs, H S = none → Inv X pins σ H' s' → Same H H' → H' S = some (.lst vs) → vs.length = min xs.length ys.length → PrsAt H H' xs ys vs → Q (.ref S) s') :
    wpAny (model X.prog X.w) A (call (.type "list") [.ref z]) Q E s := by
  refine callType_codes (Q₁ := fun obj s₁ => obj = .ref s.heap.objs.size ∧ s₁ = { s with heap := s.heap.push { cls := .type "list", data := .seq #[] } }) PySem.F.called_list (PySem.F.typeCall_list_1 _) PySem.F.entry_list_init
    (code_list_new _ ⟨rfl, rfl⟩) fun obj s₁ h₁ => ?_
  obtain ⟨rfl, rfl⟩ := h₁
  obtain ⟨S, eS⟩ : ∃ S, s.heap.objs.size = S := ⟨_, rfl⟩
  have hS : (s.heap.push { cls := .type "list", data := .seq #[] }).get? S = some { cls := .type "list", data := .seq #[] } := by rw [← eS]; exact Heap.get?_push_size _ rfl
  rw [eS]
  have nS : H S = none := I.hok.fresh (Nat.le_of_eq eS)
  have low : ∀ c o, s.heap.get? c = some o → c ≠ S := fun c o e => by rw [← eS]; exact Nat.ne_of_lt (Heap.lt_size e)
  have lowF : ∀ c ∈ [z, TI, TO, i1, i2], c ≠ S := fun c hc => by
    obtain ⟨t1, ⟨x0, y0, t2⟩, q1, q2, q3⟩ := Z
    have e' : c = z ∨ c = TI ∨ c = TO ∨ c = i1 ∨ c = i2 := by simpa using hc
    rcases e' with q | q | q | q | q
    · rw [q]; exact low _ _ hzip
    · rw [q]; exact low _ _ t1
    · rw [q]; exact low _ _ t2
    · rw [q]; obtain ⟨_, e1, _⟩ := q1; exact low _ _ e1
    · rw [q]; obtain ⟨_, e1, _⟩ := q2; exact low _ _ e1
  refine ⟨⟨_, hS, rfl⟩, PySem.F.args_list_init_2 _ _, ?_⟩
  show wpAny _ _ (do let old ← Builtin.List.listItems (.ref S); Builtin.List.listUpdate (.ref S) (fun _ => #[]); letGo old.toList.reverse; Builtin.List.listExtendWith (.ref S) (.ref z) .none) _ _ _
  refine wpAny_bind ?_
  unfold Builtin.List.listItems
  refine wpAny_bind (wpAny_seqItems hS rfl (wpAny_pure ?_))
  show wpAny _ _ (updateSeq S (fun _ => #[]) >>= fun _ => letGo (#[] : Array Value).toList.reverse >>= fun _ => Builtin.List.listExtendWith (.ref S) (.ref z) .none) _ _ _
  refine wpAny_bind (wpAny_updateSeq hS rfl ?_)
  have hS1 := Heap.get?_update_self (Obj.mapSeq (fun _ => (#[] : Array Value))) hS rfl
  refine wpAny_bind (wpAny_letGo ?_)
  have k1 : ∀ c o, s.heap.get? c = some o → ((s.heap.push { cls := .type "list", data := .seq #[] }).update S (Obj.mapSeq (fun _ => (#[] : Array Value)))).get? c = some o :=
    fun c o e => (Heap.get?_update_other _ _ (Ne.symm (low c o e))).trans (Heap.get?_push_of_some _ e)
  unfold Builtin.List.listExtendWith
  have hT1 : Shared.TypeIs { s with heap := (s.heap.push { cls := .type "list", data := .seq #[] }).update S (Obj.mapSeq (fun _ => (#[] : Array Value))) } (.ref z) "zip" := ⟨_, k1 _ _ hzip, rfl⟩
  refine wpAny_bind (wpAny_typeOf hT1 ?_)
  have h1 : Builtin.List.listSameRef (.ref S) (.ref z) = false := by simp [Builtin.List.listSameRef, (lowF z (by simp)).symm]
  have h2 : (Value.type "zip" == Value.type "list") = false := by decide
  have h3 : (Value.type "zip" == Value.type "tuple") = false := by decide
  simp only [h1, h2, h3, Bool.or_false, Bool.false_eq_true, if_false]
  refine wpAny_bind (wpAny_pyIter_zip (k1 _ _ hzip) ?_)
  refine wpAny_bind (wpAny_holding (hint_zip hT1 ?_))
  simp only [Bool.true_or, if_true]
  refine wpAny_bind (wpAny_rule ?_)
  refine wpAny_bind ?_
  show wpAny _ _ (updateSeq S (·.push .none) >>= fun _ => updateSeq S (·.pop)) _ _ _
  refine wpAny_bind (wpAny_updateSeq hS1 rfl ?_)
  have hS2 := Heap.get?_update_self (Obj.mapSeq (·.push Value.none)) hS1 rfl
  refine wpAny_updateSeq (hz := by seq_fits) hS2 rfl ?_
  have hS3 := Heap.get?_update_self (Obj.mapSeq (·.pop)) hS2 rfl
  have k3 : ∀ c o, s.heap.get? c = some o → ((((s.heap.push { cls := .type "list", data := .seq #[] }).update S (Obj.mapSeq (fun _ => (#[] : Array Value)))).update S (Obj.mapSeq (·.push Value.none))).update S (Obj.mapSeq (·.pop))).get? c = some o :=
    fun c o e => (Heap.get?_update_other _ _ (Ne.symm (low c o e))).trans ((Heap.get?_update_other _ _ (Ne.symm (low c o e))).trans (k1 c o e))
  have I1 : Inv X pins σ (upd H S (.lst [])) { s with heap := (((s.heap.push { cls := .type "list", data := .seq #[] }).update S (Obj.mapSeq (fun _ => (#[] : Array Value)))).update S (Obj.mapSeq (·.push Value.none))).update S (Obj.mapSeq (·.pop)) } :=
    I.laid (t' := s.toks) k3 (Nat.le_of_eq eS) ⟨Nat.zero_le _, [], _, .nil, hS3⟩
  refine wpAny_pure ⟨plainId_quiet PySem.F.plain_extend_loop _, lz_loop (X := X) (pins := pins) (σ := σ) (xs := xs) (ys := ys) (H0 := H) (A := A.in1) (show A.in1.handled = none from hh) D nS hx hy hz (fun s' H' vs I' sm hS' hl hp => ⟨rfl, hQ S s' H' vs nS I' sm hS' hl hp⟩) _ 0 _ (upd H S (.lst [])) [] rfl (Nat.zero_le _) I1 (fun c hc => ⟨?_, (hf c hc).2⟩) (Z.keep (fun c _ o e => k3 c o e) fun T ws e => ?_) (Same.new nS) upd_same rfl (fun j v e => by simp at e)⟩
  · rw [upd_ne (lowF c hc)]; exact (hf c hc).1
  · exact Same.new nS _ _ e
def tLZip (K : PySem.W.Frag) (ta : TA) : TE := fun σ H Q => ta σ H fun vs H1 => ∃ a b xs ys, vs = [.ref a, .ref b] ∧ SqL K H1 a xs ∧ SqL K H1 b ys ∧ min xs.length ys.length ≤ sizeLine ∧
  ∀ S H2 ws, H1 S = none → Same H1 H2 → H2 S = some (.lst ws) → ws.length = min xs.length ys.length → PrsAt H1 H2 xs ys ws → Q (.ref S) H2
theorem pe_lzip {X : Cx} {e e2 : Expr} {ta : TA} {p p2 pos pos2 : Pos} (hc : X.calm = true) (hg : Gl X "list") (hm : X.mg "list" = none) (hg2 : Gl X "zip") (hm2 : X.mg "zip" = none) (ha : PA X [e, e2] ta)
    (hs : starEach [e, e2] X.env = (false, eval e X.env) :: starEach [e2] X.env := by rfl) (hpl : (backTo pos2 (starEach [e2] X.env)).any (·.1) = false := by rfl)
    (na : starEach [.Call (.Name "zip" p2) [e, e2] [] pos2] X.env = (false, eval (.Call (.Name "zip" p2) [e, e2] [] pos2) X.env) :: starEach [] X.env := by rfl) :
    PE X (.Call (.Name "list" p) [.Call (.Name "zip" p2) [e, e2] [] pos2] [] pos) (tLZip X.K ta) := by
  refine ⟨fun pins s σ H Q I h => ?_⟩
  refine Call_ (ld_blt I hg hm boot_list (PyProof.Rows.callWith_type1 (args_cons (Call_ (ld_blt I hg2 hm2 PyProof.Rows.boot_zip (PyProof.Rows.callWith_type1 (thn (ha.run pos2 pins s σ H _ I h) fun us s1 ⟨vs, H1, I1, r1, q1⟩ => ?_) hs hpl))) na) na))
  obtain ⟨a, b, xs, ys, ex, hqx, hqy, hz, q⟩ := q1
  subst ex
  cases r1 with
  | cons r rr =>
    cases rr with
    | cons r' rr =>
      cases rr
      cases r
      cases r'
      have fresh5 : ∀ c, c ∈ [s1.heap.objs.size + 4, s1.heap.objs.size + 2, s1.heap.objs.size + 3, s1.heap.objs.size, s1.heap.objs.size + 1] → FpOk X pins H1 c := fun c hcm => by
        have hle : s1.heap.objs.size ≤ c := by
          have e' : c = s1.heap.objs.size + 4 ∨ c = s1.heap.objs.size + 2 ∨ c = s1.heap.objs.size + 3 ∨ c = s1.heap.objs.size ∨ c = s1.heap.objs.size + 1 := by simpa using hcm
          rcases e' with z | z | z | z | z <;> rw [z] <;> first | exact Nat.le_add_right _ _ | exact Nat.le_refl _
        exact I1.fpOk hle (I1.hok.fresh hle)
      obtain ⟨its, rv, p1, _⟩ := I1.list hqx
      obtain ⟨its2, rv2, p2, _⟩ := I1.list hqy
      refine PySem.call_zip_2 p1.isList p2.isList fun h' hz5 hTI hTO h1 h2 hsz hk => args_nil ?_
      have I2 : Inv X pins σ H1 { s1 with heap := h' } := I1.kept (t' := s1.toks) hk
      refine lz_call (X := X) (pins := pins) (σ := σ) (H := H1) (I1.ok.hd hc) (PySem.W.ktu_apart s1.heap.objs.size a b p1.lt p2.lt) I2 fresh5 ⟨hTI, ⟨_, _, hTO⟩, h1, h2, .inl hz5⟩ hz5 hqx hqy hz fun S s' H' vs nS I' sm hS' hl hp => ?_
      exact ⟨.ref S, H', I', rfl, q S H' vs nS sm hS' hl hp⟩
end
end Lf

set_option Elab.async false
set_option linter.all false
set_option maxRecDepth 100000
set_option maxHeartbeats 4000000
/-! sorted, <, index and list(zip) of encoded data. -/
namespace Lf
open PySem PySem.Spec PyProof.Rows L2 PySem.W
theorem un65 {k : Nat} {A : Around} (r : Room k A) : A.units + 65 < cLine := by have := r.un; omega
section
variable {α : Type} {en : α → D}
/-- x < y, as Python says -/
def ltD (en : α → D) (x y : α) : Bool := dataLt (py (en x)) (py (en y))
def leD (en : α → D) : α → α → Bool := dataLe false fun x => py (en x)
theorem leD_eq (x y : α) : leD en x y = !ltD en y x := rfl
def sortD (en : α → D) (xs : List α) : List α := xs.mergeSort (leD en)
theorem sortD_perm (xs : List α) : (sortD en xs).Perm xs := List.mergeSort_perm _ _
theorem ltD_tr {x y z : α} (h1 : ltD en x y = false) (h2 : ltD en y z = false) : ltD en x z = false := by
  cases h : ltD en x z with
  | false => rfl
  | true =>
    rcases lex_negTrans (O := itemOrd) _ (keyToks (py (en y))) _ (show PyProof.Rows.lexLt itemOrd (keyToks (py (en x))) (keyToks (py (en z))) = true from h) with q | q
    · exact absurd (q.symm.trans h1) (by decide)
    · exact absurd (q.symm.trans h2) (by decide)
theorem ltD_tt {x y z : α} (h1 : ltD en x y = true) (h2 : ltD en y z = true) : ltD en x z = true := lex_trans (O := itemOrd) _ _ _ h1 h2
theorem ltD_irr (x : α) : ltD en x x = false := lex_irrefl (O := itemOrd) _
theorem ltD_asym {x y : α} (h : ltD en x y = true) : ltD en y x = false := by
  cases h' : ltD en y x with
  | false => rfl
  | true => exact absurd ((ltD_tt h h').symm.trans (ltD_irr x)) (by decide)
theorem sortD_srtd (xs : List α) : (sortD en xs).Pairwise fun x y => ltD en y x = false := by
  have := List.pairwise_mergeSort (le := leD en) (fun a b c h1 h2 => by
    rw [leD_eq, Bool.not_eq_true'] at h1 h2 ⊢
    exact ltD_tr h2 h1) (fun a b => by
    rw [leD_eq, leD_eq]
    cases h : ltD en a b with
    | true => rw [ltD_asym h]; rfl
    | false => simp) xs
  exact this.imp fun h => by rw [leD_eq, Bool.not_eq_true'] at h; exact h
theorem eqv_of_toks {x y : PyData} (ha : alike x y = true) (h : keyToks x = keyToks y) : PyData.eqv x y = true := by
  cases e : PyData.eqv x y with
  | true => rfl
  | false =>
    have q := (toks_eqv x y ha).2 e [] [.inl 0]
    rw [h, lex_pre, lex_irrefl] at q
    exact absurd q (by decide)
theorem ltD_tot [DecidableEq α] (i : EqO en) {x y : α} (ha : alike (py (en x)) (py (en y)) = true) (h1 : ltD en x y = false) (h2 : ltD en y x = false) : x = y := by
  have := eqv_of_toks ha (lex_total (O := itemOrd) _ _ h1 h2)
  rw [i x y] at this
  exact of_decide_eq_true this
theorem sortD_uniq [DecidableEq α] (i : EqO en) {xs ys : List α} (ha : ∀ x ∈ xs, ∀ y ∈ xs, alike (py (en x)) (py (en y)) = true) (h1 : ys.Pairwise fun x y => ltD en y x = false) (h2 : ys.Perm xs) : ys = sortD en xs :=
  List.Perm.eq_of_pairwise (le := fun x y => ltD en y x = false) (fun a b m1 m2 h3 h4 => ltD_tot i (ha _ (h2.mem_iff.mp m1) _ ((sortD_perm xs).mem_iff.mp m2)) h4 h3) h1 (sortD_srtd xs) (h2.trans (sortD_perm xs).symm)
/-- what sorted asks for -/
structure SrtOk (en : α → D) (xs : List α) : Prop where
  shp : ∀ x ∈ xs, Shp (en x)
  al : ∀ x ∈ xs, ∀ y ∈ xs, alike (py (en x)) (py (en y)) = true
  nt : (∀ x ∈ xs, ∃ d r, py (en x) = .tuple (d :: r)) ∨ ∀ x ∈ xs, py (en x) ≠ .none ∧ ∀ zs, py (en x) ≠ .tuple zs
variable {K : PySem.W.Frag} {M : Addr → Prop} {σ : L2.St} {H : Hp} {d e : DV}
theorem rDs_pairs {R : RH} : ∀ ps : List (V × α), (∀ p ∈ ps, rD K R (en p.2) p.1) → rDs K R ((ps.map Prod.snd).map en) (ps.map Prod.fst)
  | [], _ => rfl
  | p :: ps, h => ⟨_, _, rfl, h p (List.mem_cons_self ..), rDs_pairs ps fun q hq => h q (List.mem_cons_of_mem _ hq)⟩
theorem rDs_zip {R : RH} : ∀ (xs : List α) (vs : List V), rDs K R (xs.map en) vs → (∀ p ∈ vs.zip xs, rD K R (en p.2) p.1) ∧ vs.length = xs.length
  | [], vs, h => by cases (show vs = [] from h); exact ⟨fun p hp => by simp at hp, rfl⟩
  | x :: xs, vs, h => by
    obtain ⟨v, ws, rfl, h2, h3⟩ := h
    obtain ⟨a1, a2⟩ := rDs_zip xs ws h3
    refine ⟨fun p hp => ?_, by rw [List.length_cons, List.length_cons, a2]⟩
    rw [List.zip_cons_cons] at hp
    rcases List.mem_cons.mp hp with rfl | hp
    · exact h2
    · exact a1 p hp
theorem zip_py : ∀ (vs : List V) (xs : List α), (vs.zip xs).map (fun p => (p.1, py (en p.2))) = vs.zip (pys (xs.map en))
  | [], xs => by rw [List.zip_nil_left, List.zip_nil_left]; rfl
  | v :: vs, [] => by simp [pys]
  | v :: vs, x :: xs => by rw [List.zip_cons_cons, List.map_cons, List.map_cons, pys, List.zip_cons_cons, zip_py vs xs]
theorem rDs.of_get {R : RH} : ∀ {ds : List D} {vs : List V}, vs.length = ds.length → (∀ (j : Nat) (v : V), vs[j]? = some v → ∃ d, ds[j]? = some d ∧ rD K R d v) → rDs K R ds vs
  | [], [], _, _ => rfl
  | [], _ :: _, h, _ => by cases h
  | _ :: _, [], h, _ => by cases h
  | d :: ds, v :: vs, h, f => by
    obtain ⟨d', e, r⟩ := f 0 v rfl
    cases e
    exact ⟨v, vs, rfl, r, rDs.of_get (Nat.succ.inj h) fun j u hj => f (j + 1) u hj⟩
theorem zip_snds : ∀ (vs : List V) (xs : List α), vs.length = xs.length → (vs.zip xs).map Prod.snd = xs
  | [], [], _ => rfl
  | [], _ :: _, h => by cases h
  | _ :: _, [], h => by cases h
  | v :: vs, x :: xs, h => by rw [List.zip_cons_cons, List.map_cons, zip_snds vs xs (Nat.succ.inj h)]
theorem cd_sortD {xs : List α} (hd : LsOf d (xs.map en)) (ok : SrtOk en xs) : CaD K (rSortedD K) [d] (.im (eL en (sortD en xs))) := fun M H w us hu Q k => by
  cases hu with
  | cons h1 h2 =>
    cases h2
    obtain ⟨a, vs, rfl, e2, e3⟩ := hd.get h1
    obtain ⟨hz, hl⟩ := rDs_zip xs vs e3
    have pu : purs (xs.map en) = true := by
      rw [purs_all, List.all_map, List.all_eq_true]
      exact fun x hx => (ok.shp x hx).1
    have em : pys (xs.map en) = xs.map fun x => py (en x) := by rw [pys_map, List.map_map]; rfl
    refine ⟨a, vs, pys (xs.map en), rfl, SqL.of e2, dps_of (M := M) _ _ pu e3, ?_, ?_, ?_, fun p H' np sm hp => k _ H' (w.same sm) sm ?_⟩
    · intro x hx y hy
      rw [em] at hx hy
      obtain ⟨x', m1, rfl⟩ := List.mem_map.mp hx
      obtain ⟨y', m2, rfl⟩ := List.mem_map.mp hy
      exact ok.al x' m1 y' m2
    · rw [em]
      refine ok.nt.imp (fun h d hd => ?_) fun h d hd => ?_
      · obtain ⟨x, hx, rfl⟩ := List.mem_map.mp hd
        exact h x hx
      · obtain ⟨x, hx, rfl⟩ := List.mem_map.mp hd
        exact h x hx
    · intro d hd
      rw [em] at hd
      obtain ⟨x, hx, rfl⟩ := List.mem_map.mp hd
      have := dep_py (en x)
      have := (ok.shp x hx).2
      omega
    · refine ⟨p, _, rfl, w.new np hp, ?_⟩
      obtain ⟨zs, ez⟩ : ∃ zs, zs = (vs.zip xs).mergeSort (leD fun p : V × α => en p.2) := ⟨_, rfl⟩
      have e5 : ((vs.zip (pys (xs.map en))).mergeSort (dataLe false Prod.snd)).map Prod.fst = zs.map Prod.fst := by
        have q := List.map_mergeSort (r := leD fun p : V × α => en p.2) (s := dataLe false Prod.snd) (f := fun p : V × α => (p.1, py (en p.2))) (l := vs.zip xs) (fun a _ b _ => rfl)
        rw [← zip_py, ez, ← q, List.map_map]
        rfl
      have e6 : sortD en xs = zs.map Prod.snd := by
        have q := List.map_mergeSort (r := leD fun p : V × α => en p.2) (s := leD en) (f := Prod.snd) (l := vs.zip xs) (fun a _ b _ => rfl)
        rw [ez, q, zip_snds vs xs hl]
        rfl
      rw [e5, e6]
      exact rDs_pairs zs fun q hq => (hz q (by rw [ez] at hq; exact List.mem_mergeSort.mp hq)).same sm
theorem od_ltD {x y : α} (h1 : Shp (en x)) (h2 : Shp (en y)) (ha : alike (py (en x)) (py (en y)) = true) (hn : py (en x) ≠ .none) : OpD K (rLtD K) (.im (en x)) (.im (en y)) (.im (.bl (ltD en x y))) := fun M H w u v hu hv Q k =>
  ⟨_, _, dp_of (M := M) _ _ h1.1 hu, dp_of (M := M) _ _ h2.1 hv, ha, hn, by have := dep_py (en x); have := h1.2; omega, k _ H w (Same.refl _) rfl⟩
theorem md_indexD [DecidableEq α] {xs : List α} {x : α} (i : EqO en) (h1 : Shp (en x)) (h2 : Shp (eL en xs)) (h : LsOf d (xs.map en)) (hx : x ∈ xs) : MtD K (rIndexD K) d [.im (en x)] (.im (.int (xs.idxOf x : Nat))) := fun M H w v vs hv hvs Q k => by
  cases hvs with
  | cons r1 r2 =>
    cases r2
    have hd : DvOf d (eL en xs) := by
      rcases h with rfl | ⟨L, rfl⟩
      · exact .im
      · exact .mu
    have h3 := hd.dp h2.1 hv
    have s2 := h2.shaped
    have e1 : py (eL en xs) = .list (pys (xs.map en)) := by show py (.lst (xs.map en)) = _; rw [py]
    rw [e1] at h3 s2
    have em : pys (xs.map en) = xs.map fun x => py (en x) := by rw [pys_map, List.map_map]; rfl
    obtain ⟨a, ea⟩ : ∃ a, v = V.ref a := by cases h3; exact ⟨_, rfl⟩
    subst ea
    have lt := List.idxOf_lt_length_of_mem hx
    refine ⟨a, _, py (en x), pys (xs.map en), xs.idxOf x, py (en x), rfl, rfl, h3, dp_of (M := M) _ _ h1.1 r1, s2, h1.shaped, ?_, ?_, fun m z hm hz => ?_, k _ H w (Same.refl _) rfl⟩
    · rw [em, List.getElem?_map, List.getElem?_eq_getElem lt, List.getElem_idxOf lt]; rfl
    · rw [i x x]; exact decide_eq_true rfl
    · rw [em, List.getElem?_map] at hz
      obtain ⟨y, hy, rfl⟩ := Option.map_eq_some_iff.mp hz
      rw [i y x]
      refine decide_eq_false fun e => ?_
      subst e
      obtain ⟨lm, ey⟩ := List.getElem?_eq_some_iff.mp hy
      have := List.not_of_lt_findIdx (p := fun z => z == y) (xs := xs) hm
      rw [ey] at this
      simp at this
end
section
variable {K : PySem.W.Frag} {M : Addr → Prop} {σ : L2.St} {H : Hp} {d e : DV} {tA : TA}
theorem ev_lzip {α β : Type} {ea : α → D} {eb : β → D} {xs : List α} {ys : List β} (h : EVA K M σ H tA [d, e]) (h1 : LsOf d (xs.map ea)) (h2 : LsOf e (ys.map eb)) (hz : min xs.length ys.length ≤ sizeLine) : EV K M σ H (tLZip K tA) (.im (eL (eP2 ea eb) (xs.zip ys))) := fun M' H1 w s Q k => h M' H1 w s _ fun vs H2 w2 s2 hv => by
  cases hv with
  | cons r1 r2 =>
    cases r2 with
    | cons r2 r3 =>
      cases r3
      obtain ⟨a, us, rfl, e2, e3⟩ := h1.get r1
      obtain ⟨b, ws, rfl, f2, f3⟩ := h2.get r2
      have l1 : us.length = xs.length := by rw [e3.len, List.length_map]
      have l2 : ws.length = ys.length := by rw [f3.len, List.length_map]
      refine ⟨a, b, us, ws, rfl, SqL.of e2, SqL.of f2, by rw [l1, l2]; exact hz, fun S H3 zs nS sm hS hl hp => k _ H3 (w2.same sm) (s2.trans sm) ⟨S, zs, rfl, w2.new nS hS, ?_⟩⟩
      refine rDs.of_get (by rw [List.length_map, List.length_zip, hl, l1, l2]) fun j v hj => ?_
      obtain ⟨p, x, y, rfl, n0, hpp, q1, q2⟩ := hp j v hj
      obtain ⟨d1, hd1, hr1⟩ := e3.get q1
      obtain ⟨d2, hd2, hr2⟩ := f3.get q2
      rw [List.getElem?_map] at hd1 hd2
      obtain ⟨u1, hu1, rfl⟩ := Option.map_eq_some_iff.mp hd1
      obtain ⟨u2, hu2, rfl⟩ := Option.map_eq_some_iff.mp hd2
      refine ⟨eP2 ea eb (u1, u2), by rw [List.getElem?_map, List.getElem?_zip_eq_some (z := (u1, u2)) |>.mpr ⟨hu1, hu2⟩]; rfl, ⟨p, _, rfl, .inl ⟨hpp, w2.free n0⟩, ⟨_, _, rfl, ?_, _, _, rfl, ?_, rfl⟩⟩⟩
      · exact rD.mono (Fx.same sm) _ _ hr1
      · exact rD.mono (Fx.same sm) _ _ hr2
end
/-! xs[i] += n of one's own list of ints -/
theorem get_list {X : Cx} : PGet X (rIxL X.K) := by
  intro pins s σ H x y v u Q I rx ry h
  obtain ⟨p, xs, i, z, rfl, rfl, hq, he, q⟩ := h
  cases rx
  obtain ⟨t, rfl⟩ := ry
  obtain ⟨its, r, pl, hz⟩ := I.list hq
  obtain ⟨j, h1, h2, h3, h4, h5⟩ := atI_get he
  obtain ⟨w, ew, rw'⟩ := r.get h2
  have hl := r.length
  have hn := line63
  have fin : EP X pins σ Q w s := ⟨z, H, I, rw', q⟩
  by_cases h0 : 0 ≤ i
  · have hj : i.toNat = j := by
      rw [seqIndex_of h0 h5] at h1
      exact Option.some.inj h1
    exact wpAny_getItem_list pl.isList h0 (by omega) (by rw [hj]; simpa using ew) fin
  · have hj : (i + (its.toArray.size : Int)).toNat = j := by
      rw [seqIndex_neg (by omega) h4] at h1
      rw [List.size_toArray, ← hl]
      exact Option.some.inj h1
    exact wpAny_getItem_list_neg pl.isList (by omega) (by rw [List.size_toArray] <;> omega) (by omega) (by rw [hj]; simpa using ew) fin
section
variable {K : PySem.W.Frag} {σ : L2.St} {H : Hp} {te to ti : TE} {Y : Ends} {u : TS}
theorem st_augL {M0 : Addr → Prop} {Ls : List Addr} {L : Addr} {xs : List Int} {i y : Int} (ho : EV K (mxM M0 Ls) σ H to (.mu L (xs.map D.int))) (hi : EV K (mxM M0 Ls) σ H ti (.im (.int i))) (he : EV K (mxM M0 Ls) σ H te (.im (.int y))) (w : Wd (mxM M0 Ls) H) (hL : L ∈ Ls) (hb : InB xs i)
    (k : ∀ H1, Wd (mxM M0 Ls) H1 → Same H H1 → ∀ H2, (∃ vs, H2 = L2.upd H1 L (.lst vs)) → rV K (mxM M0 Ls) H2 (.mu L ((setI xs i (ixD xs i + y)).map D.int)) (.ref L) → u Y σ H2) : tSeq (tAugS to ti te (rIxL K) rAddI rSetL) u Y σ H :=
  ho.go w fun o H1 w1 s1 h1 => (hi.ex (Ex.same s1)).go w1 fun v H2 w2 s2 h2 => (od_ixLm (en := D.int) LsOf.mu hb) _ H2 w2 o v (h1.same s2) h2 _ fun x H3 w3 s3 h3 =>
    (he.ex (Ex.same ((s1.trans s2).trans s3))).go w3 fun z H4 w4 s4 h4 => od_add _ H4 w4 x z (h3.same s4) h4 _ fun q H5 w5 s5 h5 => by
      have s15 := ((s2.trans s3).trans s4).trans s5
      have e := h1.same s15
      cases (show v = .int i from h2)
      obtain ⟨rfl, _⟩ := id h1
      exact x_setL (en := D.int) e h5 hL hb fun H6 e6 h6 => k H5 w5 (s1.trans s15) H6 e6 h6
end
end Lf

set_option Elab.async false
set_option linter.all false
set_option maxRecDepth 100000
set_option maxHeartbeats 4000000
/-! entries put together: counts of equal things are added, in the order of the things. -/
namespace Lf
open PySem PySem.Spec PyProof.Rows L2 PySem.W
section
variable {α β : Type} [DecidableEq α]
/-- one entry more -/
def mgS (s : List α × List Int) (z : Int × α) : List α × List Int :=
  if 0 < z.1 ∧ z.2 ∈ s.1 then (s.1, setI s.2 (s.1.idxOf z.2 : Int) (ixD s.2 (s.1.idxOf z.2 : Int) + z.1)) else if 0 < z.1 then (s.1 ++ [z.2], s.2 ++ [z.1]) else s
def mg (es : List (Int × α)) : List α × List Int := es.foldl mgS ([], [])
def wsum (g : α → Int) (es : List (Int × α)) : Int := (es.map fun z => z.1 * g z.2).sum
def wsz (g : α → Int) (ps : List (α × Int)) : Int := (ps.map fun z => z.2 * g z.1).sum
omit [DecidableEq α] in
theorem wsum_app (g : α → Int) (es fs : List (Int × α)) : wsum g (es ++ fs) = wsum g es + wsum g fs := by unfold wsum; rw [List.map_append, List.sum_append]
omit [DecidableEq α] in
theorem wsum_cons (g : α → Int) (z : Int × α) (es : List (Int × α)) : wsum g (z :: es) = z.1 * g z.2 + wsum g es := by unfold wsum; rw [List.map_cons, List.sum_cons]
omit [DecidableEq α] in
theorem wsz_set (g : α → Int) : ∀ (rows : List α) (counts : List Int) (j : Nat) (c : Int) (x : α) (k : Int), rows[j]? = some x → counts[j]? = some k → wsz g (rows.zip (counts.set j (k + c))) = wsz g (rows.zip counts) + c * g x
  | [], _, _, _, _, _, h, _ => by simp at h
  | _ :: _, [], _, _, _, _, _, h => by simp at h
  | y :: rows, m :: counts, 0, c, x, k, h1, h2 => by
    cases h1
    cases h2
    rw [List.set_cons_zero, List.zip_cons_cons, List.zip_cons_cons]
    unfold wsz
    rw [List.map_cons, List.map_cons, List.sum_cons, List.sum_cons]
    show (m + c) * g y + _ = m * g y + _ + c * g y
    rw [Int.add_mul]
    omega
  | y :: rows, m :: counts, j + 1, c, x, k, h1, h2 => by
    have ih := wsz_set g rows counts j c x k (by simpa using h1) (by simpa using h2)
    rw [List.set_cons_succ, List.zip_cons_cons, List.zip_cons_cons]
    unfold wsz at ih ⊢
    rw [List.map_cons, List.map_cons, List.sum_cons, List.sum_cons, ih]
    show m * g y + _ = m * g y + _ + c * g x
    omega
omit [DecidableEq α] in
theorem wsz_one (g : α → Int) (rows : List α) (counts : List Int) (h : rows.length = counts.length) (x : α) (c : Int) : wsz g ((rows ++ [x]).zip (counts ++ [c])) = wsz g (rows.zip counts) + c * g x := by
  rw [List.zip_append h]
  unfold wsz
  rw [List.map_append, List.sum_append]
  simp
structure MgOk (es : List (Int × α)) (s : List α × List Int) : Prop where
  len : s.1.length = s.2.length
  nd : s.1.Nodup
  pos : ∀ c ∈ s.2, 0 < c
  ws : ∀ g : α → Int, wsz g (s.1.zip s.2) = wsum g es
  mem : ∀ x ∈ s.1, ∃ z ∈ es, z.2 = x
  le : s.1.length ≤ es.length
theorem MgOk.step {es : List (Int × α)} {s : List α × List Int} (h : MgOk es s) {z : Int × α} (hz : 0 ≤ z.1) : MgOk (es ++ [z]) (mgS s z) := by
  obtain ⟨rows, counts⟩ := s
  obtain ⟨h1, h2, h3, h4, h5, h6⟩ := h
  have sub : ∀ x ∈ rows, ∃ z' ∈ es ++ [z], z'.2 = x := fun x hx => by
    obtain ⟨z', m, e⟩ := h5 x hx
    exact ⟨z', List.mem_append_left _ m, e⟩
  have l1 : (es ++ [z]).length = es.length + 1 := by simp
  have w1 : ∀ g : α → Int, wsum g (es ++ [z]) = wsum g es + z.1 * g z.2 := fun g => by rw [wsum_app, wsum_cons]; simp [wsum]
  dsimp only at h1 h2 h3 h4 h5 h6
  unfold mgS
  dsimp only
  by_cases c1 : 0 < z.1 ∧ z.2 ∈ rows
  · rw [if_pos c1]
    have jl := List.idxOf_lt_length_of_mem c1.2
    have jc : rows.idxOf z.2 < counts.length := by omega
    have e1 : rows[rows.idxOf z.2]? = some z.2 := by rw [List.getElem?_eq_getElem jl, List.getElem_idxOf jl]
    have e2 : counts[rows.idxOf z.2]? = some counts[rows.idxOf z.2] := List.getElem?_eq_getElem jc
    rw [setI_nat jc, ixD_nat e2]
    refine ⟨by rw [List.length_set]; exact h1, h2, fun c hc => ?_, fun g => ?_, sub, by dsimp only; rw [l1]; omega⟩
    · rcases List.mem_or_eq_of_mem_set hc with m | m
      · exact h3 c m
      · have := h3 _ (List.mem_of_getElem? e2)
        have := c1.1
        omega
    · rw [wsz_set g rows counts _ z.1 z.2 _ e1 e2, h4, w1]
  · rw [if_neg c1]
    by_cases c2 : 0 < z.1
    · rw [if_pos c2]
      have nm : z.2 ∉ rows := fun m => c1 ⟨c2, m⟩
      refine ⟨by simp [h1], ?_, fun c hc => ?_, fun g => ?_, fun x hx => ?_, by simp; omega⟩
      · exact List.nodup_append.mpr ⟨h2, by simp, fun a ha b hb e => by simp at hb; rw [e, hb] at ha; exact nm ha⟩
      · rcases List.mem_append.mp hc with m | m
        · exact h3 c m
        · rw [List.mem_singleton.mp m]; exact c2
      · rw [wsz_one g rows counts h1, h4, w1]
      · rcases List.mem_append.mp hx with m | m
        · exact sub x m
        · exact ⟨z, List.mem_append_right _ (List.mem_singleton.mpr rfl), (List.mem_singleton.mp m).symm⟩
    · rw [if_neg c2]
      have z0 : z.1 = 0 := by omega
      refine ⟨h1, h2, h3, fun g => ?_, sub, by dsimp only; rw [l1]; omega⟩
      dsimp only
      rw [h4, w1, z0]
      simp
theorem mg_snoc (es : List (Int × α)) (z : Int × α) : mg (es ++ [z]) = mgS (mg es) z := by unfold mg; rw [List.foldl_append]; rfl
theorem mg_ok' : ∀ (n : Nat) (es : List (Int × α)), es.length = n → (∀ z ∈ es, 0 ≤ z.1) → MgOk es (mg es)
  | 0, es, h, _ => by
    rw [List.length_eq_zero_iff.mp h]
    exact ⟨rfl, List.nodup_nil, fun c hc => (nomatch hc), fun g => rfl, fun x hx => (nomatch hx), Nat.le_refl _⟩
  | n + 1, es, h, hp => by
    have ne : es ≠ [] := fun e => by rw [e] at h; cases h
    have e := (List.dropLast_concat_getLast ne).symm
    have ih := mg_ok' n es.dropLast (by rw [List.length_dropLast, h]; rfl) fun z hz => hp z (List.dropLast_subset _ hz)
    rw [e, mg_snoc]
    exact ih.step (hp _ (List.getLast_mem ne))
theorem mg_ok {es : List (Int × α)} (h : ∀ z ∈ es, 0 ≤ z.1) : MgOk es (mg es) := mg_ok' _ es rfl h
def mgz (es : List (Int × α)) : List (α × Int) := (mg es).1.zip (mg es).2
/-! what the sums tell -/
def ind (x y : α) : Int := if y = x then 1 else 0
theorem wsz_out {x : α} : ∀ {ps : List (α × Int)}, x ∉ ps.map Prod.fst → wsz (ind x) ps = 0
  | [], _ => rfl
  | p :: ps, h => by
    rw [List.map_cons, List.mem_cons, not_or] at h
    have := wsz_out (ps := ps) h.2
    unfold wsz at this ⊢
    rw [List.map_cons, List.sum_cons, this]
    unfold ind
    rw [if_neg (fun e => h.1 e.symm)]
    simp
theorem wsz_in {x : α} {c : Int} : ∀ {ps : List (α × Int)}, (ps.map Prod.fst).Nodup → (x, c) ∈ ps → wsz (ind x) ps = c
  | [], _, h => by cases h
  | p :: ps, nd, h => by
    rw [List.map_cons, List.nodup_cons] at nd
    rcases List.mem_cons.mp h with e | m
    · have := wsz_out nd.1
      rw [← e] at this ⊢
      unfold wsz at this ⊢
      rw [List.map_cons, List.sum_cons, this]
      unfold ind
      simp
    · have := wsz_in nd.2 m
      unfold wsz at this ⊢
      rw [List.map_cons, List.sum_cons, this]
      unfold ind
      rw [if_neg]
      · simp
      · intro e
        exact nd.1 (by rw [e]; exact List.mem_map.mpr ⟨_, m, rfl⟩)
omit [DecidableEq α] in
theorem nodup_of_fst : ∀ {ps : List (α × Int)}, (ps.map Prod.fst).Nodup → ps.Nodup
  | [], _ => List.nodup_nil
  | p :: ps, h => by
    rw [List.map_cons, List.nodup_cons] at h
    exact List.nodup_cons.mpr ⟨fun m => h.1 (List.mem_map.mpr ⟨p, m, rfl⟩), nodup_of_fst h.2⟩
omit [DecidableEq α] in
theorem zip_fsts {rows : List α} {counts : List Int} (h : rows.length = counts.length) : (rows.zip counts).map Prod.fst = rows := by
  rw [List.map_fst_zip (by omega)]
theorem MgOk.fst {es : List (Int × α)} {s : List α × List Int} (h : MgOk es s) : ((s.1.zip s.2).map Prod.fst).Nodup := by rw [zip_fsts h.len]; exact h.nd
theorem MgOk.iff {es : List (Int × α)} {s : List α × List Int} (h : MgOk es s) (x : α) (c : Int) : (x, c) ∈ s.1.zip s.2 ↔ 0 < c ∧ wsum (ind x) es = c := by
  rw [← h.ws]
  constructor
  · intro m
    exact ⟨h.pos c (List.of_mem_zip m).2, wsz_in h.fst m⟩
  · rintro ⟨c0, e⟩
    by_cases m : x ∈ (s.1.zip s.2).map Prod.fst
    · obtain ⟨⟨y, d⟩, hm, rfl⟩ := List.mem_map.mp m
      have := wsz_in h.fst hm
      dsimp only at e ⊢
      rw [this] at e
      rw [← e]
      exact hm
    · rw [wsz_out m] at e
      omega
theorem mgz_perm {es fs : List (Int × α)} (h1 : ∀ z ∈ es, 0 ≤ z.1) (h2 : ∀ z ∈ fs, 0 ≤ z.1) (e : ∀ g : α → Int, wsum g es = wsum g fs) : (mgz es).Perm (mgz fs) := by
  refine (List.perm_ext_iff_of_nodup (nodup_of_fst (mg_ok h1).fst) (nodup_of_fst (mg_ok h2).fst)).mpr fun p => ?_
  obtain ⟨x, c⟩ := p
  show (x, c) ∈ (mg es).1.zip (mg es).2 ↔ (x, c) ∈ (mg fs).1.zip (mg fs).2
  rw [(mg_ok h1).iff, (mg_ok h2).iff, e]
/-! in order -/
variable {en : α → D}
def srt (en : α → D) (es : List (Int × α)) : List (α × Int) := sortD (eP2 en D.int) (mgz es)
def Alk (en : α → D) : Prop := ∀ x y, alike (py (en x)) (py (en y)) = true
omit [DecidableEq α] in
theorem py_pair (p : α × Int) : py (eP2 en D.int p) = .tuple [py (en p.1), .int p.2] := by
  show py (.tup [en p.1, .int p.2]) = _
  simp only [py, pys]
omit [DecidableEq α] in
theorem Alk.pair (h : Alk en) : Alk (eP2 en D.int) := fun x y => by
  rw [py_pair, py_pair]
  simp only [alike, alikeAll, Bool.and_true, h x.1 y.1]
theorem srt_eq (i : EqO en) (al : Alk en) {es fs : List (Int × α)} (h1 : ∀ z ∈ es, 0 ≤ z.1) (h2 : ∀ z ∈ fs, 0 ≤ z.1) (e : ∀ g : α → Int, wsum g es = wsum g fs) : srt en es = srt en fs :=
  sortD_uniq (inj_P2 i inj_int) (fun x _ y _ => al.pair x y) (sortD_srtd _) ((sortD_perm _).trans (mgz_perm h1 h2 e))
def nrm (en : α → D) (es : List (Int × α)) : List (Int × α) := (srt en es).map fun p => (p.2, p.1)
theorem nrm_mem {es : List (Int × α)} {z : Int × α} : z ∈ nrm en es ↔ (z.2, z.1) ∈ mgz es := by
  unfold nrm srt
  rw [List.mem_map]
  constructor
  · rintro ⟨p, hp, rfl⟩
    exact (sortD_perm _).mem_iff.mp hp
  · exact fun h => ⟨(z.2, z.1), (sortD_perm _).mem_iff.mpr h, rfl⟩
theorem nrm_pos {es : List (Int × α)} (h : ∀ z ∈ es, 0 ≤ z.1) {z : Int × α} (hz : z ∈ nrm en es) : 0 < z.1 ∧ ∃ y ∈ es, y.2 = z.2 := by
  have m := nrm_mem.mp hz
  exact ⟨(mg_ok h).pos _ (List.of_mem_zip m).2, (mg_ok h).mem _ (List.of_mem_zip m).1⟩
theorem nrm_len {es : List (Int × α)} (h : ∀ z ∈ es, 0 ≤ z.1) : (nrm en es).length ≤ es.length := by
  unfold nrm srt
  rw [List.length_map, (sortD_perm _).length_eq]
  unfold mgz
  rw [List.length_zip]
  have := (mg_ok h).le
  omega
theorem sum_perm {l m : List Int} (h : l.Perm m) : l.sum = m.sum := by
  induction h with
  | nil => rfl
  | cons x _ ih => rw [List.sum_cons, List.sum_cons, ih]
  | swap x y l => rw [List.sum_cons, List.sum_cons, List.sum_cons, List.sum_cons]; omega
  | trans _ _ h1 h2 => rw [h1, h2]
theorem nrm_ws {es : List (Int × α)} (h : ∀ z ∈ es, 0 ≤ z.1) (g : α → Int) : wsum g (nrm en es) = wsum g es := by
  rw [← (mg_ok h).ws]
  unfold wsum nrm wsz
  rw [List.map_map]
  exact sum_perm ((sortD_perm (en := eP2 en D.int) (mgz es)).map _)
theorem nrm_eq (i : EqO en) (al : Alk en) {es fs : List (Int × α)} (h1 : ∀ z ∈ es, 0 ≤ z.1) (h2 : ∀ z ∈ fs, 0 ≤ z.1) (e : ∀ g : α → Int, wsum g es = wsum g fs) : nrm en es = nrm en fs := by
  unfold nrm
  rw [srt_eq i al h1 h2 e]
theorem nrm_nrm (i : EqO en) (al : Alk en) {es : List (Int × α)} (h : ∀ z ∈ es, 0 ≤ z.1) : nrm en (nrm en es) = nrm en es :=
  nrm_eq i al (fun z hz => Int.le_of_lt (nrm_pos h hz).1) h (nrm_ws h)
/-- entries of f -/
theorem wsum_map (f : α → β) (g : β → Int) (es : List (Int × α)) : wsum g (es.map fun z => (z.1, f z.2)) = wsum (fun x => g (f x)) es := by
  unfold wsum
  rw [List.map_map]
  rfl
/-- the things rise -/
theorem lt_pair (al : Alk en) (i : EqO en) {p q : α × Int} (h : ltD en p.1 q.1 = true) : ltD (eP2 en D.int) p q = true := by
  have ne : PyData.eqv (py (en p.1)) (py (en q.1)) = false := by
    rw [i]
    refine decide_eq_false fun e => ?_
    rw [e, ltD_irr] at h
    cases h
  unfold ltD
  rw [py_pair, py_pair]
  show PyProof.Rows.lexLt itemOrd (keyToks (.tuple [py (en p.1), .int p.2])) (keyToks (.tuple [py (en q.1), .int q.2])) = true
  simp only [keyToks]
  rw [toks_all_cons (py (en p.1)), toks_all_cons (py (en q.1)), lex_self, (toks_eqv _ _ (al p.1 q.1)).2 ne]
  exact h
theorem srt_rise (i : EqO en) (al : Alk en) {es : List (Int × α)} (h : ∀ z ∈ es, 0 ≤ z.1) : (nrm en es).Pairwise fun x y => ltD en x.2 y.2 = true := by
  unfold nrm
  rw [List.pairwise_map]
  have p1 : (srt en es).Pairwise fun x y => ltD (eP2 en D.int) y x = false := sortD_srtd _
  have p2 : ((srt en es).map Prod.fst).Nodup := (((sortD_perm (en := eP2 en D.int) (mgz es)).map Prod.fst).nodup_iff).mpr (mg_ok h).fst
  have p3 : (srt en es).Pairwise fun x y => x.1 ≠ y.1 := List.pairwise_map.mp p2
  refine (p1.and p3).imp fun {x y} hxy => ?_
  obtain ⟨h1, h2⟩ := hxy
  cases hl : ltD en x.1 y.1 with
  | true => rfl
  | false =>
    refine absurd (ltD_tot i (al _ _) hl ?_) h2
    cases hg : ltD en y.1 x.1 with
    | false => rfl
    | true => rw [lt_pair al i hg] at h1; cases h1
end
end Lf

set_option Elab.async false
set_option linter.all false
set_option maxRecDepth 100000
set_option maxHeartbeats 4000000
set_option pp.maxSteps 1500
set_option pp.deepTerms false
namespace Toy
open PySem L2 Lf
def top (i : Nat) : Stmt := PySem.Challenge.pw_linkedfilters_k34_short_rows.main.body.getD i (.Pass ⟨0, 0, 0, 0⟩)
abbrev s_l_begin : Stmt := top 4
abbrev s_l_draw : Stmt := top 5
abbrev s_l_word : Stmt := top 7
abbrev s_l_record : Stmt := top 8
abbrev s_l_head : Stmt := top 9
abbrev s_l_records : Stmt := top 10
abbrev s_l_group : Stmt := top 12
abbrev s_l_seen : Stmt := top 13
abbrev s_l_more_kinds : Stmt := top 14
abbrev s_l_head_row : Stmt := top 15
abbrev s_l_heads : Stmt := top 16
abbrev s_l_count : Stmt := top 17
abbrev s_l_row : Stmt := top 18
abbrev s_l_is_integer : Stmt := top 6
abbrev s_short_entries : Stmt := top 1
abbrev s_short_row : Stmt := top 2
abbrev s_l_split : Stmt := top 19
abbrev s_l_is_short : Stmt := top 20
abbrev s_l_bag : Stmt := top 21
abbrev s_law : Stmt := top 22
structure Ad where
  f_l_begin : Addr
  d_l_begin : FuncData
  f_l_draw : Addr
  d_l_draw : FuncData
  f_l_word : Addr
  d_l_word : FuncData
  f_l_record : Addr
  d_l_record : FuncData
  f_l_head : Addr
  d_l_head : FuncData
  f_l_records : Addr
  d_l_records : FuncData
  f_l_group : Addr
  d_l_group : FuncData
  f_l_seen : Addr
  d_l_seen : FuncData
  f_l_more_kinds : Addr
  d_l_more_kinds : FuncData
  f_l_head_row : Addr
  d_l_head_row : FuncData
  f_l_heads : Addr
  d_l_heads : FuncData
  f_l_count : Addr
  d_l_count : FuncData
  f_l_row : Addr
  d_l_row : FuncData
  f_l_is_integer : Addr
  d_l_is_integer : FuncData
  f_short_entries : Addr
  d_short_entries : FuncData
  f_short_row : Addr
  d_short_row : FuncData
  f_l_split : Addr
  d_l_split : FuncData
  f_l_is_short : Addr
  d_l_is_short : FuncData
  f_l_bag : Addr
  d_l_bag : FuncData
  f_law : Addr
  d_law : FuncData
structure Txt (K : PySem.W.Frag) (mg : Str → Option Value) (a : Ad) : Prop where
  F_l_begin : Fun K "_law_begin" "_law_begin" s_l_begin a.f_l_begin a.d_l_begin
  k_l_begin : PySem.W.keepIn K (.ref a.f_l_begin) = true
  a_l_begin : Binds K a.d_l_begin ["_law_script"] []
  m_l_begin : mg "_law_begin" = some (.ref a.f_l_begin)
  F_l_draw : Fun K "_law_draw" "_law_draw" s_l_draw a.f_l_draw a.d_l_draw
  k_l_draw : PySem.W.keepIn K (.ref a.f_l_draw) = true
  a_l_draw : Binds K a.d_l_draw ["_law_state", "_law_many"] []
  m_l_draw : mg "_law_draw" = some (.ref a.f_l_draw)
  F_l_word : Fun K "_law_word" "_law_word" s_l_word a.f_l_word a.d_l_word
  k_l_word : PySem.W.keepIn K (.ref a.f_l_word) = true
  a_l_word : Binds K a.d_l_word ["_law_state", "_law_first"] []
  m_l_word : mg "_law_word" = some (.ref a.f_l_word)
  F_l_record : Fun K "_law_record" "_law_record" s_l_record a.f_l_record a.d_l_record
  k_l_record : PySem.W.keepIn K (.ref a.f_l_record) = true
  a_l_record : Binds K a.d_l_record ["_law_records_here", "_law_path"] []
  m_l_record : mg "_law_record" = some (.ref a.f_l_record)
  F_l_head : Fun K "_law_head" "_law_head" s_l_head a.f_l_head a.d_l_head
  k_l_head : PySem.W.keepIn K (.ref a.f_l_head) = true
  a_l_head : Binds K a.d_l_head ["_law_records_here", "_law_path"] []
  m_l_head : mg "_law_head" = some (.ref a.f_l_head)
  F_l_records : Fun K "_law_records" "_law_records" s_l_records a.f_l_records a.d_l_records
  k_l_records : PySem.W.keepIn K (.ref a.f_l_records) = true
  a_l_records : Binds K a.d_l_records ["_law_state", "_law_most", "_law_top"] []
  m_l_records : mg "_law_records" = some (.ref a.f_l_records)
  F_l_group : Fun K "_law_group" "_law_group" s_l_group a.f_l_group a.d_l_group
  k_l_group : PySem.W.keepIn K (.ref a.f_l_group) = true
  a_l_group : Binds K a.d_l_group ["_law_records_here", "_law_head_here"] []
  m_l_group : mg "_law_group" = some (.ref a.f_l_group)
  F_l_seen : Fun K "_law_seen" "_law_seen" s_l_seen a.f_l_seen a.d_l_seen
  k_l_seen : PySem.W.keepIn K (.ref a.f_l_seen) = true
  a_l_seen : Binds K a.d_l_seen ["_law_head_here", "_law_path"] []
  m_l_seen : mg "_law_seen" = some (.ref a.f_l_seen)
  F_l_more_kinds : Fun K "_law_more_kinds" "_law_more_kinds" s_l_more_kinds a.f_l_more_kinds a.d_l_more_kinds
  k_l_more_kinds : PySem.W.keepIn K (.ref a.f_l_more_kinds) = true
  a_l_more_kinds : Binds K a.d_l_more_kinds ["_law_kinds", "_law_lack", "_law_columns", "_law_may"] []
  m_l_more_kinds : mg "_law_more_kinds" = some (.ref a.f_l_more_kinds)
  F_l_head_row : Fun K "_law_head_row" "_law_head_row" s_l_head_row a.f_l_head_row a.d_l_head_row
  k_l_head_row : PySem.W.keepIn K (.ref a.f_l_head_row) = true
  a_l_head_row : Binds K a.d_l_head_row ["_law_records_here", "_law_heads_here", "_law_head_here"] []
  m_l_head_row : mg "_law_head_row" = some (.ref a.f_l_head_row)
  F_l_heads : Fun K "_law_heads" "_law_heads" s_l_heads a.f_l_heads a.d_l_heads
  k_l_heads : PySem.W.keepIn K (.ref a.f_l_heads) = true
  a_l_heads : Binds K a.d_l_heads ["_law_records_here"] []
  m_l_heads : mg "_law_heads" = some (.ref a.f_l_heads)
  F_l_count : Fun K "_law_count" "_law_count" s_l_count a.f_l_count a.d_l_count
  k_l_count : PySem.W.keepIn K (.ref a.f_l_count) = true
  a_l_count : Binds K a.d_l_count ["_law_state", "_law_great"] []
  m_l_count : mg "_law_count" = some (.ref a.f_l_count)
  F_l_row : Fun K "_law_row" "_law_row" s_l_row a.f_l_row a.d_l_row
  k_l_row : PySem.W.keepIn K (.ref a.f_l_row) = true
  a_l_row : Binds K a.d_l_row ["_law_state", "_law_heads_here", "_law_at", "_law_most", "_law_great"] []
  m_l_row : mg "_law_row" = some (.ref a.f_l_row)
  F_l_is_integer : Fun K "_law_is_integer" "_law_is_integer" s_l_is_integer a.f_l_is_integer a.d_l_is_integer
  k_l_is_integer : PySem.W.keepIn K (.ref a.f_l_is_integer) = true
  a_l_is_integer : Binds K a.d_l_is_integer ["_law_actual"] []
  m_l_is_integer : mg "_law_is_integer" = some (.ref a.f_l_is_integer)
  F_short_entries : Fun K "short_entries" "short_entries" s_short_entries a.f_short_entries a.d_short_entries
  k_short_entries : PySem.W.keepIn K (.ref a.f_short_entries) = true
  a_short_entries : Binds K a.d_short_entries ["entries"] []
  m_short_entries : mg "short_entries" = some (.ref a.f_short_entries)
  F_short_row : Fun K "short_row" "short_row" s_short_row a.f_short_row a.d_short_row
  k_short_row : PySem.W.keepIn K (.ref a.f_short_row) = true
  a_short_row : Binds K a.d_short_row ["row"] []
  m_short_row : mg "short_row" = some (.ref a.f_short_row)
  F_l_split : Fun K "_law_split" "_law_split" s_l_split a.f_l_split a.d_l_split
  k_l_split : PySem.W.keepIn K (.ref a.f_l_split) = true
  a_l_split : Binds K a.d_l_split ["_law_state", "_law_row_here"] []
  m_l_split : mg "_law_split" = some (.ref a.f_l_split)
  F_l_is_short : Fun K "_law_is_short" "_law_is_short" s_l_is_short a.f_l_is_short a.d_l_is_short
  k_l_is_short : PySem.W.keepIn K (.ref a.f_l_is_short) = true
  a_l_is_short : Binds K a.d_l_is_short ["_law_row_here"] []
  m_l_is_short : mg "_law_is_short" = some (.ref a.f_l_is_short)
  F_l_bag : Fun K "_law_bag" "_law_bag" s_l_bag a.f_l_bag a.d_l_bag
  k_l_bag : PySem.W.keepIn K (.ref a.f_l_bag) = true
  a_l_bag : Binds K a.d_l_bag ["_law_entries"] []
  m_l_bag : mg "_law_bag" = some (.ref a.f_l_bag)
  F_law : Fun K "law" "law" s_law a.f_law a.d_law
  k_law : PySem.W.keepIn K (.ref a.f_law) = true
  a_law : Binds K a.d_law ["_law_script"] []
  m_law : mg "law" = some (.ref a.f_law)
  b_abs : mg "abs" = none
  b_int : mg "int" = none
  b_len : mg "len" = none
  b_range : mg "range" = none
  b_min : mg "min" = none
  b_max : mg "max" = none
  b_any : mg "any" = none
  b_sorted : mg "sorted" = none
  b_tuple : mg "tuple" = none
  b_list : mg "list" = none
  b_zip : mg "zip" = none
  b_isinstance : mg "isinstance" = none
  b_bool : mg "bool" = none
section
variable {P : Program} {w : World} {K : PySem.W.Frag} {mg : Str → Option Value} {base : Heap} {a : Ad}


/-- what stood stands, but for the state and its great numbers -/
def BuS (st g : Addr) (H H' : Hp) : Prop := ∀ q o, H q = some o → q ≠ st → q ≠ g → H' q = some o
theorem BuS.refl {st g : Addr} {H : Hp} : BuS st g H H := fun _ _ h _ _ => h
theorem BuS.trans {st g : Addr} {H H1 H2 : Hp} (x : BuS st g H H1) (y : BuS st g H1 H2) : BuS st g H H2 := fun q o h n m => y q o (x q o h n m) n m
theorem BuS.of {st g : Addr} {H H' : Hp} (s : Same H H') : BuS st g H H' := fun q o h _ _ => s q o h
/-- stands, and is no part of the state -/
def Fr (st g : Addr) (H : Hp) (q : Addr) (o : HO) : Prop := H q = some o ∧ q ≠ st ∧ q ≠ g
theorem Fr.bus {st g : Addr} {H H' : Hp} (b : BuS st g H H') {q : Addr} {o : HO} (h : Fr st g H q o) : Fr st g H' q o := ⟨b q o h.1 h.2.1 h.2.2, h.2⟩
theorem Fr.same {st g : Addr} {H H' : Hp} (b : Same H H') {q : Addr} {o : HO} (h : Fr st g H q o) : Fr st g H' q o := ⟨b q o h.1, h.2⟩
/-- the state: great numbers, small ones, a number, a count (at most n) -/
def StA (H : Hp) (st g sm : Addr) (n : Nat) : Prop := ∃ (x k : Int) (gs ss : List Int), H st = some (.lst [.ref g, .ref sm, .int x, .int k]) ∧ H g = some (.lst (gs.map V.int)) ∧ H sm = some (.lst (ss.map V.int)) ∧
  (∀ c ∈ gs, 0 ≤ c) ∧ (∀ c ∈ ss, 0 ≤ c ∧ c < 10 ^ 18) ∧ 0 ≤ x ∧ x < 2 ^ 62 ∧ 0 ≤ k ∧ k ≤ n ∧ st ≠ g ∧ st ≠ sm ∧ g ≠ sm
theorem StA.mono {H : Hp} {st g sm : Addr} {m n : Nat} (h : StA H st g sm m) (e : m ≤ n) : StA H st g sm n := by
  obtain ⟨x, k, gs, ss, h1, h2, h3, h4, h5, h6, h7, h8, h9, h10⟩ := h
  exact ⟨x, k, gs, ss, h1, h2, h3, h4, h5, h6, h7, h8, by omega, h10⟩
theorem StA.keep {H H' : Hp} {st g sm : Addr} {n : Nat} (h : StA H st g sm n) (s : Same H H') : StA H' st g sm n := by
  obtain ⟨x, k, gs, ss, h1, h2, h3, r⟩ := h
  exact ⟨x, k, gs, ss, s _ _ h1, s _ _ h2, s _ _ h3, r⟩
theorem StA.ne {H : Hp} {st g sm p : Addr} {n : Nat} (h : StA H st g sm n) (e : H p = none) : p ≠ st ∧ p ≠ g := by
  obtain ⟨x, k, gs, ss, h1, h2, h3, r⟩ := h
  exact ⟨(ne_of_none h1 e).symm, (ne_of_none h2 e).symm⟩
/-- a new object is no part of the state -/
theorem StA.fr {H H' : Hp} {st g sm p : Addr} {n : Nat} {o : HO} (h : StA H st g sm n) (e : H p = none) (h' : H' p = some o) : Fr st g H' p o := ⟨h', h.ne e⟩
/-- an update elsewhere -/
theorem StA.upd {H : Hp} {st g sm p : Addr} {n : Nat} {o : HO} (h : StA H st g sm n) (e : p ≠ st ∧ p ≠ g ∧ p ≠ sm) : StA (upd H p o) st g sm n := by
  obtain ⟨x, k, gs, ss, h1, h2, h3, r⟩ := h
  exact ⟨x, k, gs, ss, by rw [upd_ne e.1.symm]; exact h1, by rw [upd_ne e.2.1.symm]; exact h2, by rw [upd_ne e.2.2.symm]; exact h3, r⟩
theorem StA.ne3 {H : Hp} {st g sm p : Addr} {n : Nat} (h : StA H st g sm n) (e : H p = none) : p ≠ st ∧ p ≠ g ∧ p ≠ sm := by
  obtain ⟨x, k, gs, ss, h1, h2, h3, r⟩ := h
  exact ⟨(ne_of_none h1 e).symm, (ne_of_none h2 e).symm, (ne_of_none h3 e).symm⟩
def absI (i : Int) : Int := if i < 0 then -i else i
def absF (p : Int → Bool) : V → Option V
  | .int c => if p (absI c) then some (.int (absI c)) else none
  | _ => none
theorem fm_abs (p : Int → Bool) : ∀ ns : List Int, (ns.map V.int).filterMap (absF p) = ((ns.map absI).filter p).map V.int
  | [] => rfl
  | c :: ns => by
    rw [List.map_cons, List.filterMap_cons, List.map_cons, List.filter_cons]
    have e : absF p (.int c) = if p (absI c) then some (.int (absI c)) else none := rfl
    rw [e]
    cases h : p (absI c)
    · simp [fm_abs p ns]
    · simp [fm_abs p ns]
theorem absI_nn (i : Int) : 0 ≤ absI i := by unfold absI; split <;> omega

theorem ixN_nat {n m : Nat} (h : m < n) : ixN n ((m : Nat) : Int) = some m := by
  unfold ixN
  rw [if_pos (by omega), if_pos (by omega)]; simp
def cutI (rs : List Int) (lo hi : Option Int) : List Int := (rs.drop (HT.sIx rs.length 0 lo)).take (HT.sIx rs.length rs.length hi - HT.sIx rs.length 0 lo)
theorem cutV_ints (rs : List Int) (lo hi : Option Int) : cutV (rs.map V.int) lo hi = (cutI rs lo hi).map V.int := by
  unfold cutV cutI
  rw [List.length_map, List.map_take, List.map_drop]
theorem cutI_mem {rs : List Int} {lo hi : Option Int} {k : Int} (h : k ∈ cutI rs lo hi) : k ∈ rs := List.mem_of_mem_drop (List.mem_of_mem_take h)

def spBegin (K : PySem.W.Frag) : Sp := fun vs H Q _ => ∃ (l : Addr) (ns : List Int), vs = [.ref l] ∧ SqL K H l (ns.map V.int) ∧ ns.length ≤ 63 ∧
  ∀ (st g sm : Addr) (H' : Hp), H st = none → H g = none → Same H H' → StA H' st g sm 0 → Q (.ref st) H'
theorem sc_l_begin : FnScope ["_law_script", "_law_great", "_law_cell", "_law_small"] ["_law_script"] (defScope s_l_begin) := ⟨rfl, rfl, rfl, by decide +kernel, rfl, by decide +kernel, by decide +kernel⟩
theorem ok_l_begin (T : Txt K mg a) : FnOk P w K mg base CX0 1 a.f_l_begin a.d_l_begin ["_law_script"] (spBegin K) := by
  refine T.F_l_begin.ok sc_l_begin (fun vs H Q E h => ?_) (fun cdv A outer s H vs Q E hr h => ?_)
  · obtain ⟨l, ns, rfl, _⟩ := h
    rfl
  · obtain ⟨l, ns, rfl, hl, hn, k⟩ := h
    refine ⟨_, (pss_cons (ps_setLc (i := 1) (own := [("_law_cell", 2)]) (g := gName 2) (tt := (tTest (tOp rGeI (tCB (fun xs H Q => ∃ i : Int, xs = [.int i] ∧ Q (.int (if i < 0 then -i else i)) H) (tCons (tVar 2) tNil)) (tOp rPowI (tC (.int 10)) (tC (.int 18)))))) (te := (tCB (fun xs H Q => (∃ i : Int, xs = [.int i] ∧ Q (.int i) H) ∨ ∃ k : Bool, xs = [.bl k] ∧ Q (.int (if k then 1 else 0)) H) (tCons (tCB (fun xs H Q => ∃ i : Int, xs = [.int i] ∧ Q (.int (if i < 0 then -i else i)) H) (tCons (tVar 2) tNil)) tNil))) rfl sc_l_begin.nd rfl rfl (sw_true rfl rfl rfl (by decide +kernel)) (pi_list (pv 0)) (blkOk_by (own := [("_law_cell", 2)]) (N := ["_law_script", "_law_great", "_law_cell", "_law_small"]) (sc := defScope s_l_begin) (by decide +kernel)) (fun _ _ _ _ _ => (pg_name (i := 2) sc_l_begin.nd rfl (.inl rfl))) (fun _ _ _ _ _ => (pts_one (pt_cmpR op_ge (pe_callB call_abs (by rfl) T.b_abs (by decide +kernel) (pa_cons (pv 2) pa_nil)) (pe_op op_pow pe_int pe_int) (nomark _)))) (fun _ _ _ _ _ => (pe_callTy call_int1 (by rfl) T.b_int (by decide +kernel) (pa_cons (pe_callB call_abs (by rfl) T.b_abs (by decide +kernel) (pa_cons (pv 2) pa_nil)) pa_nil))))
      (pss_cons (ps_setLc (i := 3) (own := [("_law_cell", 2)]) (g := gName 2) (tt := (tTest (tOp rLtI (tCB (fun xs H Q => ∃ i : Int, xs = [.int i] ∧ Q (.int (if i < 0 then -i else i)) H) (tCons (tVar 2) tNil)) (tOp rPowI (tC (.int 10)) (tC (.int 18)))))) (te := (tCB (fun xs H Q => (∃ i : Int, xs = [.int i] ∧ Q (.int i) H) ∨ ∃ k : Bool, xs = [.bl k] ∧ Q (.int (if k then 1 else 0)) H) (tCons (tCB (fun xs H Q => ∃ i : Int, xs = [.int i] ∧ Q (.int (if i < 0 then -i else i)) H) (tCons (tVar 2) tNil)) tNil))) rfl sc_l_begin.nd rfl rfl (sw_true rfl rfl rfl (by decide +kernel)) (pi_list (pv 0)) (blkOk_by (own := [("_law_cell", 2)]) (N := ["_law_script", "_law_great", "_law_cell", "_law_small"]) (sc := defScope s_l_begin) (by decide +kernel)) (fun _ _ _ _ _ => (pg_name (i := 2) sc_l_begin.nd rfl (.inl rfl))) (fun _ _ _ _ _ => (pts_one (pt_cmpR op_lt (pe_callB call_abs (by rfl) T.b_abs (by decide +kernel) (pa_cons (pv 2) pa_nil)) (pe_op op_pow pe_int pe_int) (nomark _)))) (fun _ _ _ _ _ => (pe_callTy call_int1 (by rfl) T.b_int (by decide +kernel) (pa_cons (pe_callB call_abs (by rfl) T.b_abs (by decide +kernel) (pa_cons (pv 2) pa_nil)) pa_nil))))
      (pss_one (ps_ret (pe_lstS (pa_cons (pe_slice sl_listS (pv 1) po_none (po_some pe_int)) (pa_cons (pe_slice sl_listS (pv 3) po_none (po_some pe_int)) (pa_cons pe_int (pa_cons pe_int pa_nil))))))))), ?_⟩
    refine ⟨_, rfl, l, rfl, ⟨_, hl⟩, fun D nD => lc_listF (K := K) (a := l) (xs := ns.map V.int) (absF fun k => decide ((10 : Int) ^ Int.toNat 18 ≤ k)) nD (by rw [List.length_map]; omega) (fun H' s' => s'.seq hl) ?_ fun H1 s1 hD => ?_⟩
    · intro v hv H' N s' hN
      obtain ⟨c, hc, rfl⟩ := List.mem_map.mp hv
      have hN' := hN H' (Same.refl _)
      refine ⟨rfl, _, rfl, _, rfl, _, _, rfl, rfl, ⟨by decide, by decide, by decide⟩, _, _, rfl, rfl, _, rfl, ?_⟩
      have e : absF (fun k => decide ((10 : Int) ^ Int.toNat 18 ≤ k)) (.int c) = if decide ((10 : Int) ^ Int.toNat 18 ≤ absI c) then some (.int (absI c)) else none := rfl
      rw [e] at hN'
      refine ite2 (fun h => ?_) (fun h => ?_)
      · rw [if_pos (show decide ((10 : Int) ^ Int.toNat 18 ≤ absI c) = true from h)] at hN'
        exact ⟨_, rfl, _, rfl, .inl ⟨_, rfl, hN'⟩⟩
      · rw [if_neg (show ¬ decide ((10 : Int) ^ Int.toNat 18 ≤ absI c) = true from h)] at hN'
        exact hN'
    rw [fm_abs] at hD
    refine ⟨_, rfl, l, rfl, ⟨_, s1.seq hl⟩, fun D2 nD2 => lc_listF (K := K) (a := l) (xs := ns.map V.int) (absF fun k => decide (k < (10 : Int) ^ Int.toNat 18)) nD2 (by rw [List.length_map]; omega) (fun H' s' => s'.seq (s1.seq hl)) ?_ fun H2 s2 hD2 => ?_⟩
    · intro v hv H' N s' hN
      obtain ⟨c, hc, rfl⟩ := List.mem_map.mp hv
      have hN' := hN H' (Same.refl _)
      refine ⟨rfl, _, rfl, _, rfl, _, _, rfl, rfl, ⟨by decide, by decide, by decide⟩, _, _, rfl, rfl, _, rfl, ?_⟩
      have e : absF (fun k => decide (k < (10 : Int) ^ Int.toNat 18)) (.int c) = if decide (absI c < (10 : Int) ^ Int.toNat 18) then some (.int (absI c)) else none := rfl
      rw [e] at hN'
      refine ite2 (fun h => ?_) (fun h => ?_)
      · rw [if_pos (show decide (absI c < (10 : Int) ^ Int.toNat 18) = true from h)] at hN'
        exact ⟨_, rfl, _, rfl, .inl ⟨_, rfl, hN'⟩⟩
      · rw [if_neg (show ¬ decide (absI c < (10 : Int) ^ Int.toNat 18) = true from h)] at hN'
        exact hN'
    rw [fm_abs] at hD2
    refine ⟨_, rfl, _, rfl, D, _, rfl, SqL.of (s2 _ _ hD), fun g H3 ng s3 hg => ?_⟩
    refine ⟨_, rfl, _, rfl, D2, _, rfl, SqL.of (s3 _ _ hD2), fun sm H4 nsm s4 hsm => ?_⟩
    refine ⟨(by show 4 ≤ sizeLine; decide), fun st H5 nst s5 hst => ?_⟩
    rw [cutV_ints] at hg hsm
    have t := ((s1.trans s2).trans s3).trans s4
    refine k st g sm H5 (t.free nst) ((s1.trans s2).free ng) (t.trans s5) ⟨7, 0, _, _, hst, s5 _ _ (s4 _ _ hg), s5 _ _ hsm, fun c hc => ?_, fun c hc => ?_, by decide, by decide, by decide, by decide, (ne_of_none (s4 _ _ hg) nst).symm, (ne_of_none hsm nst).symm, ne_of_none hg nsm⟩
    · have := List.mem_filter.mp (cutI_mem hc)
      obtain ⟨d, _, rfl⟩ := List.mem_map.mp this.1
      exact absI_nn d
    · have := List.mem_filter.mp (cutI_mem hc)
      obtain ⟨d, _, rfl⟩ := List.mem_map.mp this.1
      exact ⟨absI_nn d, of_decide_eq_true this.2⟩

end
end Toy

set_option Elab.async false
set_option linter.all false
set_option maxRecDepth 100000
set_option maxHeartbeats 4000000
set_option pp.maxSteps 1500
set_option pp.deepTerms false
namespace Toy
open PySem L2 Lf
section
variable {P : Program} {w : World} {K : PySem.W.Frag} {mg : Str → Option Value} {base : Heap} {a : Ad}

/-- a drawn number -/
def spDr : Sp := fun vs H Q _ => ∃ (st g sm : Addr) (n : Nat) (many : Int), vs = [.ref st, .int many] ∧ StA H st g sm n ∧ n < 2 ^ 60 ∧ 0 < many ∧ many < 2 ^ 200 ∧
  ∀ (r : Int) (H' : Hp), 0 ≤ r → r < many → StA H' st g sm (n + 1) → BuS st g H H' → Q (.int r) H'
theorem six0 {n : Nat} (h : 0 < n) : seqIndex? 0 n = some 0 := by
  unfold seqIndex?
  simp
  omega
theorem upd3 {H : Hp} {a b c : Addr} {o : HO} {xs : HO} (h : H b = some xs) (n : b ≠ a) : (upd H a o) b = some xs := by rw [upd_ne n]; exact h
theorem sc_l_draw : FnScope ["_law_state", "_law_many", "_law_great", "_law_value", "_law_small", "_law_cell"] ["_law_state", "_law_many"] (defScope s_l_draw) := ⟨rfl, rfl, rfl, by decide +kernel, rfl, by decide +kernel, by decide +kernel⟩
theorem ok0_l_draw (T : Txt K mg a) : FnOk P w K mg base CX0 1 a.f_l_draw a.d_l_draw ["_law_state", "_law_many"] spDr := by
  refine T.F_l_draw.ok sc_l_draw (fun vs H Q E h => ?_) (fun cdv A outer s H vs Q E hr h => ?_)
  · obtain ⟨st, g, sm, n, many, rfl, _⟩ := h
    rfl
  · obtain ⟨st, g, sm, n, many, rfl, hS, hn, p0, p1, k⟩ := h
    refine ⟨_, (pss_cons (ps_set (i := 2) sc_l_draw.nd rfl (.inl rfl) (pe_ix ix_list (pv 0) pe_int (fun _ _ => rfl)))
      (pss_cons (ps_if (pt_cmpR (op_neIL hr.units) (pv 2) (pe_lstS pa_nil) (nomark _)) (pss_cons (ps_set (i := 3) sc_l_draw.nd rfl (.inl rfl) (pe_op op_mod (pe_callTy call_int1 (by rfl) T.b_int (by decide +kernel) (pa_cons (pe_ix ix_list (pv 2) pe_int (fun _ _ => rfl)) pa_nil)) (pv 1)))
      (pss_cons (ps_asg (pe_op op_fdivW (pe_ix ix_list (pv 2) pe_int (fun _ _ => rfl)) (pv 1)) (pg_sub (pv 2) pe_int set_list))
      (pss_cons (ps_if (pt_cmpR op_eq (pe_ix ix_list (pv 2) pe_int (fun _ _ => rfl)) pe_int (nomark _)) (pss_one (ps_expr (pe_bm PySem.F.plainAttrs_list PySem.F.slot_list_pop PySem.F.type_list_pop mt_popAt (pv 2) (pa_cons pe_int pa_nil)))) pss_nil)
      (pss_one (ps_ret (pv 3)))))) pss_nil)
      (pss_cons (ps_set (i := 4) sc_l_draw.nd rfl (.inl rfl) (pe_ix ix_list (pv 0) pe_int (fun _ _ => rfl)))
      (pss_cons (ps_set (i := 5) sc_l_draw.nd rfl (.inl rfl) pe_int)
      (pss_cons (ps_if (pt_cmpR (op_neIL hr.units) (pv 4) (pe_lstS pa_nil) (nomark _)) (pss_one (ps_set (i := 5) sc_l_draw.nd rfl (.inl rfl) (pe_ix ix_list (pv 4) (pe_op op_mod (pe_ix ix_list (pv 0) pe_int (fun _ _ => rfl)) (pe_callB call_len_seq (by rfl) T.b_len PySem.boot_len (pa_cons (pv 4) pa_nil))) (fun _ _ => rfl)))) pss_nil)
      (pss_cons (ps_asg (pe_op op_add (pe_ix ix_list (pv 0) pe_int (fun _ _ => rfl)) pe_int) (pg_sub (pv 0) pe_int set_list))
      (pss_cons (ps_asg (pe_op op_mod (pe_callTy call_int1 (by rfl) T.b_int (by decide +kernel) (pa_cons (pe_op op_add (pe_op op_add (pe_op op_add (pe_op op_mul (pe_ix ix_list (pv 0) pe_int (fun _ _ => rfl)) pe_int) (pe_op op_mul (pv 5) pe_int)) (pe_op op_mul (pe_ix ix_list (pv 0) pe_int (fun _ _ => rfl)) pe_int)) pe_int) pa_nil)) pe_int) (pg_sub (pv 0) pe_int set_list))
      (pss_one (ps_ret (pe_op op_mod (pe_op op_fdiv (pe_ix ix_list (pv 0) pe_int (fun _ _ => rfl)) pe_int) (pv 1))))))))))), ?_⟩
    obtain ⟨x, c, gs, ss, h1, h2, h3, g0, s0, x0, x1, c0, c1, n1, n2, n3⟩ := hS
    have lw : many.natAbs.log2 < 9000 := Nat.lt_of_lt_of_le ((Nat.log2_lt (by omega)).mpr (show many.natAbs < 2 ^ 200 by omega)) (by decide)
    refine ⟨_, rfl, st, _, _, _, rfl, rfl, SqL.of h1, rfl, ?_⟩
    refine ⟨_, rfl, (by show 0 ≤ sizeLine; decide), fun e1 H1 ne1 s1 he1 => ?_⟩
    have h1a := s1 _ _ h1
    have h2a := s1 _ _ h2
    have h3a := s1 _ _ h3
    refine ⟨g, e1, gs, [], rfl, rfl, SqL.of h2a, SqL.of he1, _, rfl, ?_⟩
    cases gs with
    | cons y gs =>
      have y0 := g0 y (List.mem_cons_self ..)
      rw [decide_eq_false (by simp)]
      refine iteT ?_
      refine ⟨_, rfl, g, _, _, .int y, rfl, rfl, SqL.of h2a, atI_nat (j := 0) rfl, .inl ⟨_, rfl, _, rfl, _, _, rfl, rfl, p0, ?_⟩⟩
      refine ⟨_, rfl, g, _, _, .int y, rfl, rfl, SqL.of h2a, atI_nat (j := 0) rfl, _, rfl, _, _, rfl, rfl, ⟨p0, lw⟩, ?_⟩
      refine ⟨_, rfl, g, _, _, 0, rfl, rfl, h2a, ixN_nat (m := 0) (by rw [List.length_map, List.length_cons]; omega), ?_⟩
      have hg : (upd H1 g (.lst (((y :: gs).map V.int).set 0 (.int (y / many))))) g = some (.lst ((y / many :: gs).map V.int)) := upd_same
      have d0 : 0 ≤ y / many := Int.ediv_nonneg y0 (by omega)
      refine ⟨_, rfl, g, _, _, .int (y / many), rfl, rfl, SqL.of hg, atI_nat (j := 0) rfl, rfl, _, rfl, ?_⟩
      refine ite2 (fun hz => ?_) (fun hz => ?_)
      · refine ⟨_, rfl, .inl ⟨rfl, _, SqL.of hg⟩, g, _, 0, 0, _, rfl, rfl, hg, by decide, by decide, six0 (by rw [List.length_map, List.length_cons]; omega), rfl, ?_⟩
        refine ⟨_, rfl, k _ _ (Int.emod_nonneg _ (by omega)) (Int.emod_lt_of_pos _ p0) ⟨x, c, gs, ss, ?_, upd_same, ?_, fun c hc => g0 c (List.mem_cons_of_mem _ hc), s0, x0, x1, c0, by omega, n1, n2, n3⟩ fun q o e m1 m2 => ?_⟩
        · rw [upd_ne n1, upd_ne n1]; exact h1a
        · rw [upd_ne n3.symm, upd_ne n3.symm]; exact h3a
        · rw [upd_ne m2, upd_ne m2]; exact s1 _ _ e
      · refine ⟨_, rfl, k _ _ (Int.emod_nonneg _ (by omega)) (Int.emod_lt_of_pos _ p0) ⟨x, c, y / many :: gs, ss, ?_, hg, ?_, fun c hc => ?_, s0, x0, x1, c0, by omega, n1, n2, n3⟩ fun q o e m1 m2 => ?_⟩
        · rw [upd_ne n1]; exact h1a
        · rw [upd_ne n3.symm]; exact h3a
        · rcases List.mem_cons.mp hc with h | h
          · rw [h]; exact d0
          · exact g0 c (List.mem_cons_of_mem _ h)
        · rw [upd_ne m2]; exact s1 _ _ e
    | nil =>
      rw [decide_eq_true rfl]
      refine iteF ?_
      refine ⟨_, rfl, st, _, _, _, rfl, rfl, SqL.of h1a, rfl, ?_⟩
      refine ⟨_, rfl, (by show 0 ≤ sizeLine; decide), fun e2 H2 ne2 s2 he2 => ?_⟩
      have h1b := s2 _ _ h1a
      have h2b := s2 _ _ h2a
      have h3b := s2 _ _ h3a
      refine ⟨sm, e2, ss, [], rfl, rfl, SqL.of h3b, SqL.of he2, _, rfl, ?_⟩
      cases ss with
      | nil =>
        rw [decide_eq_true rfl]
        refine iteF ?_
        refine ⟨_, rfl, st, _, _, _, rfl, rfl, SqL.of h1b, rfl, _, _, rfl, rfl, ?_⟩
        refine ⟨_, rfl, st, _, _, 3, rfl, rfl, h1b, rfl, ?_⟩
        have h1c : (upd H2 st (.lst ([V.ref g, V.ref sm, V.int x, V.int c].set 3 (V.int (c + 1))))) st = some (.lst [.ref g, .ref sm, .int x, .int (c + 1)]) := upd_same
        refine ⟨_, rfl, st, _, _, _, rfl, rfl, SqL.of h1c, rfl, _, _, rfl, rfl, .inr ⟨by decide, by decide⟩, _, rfl, _, _, rfl, rfl, .inr ⟨by decide, by decide⟩, _, _, rfl, rfl, _, rfl, st, _, _, _, rfl, rfl, SqL.of h1c, rfl, _, _, rfl, rfl, .inr ⟨by decide, by decide⟩, _, _, rfl, rfl, _, _, rfl, rfl, .inl ⟨_, rfl, _, _, rfl, rfl, (by show (0 : Int) < 2305843009213693951; decide), ?_⟩⟩
        obtain ⟨z, ez⟩ : ∃ z : Int, z = (x * 48271 + 0 * 69621 + (c + 1) * 8191 + 17) % 2305843009213693951 := ⟨_, rfl⟩
        have z0 : 0 ≤ z := by rw [ez]; exact Int.emod_nonneg _ (by decide)
        have z1 : z < 2305843009213693951 := by rw [ez]; exact Int.emod_lt_of_pos _ (by decide)
        refine ⟨_, rfl, st, _, _, 2, rfl, rfl, h1c, rfl, ?_⟩
        have h1d : (upd (upd H2 st (.lst ([V.ref g, V.ref sm, V.int x, V.int c].set 3 (V.int (c + 1))))) st (.lst ([V.ref g, V.ref sm, V.int x, V.int (c + 1)].set 2 (V.int ((x * 48271 + 0 * 69621 + (c + 1) * 8191 + 17) % 2305843009213693951))))) st = some (.lst [.ref g, .ref sm, .int z, .int (c + 1)]) := by rw [ez]; exact upd_same
        refine ⟨_, rfl, st, _, _, _, rfl, rfl, SqL.of h1d, rfl, _, _, rfl, rfl, ⟨by decide, by decide⟩, _, rfl, _, _, rfl, rfl, p0, ?_⟩
        refine k _ _ (Int.emod_nonneg _ (by omega)) (Int.emod_lt_of_pos _ p0) ⟨z, c + 1, [], [], h1d, ?_, ?_, fun c hc => (by cases hc), s0, z0, by omega, by omega, by omega, n1, n2, n3⟩ fun q o e m1 m2 => ?_
        · rw [upd_ne n1.symm, upd_ne n1.symm]; exact h2b
        · rw [upd_ne n2.symm, upd_ne n2.symm]; exact h3b
        · rw [upd_ne m1, upd_ne m1]; exact s2 _ _ (s1 _ _ e)
      | cons y ss =>
        rw [decide_eq_false (by simp)]
        refine iteT ?_
        have lp : (0 : Int) < (((y :: ss).map V.int).length : Nat) := by rw [List.length_map, List.length_cons]; omega
        refine ⟨_, rfl, _, rfl, st, _, _, _, rfl, rfl, SqL.of h1b, rfl, _, rfl, sm, _, rfl, .inl (SqL.of h3b), _, _, rfl, rfl, lp, ?_⟩
        have j0 := Int.emod_nonneg c (show ((((y :: ss).map V.int).length : Nat) : Int) ≠ 0 by omega)
        have j1 := Int.emod_lt_of_pos c lp
        obtain ⟨v, hv, hat⟩ := atI_some (rs := (y :: ss).map V.int) (i := c % (((y :: ss).map V.int).length : Nat)) (by omega) j1
        obtain ⟨cell, hc, rfl⟩ := List.mem_map.mp hv
        refine ⟨sm, _, _, _, rfl, rfl, SqL.of h3b, hat, ?_⟩
        refine ⟨_, rfl, st, _, _, _, rfl, rfl, SqL.of h1b, rfl, _, _, rfl, rfl, ?_⟩
        refine ⟨_, rfl, st, _, _, 3, rfl, rfl, h1b, rfl, ?_⟩
        have h1c : (upd H2 st (.lst ([V.ref g, V.ref sm, V.int x, V.int c].set 3 (V.int (c + 1))))) st = some (.lst [.ref g, .ref sm, .int x, .int (c + 1)]) := upd_same
        refine ⟨_, rfl, st, _, _, _, rfl, rfl, SqL.of h1c, rfl, _, _, rfl, rfl, .inr ⟨by decide, by decide⟩, _, rfl, _, _, rfl, rfl, .inr ⟨by decide, by decide⟩, _, _, rfl, rfl, _, rfl, st, _, _, _, rfl, rfl, SqL.of h1c, rfl, _, _, rfl, rfl, .inr ⟨by decide, by decide⟩, _, _, rfl, rfl, _, _, rfl, rfl, .inl ⟨_, rfl, _, _, rfl, rfl, (by show (0 : Int) < 2305843009213693951; decide), ?_⟩⟩
        obtain ⟨z, ez⟩ : ∃ z : Int, z = (x * 48271 + cell * 69621 + (c + 1) * 8191 + 17) % 2305843009213693951 := ⟨_, rfl⟩
        have z0 : 0 ≤ z := by rw [ez]; exact Int.emod_nonneg _ (by decide)
        have z1 : z < 2305843009213693951 := by rw [ez]; exact Int.emod_lt_of_pos _ (by decide)
        refine ⟨_, rfl, st, _, _, 2, rfl, rfl, h1c, rfl, ?_⟩
        have h1d : (upd (upd H2 st (.lst ([V.ref g, V.ref sm, V.int x, V.int c].set 3 (V.int (c + 1))))) st (.lst ([V.ref g, V.ref sm, V.int x, V.int (c + 1)].set 2 (V.int ((x * 48271 + cell * 69621 + (c + 1) * 8191 + 17) % 2305843009213693951))))) st = some (.lst [.ref g, .ref sm, .int z, .int (c + 1)]) := by rw [ez]; exact upd_same
        refine ⟨_, rfl, st, _, _, _, rfl, rfl, SqL.of h1d, rfl, _, _, rfl, rfl, ⟨by decide, by decide⟩, _, rfl, _, _, rfl, rfl, p0, ?_⟩
        refine k _ _ (Int.emod_nonneg _ (by omega)) (Int.emod_lt_of_pos _ p0) ⟨z, c + 1, [], y :: ss, h1d, ?_, ?_, fun c hc => (by cases hc), s0, z0, by omega, by omega, by omega, n1, n2, n3⟩ fun q o e m1 m2 => ?_
        · rw [upd_ne n1.symm, upd_ne n1.symm]; exact h2b
        · rw [upd_ne n2.symm, upd_ne n2.symm]; exact h3b
        · rw [upd_ne m1, upd_ne m1]; exact s2 _ _ (s1 _ _ e)

/-- small letters behind a first part -/
def WordOf (f w : Str) : Prop := ∃ t : List Nat, TL.tl w = TL.tl f ++ t ∧ t.length ≤ 3 ∧ ∀ c ∈ t, 97 ≤ c ∧ c ≤ 122
theorem WordOf.len {f w : Str} (h : WordOf f w) : w.length ≤ f.length + 3 := by
  obtain ⟨t, h1, h2, _⟩ := h
  rw [TL.len_tl, TL.len_tl, h1, List.length_append]
  omega
theorem WordOf.us {f w : Str} (h : WordOf f w) (hf : 95 ∉ TL.tl f) : 95 ∉ TL.tl w := by
  obtain ⟨t, h1, _, h3⟩ := h
  rw [h1, List.mem_append]
  rintro (z | z)
  · exact hf z
  · have := h3 95 z
    omega
theorem abc : TL.tl "abcdefghijklmnopqrstuvwxyz" = [97,98,99,100,101,102,103,104,105,106,107,108,109,110,111,112,113,114,115,116,117,118,119,120,121,122] := by decide +kernel

structure Rc where
  path : Str
  mark : Str
  cols : List (Str × Int)
instance : Inhabited Rc := ⟨⟨"", "", []⟩⟩
def eRc (r : Rc) : D := .lst [.str r.path, .str r.mark, eL (eH2 D.str D.int) r.cols]
def SMA (H : Hp) (st : Addr) (Y : List Addr) (n : Nat) : Prop := ∃ g sm, Y = [st, g, sm] ∧ StA H st g sm n
theorem SMA.same {H H' : Hp} {st : Addr} {Y : List Addr} {n : Nat} (h : SMA H st Y n) (s : Same H H') : SMA H' st Y n := by
  obtain ⟨g, sm, e, h⟩ := h
  exact ⟨g, sm, e, h.keep s⟩
theorem StA.wd {H : Hp} {st g sm : Addr} {n : Nat} (h : StA H st g sm n) : Wd (fun q => q ∈ [st, g, sm]) H := fun q hq => by
  obtain ⟨x, k, gs, ss, h1, h2, h3, _⟩ := h
  simp only [List.mem_cons, List.not_mem_nil, or_false] at hq
  rcases hq with rfl | rfl | rfl
  · rw [h1]; exact fun z => nomatch z
  · rw [h2]; exact fun z => nomatch z
  · rw [h3]; exact fun z => nomatch z
theorem SMA.updL {H : Hp} {st L : Addr} {Y : List Addr} {n : Nat} {o : HO} (h : SMA H st Y n) (hL : L ∉ Y) : SMA (upd H L o) st Y n := by
  obtain ⟨g, sm, rfl, h⟩ := h
  simp only [List.mem_cons, List.not_mem_nil, or_false, not_or] at hL
  exact ⟨g, sm, rfl, h.upd hL⟩
/-- a draw -/
def S_draw (n : Nat) (many : Int) (P : Int → Nat → Prop) : Prop := n < 2 ^ 60 ∧ 0 < many ∧ many < 2 ^ 200 ∧ ∀ r, 0 ≤ r → r < many → P r (n + 1)
def sp_l_draw (K : PySem.W.Frag) : Sp := spS SMA K (fun (x : Int) => [D.int x]) D.int (fun n (x : Int) P => S_draw n x P)
theorem ok_l_draw (T : Txt K mg a) : FnOk P w K mg base CX0 1 a.f_l_draw a.d_l_draw ["_law_state", "_law_many"] (sp_l_draw K) := by
  refine (ok0_l_draw T).imp fun vs H Q E h => ?_
  obtain ⟨M, st, Y, n, x, us, Pp, rfl, w0, ys, ⟨g, sm, rfl, hS⟩, hx, ⟨h1, h2, h3, h4⟩, kk⟩ := h
  obtain ⟨v, _, rfl, hv, rfl⟩ := (show rDs K (Fx M H) [D.int x] us from hx)
  cases (show v = .int x from hv)
  refine ⟨st, g, sm, n, x, rfl, hS, h1, h2, h3, fun r H' r0 r1 hS' b => ?_⟩
  refine kk r _ (n + 1) H' (h4 r r0 r1) (fun q hq => ?_) (fun q o ho hn => ?_) ⟨g, sm, rfl, hS'⟩ rfl
  · by_cases e1 : q = st
    · obtain ⟨_, _, _, _, z, _⟩ := hS'; rw [e1, z]; exact fun z => nomatch z
    · by_cases e2 : q = g
      · obtain ⟨_, _, _, _, _, z, _⟩ := hS'; rw [e2, z]; exact fun z => nomatch z
      · cases e : H q with
        | none => exact absurd e (w0 q hq)
        | some o => rw [b q o e e1 e2]; exact fun z => nomatch z
  · simp only [List.mem_cons, List.not_mem_nil, or_false, not_or] at hn
    exact b q o ho hn.1 hn.2.1

end
end Toy

set_option Elab.async false
set_option linter.all false
set_option maxRecDepth 100000
set_option maxHeartbeats 4000000
set_option pp.maxSteps 1500
set_option pp.deepTerms false
namespace Toy
open PySem L2 Lf
section
variable {P : Program} {w : World} {K : PySem.W.Frag} {mg : Str → Option Value} {base : Heap} {a : Ad}

theorem take_fold {α σ : Type} (f : σ → α → σ) (s0 : σ) (xs : List α) {i : Nat} {x : α} (h : xs[i]? = some x) : (xs.take (i + 1)).foldl f s0 = f ((xs.take i).foldl f s0) x := by
  rw [List.take_add_one, h, List.foldl_append]
  rfl

def S_word (n : Nat) (f : Str) (P : Str → Nat → Prop) : Prop := n < 2 ^ 59 ∧ f.length ≤ 10 ∧ ∀ w m, WordOf f w → m ≤ n + 4 → P w m
def W_l_word_b1 (word_here2 : Str) (n3 : Nat) (P : Str → Nat → Prop) (nx : Str → Nat → Prop) : Prop :=
  S_draw n3 26 (fun r2 n4 => (("abcdefghijklmnopqrstuvwxyz" : Str).length ≤ sizeLine) ∧ (InB ("abcdefghijklmnopqrstuvwxyz" : Str).cps.toList r2) ∧ ((word_here2 : Str).length + ((ixS "abcdefghijklmnopqrstuvwxyz" r2) : Str).length ≤ sizeLine) ∧ ∀ word_here3 : Str, word_here3 = (word_here2 ++ (ixS "abcdefghijklmnopqrstuvwxyz" r2)) → nx word_here3 n4)
def W_l_word_k1 (word_here2 : Str) (n3 : Nat) (P : Str → Nat → Prop) : Prop :=
  P word_here2 n3
def W_l_word (n : Nat) (first : Str) (P : Str → Nat → Prop) : Prop :=
  S_draw n 4 (fun r n2 => (-(2 ^ 62) ≤ (r : Int)) ∧ ((r : Int) < 2 ^ 62) ∧ ∃ Inv : Nat → Str → Nat → Prop, Inv 0 first n2 ∧ (∀ (i : Nat) (k : Int) (word_here2 : Str) (n3 : Nat), (rngI 0 r)[i]? = some k → Inv i word_here2 n3 → W_l_word_b1 word_here2 n3 P (Inv (i + 1))) ∧ (∀ (word_here2 : Str) (n3 : Nat), Inv (rngI 0 r).length word_here2 n3 → W_l_word_k1 word_here2 n3 P))
theorem ixS_mem {z : Str} {i : Int} (h : InB z.cps.toList i) : ∃ c ∈ z.cps.toList, ixS z i = ⟨#[c]⟩ := by
  obtain ⟨c, hm, hc⟩ := atI_some h.1 h.2
  refine ⟨c, hm, ?_⟩
  unfold ixS
  rw [hc]
  rfl
theorem dW_l_word {n : Nat} {f : Str} {P : Str → Nat → Prop} (h : S_word n f P) : W_l_word n f P := by
  obtain ⟨hn, hf, k⟩ := h
  refine ⟨by omega, by decide, by decide, fun r r0 r1 => ⟨by omega, by omega, fun i w m => (∃ t : List Nat, TL.tl w = TL.tl f ++ t ∧ t.length = i ∧ ∀ c ∈ t, 97 ≤ c ∧ c ≤ 122) ∧ m = n + 1 + i, ⟨⟨[], by simp, rfl, fun c hc => (by cases hc)⟩, rfl⟩, ?_, ?_⟩⟩
  · rintro i c w m hi ⟨⟨t, t1, t2, t3⟩, rfl⟩
    have hi' := (List.getElem?_eq_some_iff.mp hi).1
    rw [rngI_len] at hi'
    refine ⟨by omega, by decide, by decide, fun j j0 j1 => ?_⟩
    have hb : InB (Str.ofString "abcdefghijklmnopqrstuvwxyz").cps.toList j := by
      refine ⟨by omega, ?_⟩
      rw [show (Str.ofString "abcdefghijklmnopqrstuvwxyz").cps.toList.length = 26 by decide +kernel]
      exact j1
    obtain ⟨c, hc, ec⟩ := ixS_mem hb
    have hc2 : 97 ≤ c ∧ c ≤ 122 := by
      rw [show (Str.ofString "abcdefghijklmnopqrstuvwxyz").cps.toList = _ from abc] at hc
      simp only [List.mem_cons, List.not_mem_nil, or_false] at hc
      omega
    have lw : w.length = f.length + i := by rw [TL.len_tl, t1, List.length_append, t2, ← TL.len_tl]
    dsimp only
    rw [ec]
    refine ⟨by decide +kernel, hb, ?_, ?_⟩
    · show w.length + 1 ≤ sizeLine
      exact sz_of (by omega)
    · rintro _ rfl
      refine ⟨⟨t ++ [c], ?_, by rw [List.length_append, t2]; rfl, fun d hd => ?_⟩, by omega⟩
      · rw [TL.tl_append, t1, List.append_assoc]
      · rcases List.mem_append.mp hd with h | h
        · exact t3 d h
        · rw [List.mem_singleton.mp h]
          exact hc2
  · rintro w m ⟨⟨t, t1, t2, t3⟩, rfl⟩
    rw [rngI_len] at t2
    exact k w _ ⟨t, t1, by omega, t3⟩ (by rw [rngI_len]; omega)
def sp_l_word (K : PySem.W.Frag) : Sp := spS SMA K (fun (x : Str) => [D.str x]) D.str (fun n (x : Str) P => S_word n x P)
theorem sc_l_word : FnScope ["_law_state", "_law_first", "_law_word_here", "_law_k"] ["_law_state", "_law_first"] (defScope s_l_word) := ⟨rfl, rfl, rfl, by decide +kernel, rfl, by decide +kernel, by decide +kernel⟩
theorem ok_l_word (T : Txt K mg a) : FnOk P w K mg base CX0 2 a.f_l_word a.d_l_word ["_law_state", "_law_first"] (sp_l_word K) := by
  refine T.F_l_word.ok sc_l_word (fun vs H Q E h => ?_) (fun cdv A outer s H vs Q E hr h => ?_)
  · obtain ⟨M0, st, Y, n, x, us, P, rfl, w0, ys, hS, hx, _⟩ := h
    exact congrArg Nat.succ hx.len
  · obtain ⟨M0, st, Y, n, x, us, P, rfl, w0, ys, hS, hx, hS0, kk⟩ := h
    obtain ⟨first, ex⟩ : ∃ z, z = x := ⟨_, rfl⟩
    subst ex
    have hx : rDs K (Fx M0 H) [D.str first] us := hx
    obtain ⟨v, _, rfl, h2, rfl⟩ := hx
    have g : Gd M0 [] Y H H := Gd.start w0 ys
    cases (show v = (V.str first) from h2)
    have hw := dW_l_word hS0
    unfold W_l_word at hw
    refine ⟨_, (pss_cons (ps_set (i := 2) sc_l_word.nd rfl (.inl rfl) (pv 1))
      (pss_cons (ps_for PassesOwn.never rfl (pi_range1 (by rfl) T.b_range (pa_cons (pe_call (ok_l_draw T) (hr.mono (by decide)) rfl T.m_l_draw T.k_l_draw T.a_l_draw .nil pass0 (pa_cons (pv 0) (pa_cons pe_int pa_nil))) pa_nil)) (pg_name (i := 3) sc_l_word.nd rfl (.inl rfl))
      (pss_cons (ps_set (i := 2) sc_l_word.nd rfl (.inl rfl) (pe_op op_add_str (pv 2) (pe_ix ix_str pe_str (pe_call (ok_l_draw T) (hr.mono (by decide)) rfl T.m_l_draw T.k_l_draw T.a_l_draw .nil pass0 (pa_cons (pv 0) (pa_cons pe_int pa_nil))) (fun _ _ => rfl))))
      pss_nil))
      (pss_cons (ps_ret (pv 2))
      pss_nil))), ?_⟩
    refine st_set ?_
    refine EV.go (K := K) (d := (.im (D.str first))) (ev_vs (i := 1) rfl) g.wd fun v2 H2 wd s2 h3 => ?_
    have g2 := g.same s2
    have hS := hS.same s2
    cases (show v2 = (V.str first) from h3)
    try dsimp only [gName]
    refine st_norm (σ' := [some (V.ref st), some (V.str first), some (V.str first), none]) rfl ?_
    refine st_for ?_
    refine x_rng1 ?_
    refine x_cons ?_
    refine x_call ?_
    refine x_cons ?_
    refine ⟨_, rfl, ?_⟩
    refine x_cons ?_
    refine EV.go (K := K) (d := (.im (D.int 4))) ev_int g2.wd fun v4 H4 wd3 s4 h5 => ?_
    have g3 := g2.same s4
    have hS2 := hS.same s4
    cases (show v4 = (V.int 4) from h5)
    refine x_nil ?_
    refine ⟨mxM M0 [], st, Y, n, 4, _, _, rfl, g3.wd, fun y hy => .inl (g3.ys y hy), hS2, ⟨_, _, rfl, rfl, rfl⟩, hw, fun r v5 n2 H5 hw wd4 b hS3 h6 => ?_⟩
    have g4 := g3.call wd4 b
    have l := Gd.lx_call g3 b
    cases (show v5 = (V.int r) from h6)
    refine x_nil ?_
    obtain ⟨c, c2, hw⟩ := hw
    refine ⟨r, rfl, c, c2, ?_⟩
    have wk := wk_range1 (K := K) (M := mxM M0 []) (H := H5) (n := r)
    obtain ⟨Inv, hI, hI2, hI3⟩ := hw
    refine st_forit wk (fun i σ' H' => ∃ (word_here2 : Str) (o : Option V) (n3 : Nat), σ' = [some (V.ref st), some (V.str first), some (V.str word_here2), o] ∧ Gd M0 [] Y H H' ∧ Lx (mxM M0 []) (mxM M0 []) H5 H' ∧ SMA H' st Y n3 ∧ Inv i word_here2 n3) ⟨first, _, n2, rfl, g4, Lx.refl, hS3, hI⟩ (fun i σ' H' _ ⟨_, _, _, _, _, hl, _⟩ => ⟨_, hl⟩) ?_ ?_
    · rintro i x2 σ' H6 H7 hi ⟨word_here2, o, n3, rfl, g5, l2, hS4, hI4⟩ yd
      obtain ⟨k, hy, s5, hr2⟩ := yd_map yd
      have hw := hI2 i k  word_here2 n3 hy hI4
      have hr2 := hr2 _ g5.wd l2
      have g6 := g5.same s5
      have hS5 := hS4.same s5
      cases (show x2 = (V.int k) from hr2)
      unfold W_l_word_b1 at hw
      try dsimp only [gName]
      refine st_norm (σ' := [some (V.ref st), some (V.str first), some (V.str word_here2), some (V.int k)]) rfl ?_
      refine st_set ?_
      refine x_op ?_
      refine EV.go (K := K) (d := (.im (D.str word_here2))) (ev_vs (i := 2) rfl) g6.wd fun v6 H8 wd5 s6 h7 => ?_
      have g7 := g6.same s6
      have hS6 := hS5.same s6
      cases (show v6 = (V.str word_here2) from h7)
      refine x_op ?_
      refine EV.go (K := K) (d := (.im (D.str "abcdefghijklmnopqrstuvwxyz"))) ev_str g7.wd fun v7 H9 wd6 s7 h8 => ?_
      have g8 := g7.same s7
      have hS7 := hS6.same s7
      cases (show v7 = (V.str "abcdefghijklmnopqrstuvwxyz") from h8)
      refine x_call ?_
      refine x_cons ?_
      refine ⟨_, rfl, ?_⟩
      refine x_cons ?_
      refine EV.go (K := K) (d := (.im (D.int 26))) ev_int g8.wd fun v9 H11 wd8 s9 h10 => ?_
      have g9 := g8.same s9
      have hS8 := hS7.same s9
      cases (show v9 = (V.int 26) from h10)
      refine x_nil ?_
      refine ⟨mxM M0 [], st, Y, n3, 26, _, _, rfl, g9.wd, fun y hy => .inl (g9.ys y hy), hS8, ⟨_, _, rfl, rfl, rfl⟩, hw, fun r2 v10 n4 H12 hw wd9 b2 hS9 h11 => ?_⟩
      have g10 := g9.call wd9 b2
      have l3 := Gd.lx_call g9 b2
      cases (show v10 = (V.int r2) from h11)
      obtain ⟨c3, c4, hw⟩ := hw
      refine opd_go (K := K) (d := (.im (D.str "abcdefghijklmnopqrstuvwxyz"))) (e := (.im (D.int r2))) (f := .im (D.str (ixS "abcdefghijklmnopqrstuvwxyz" r2))) (od_ixS c3 c4) g10.wd rfl rfl fun v11 H13 wd10 s10 h12 => ?_
      have g11 := g10.same s10
      have hS10 := hS9.same s10
      cases (show v11 = (V.str (ixS "abcdefghijklmnopqrstuvwxyz" r2)) from h12)
      obtain ⟨c5, hw⟩ := hw
      refine opd_go (K := K) (d := (.im (D.str word_here2))) (e := (.im (D.str (ixS "abcdefghijklmnopqrstuvwxyz" r2)))) (f := .im (D.str (word_here2 ++ (ixS "abcdefghijklmnopqrstuvwxyz" r2)))) (od_addS c5) g11.wd rfl rfl fun v12 H14 wd11 s11 h13 => ?_
      obtain ⟨word_here3, e⟩ : ∃ z_ : Str, z_ = (word_here2 ++ (ixS "abcdefghijklmnopqrstuvwxyz" r2)) := ⟨_, rfl⟩
      have hw := hw word_here3 e
      rw [← e] at h13
      have g12 := g11.same s11
      have hS11 := hS10.same s11
      cases (show v12 = (V.str word_here3) from h13)
      exact ⟨word_here3, _, n4, rfl, g12, (((((((l2.trans (Lx.same s5)).trans (Lx.same s6)).trans (Lx.same s7)).trans (Lx.same s9)).trans l3).trans (Lx.same s10)).trans (Lx.same s11)), hS11, hw⟩
    · rintro σ' H15 ⟨word_here2, o, n3, rfl, g13, l4, hS4, hI5⟩
      have hw := hI3 word_here2 n3 hI5
      unfold W_l_word_k1 at hw
      try dsimp only [gName]
      refine st_norm (σ' := [some (V.ref st), some (V.str first), some (V.str word_here2), o]) rfl ?_
      refine st_ret ?_
      refine EV.go (K := K) (d := (.im (D.str word_here2))) (ev_vs (i := 2) rfl) g13.wd fun v13 H16 wd12 s12 h14 => ?_
      have g14 := g13.same s12
      have hS12 := hS4.same s12
      exact kk _ _ _ _ hw g14.w_end g14.bu hS12 (rV.lx Gd.lx_end h14)
end
end Toy

set_option Elab.async false
set_option linter.all false
set_option maxRecDepth 100000
set_option maxHeartbeats 4000000
set_option pp.maxSteps 1500
set_option pp.deepTerms false
namespace Toy
open PySem L2 Lf
section
variable {P : Program} {w : World} {K : PySem.W.Frag} {mg : Str → Option Value} {base : Heap} {a : Ad}

def recOf (rs : List Rc) (p : Str) : Rc := (rs.find? fun r => decide (r.path = p)).getD (rs.headD default)
def pre_rec (rs : List Rc) (p : Str) : Prop := rs ≠ []
theorem recOf_mem {rs : List Rc} {p : Str} (h : rs ≠ []) : recOf rs p ∈ rs := by
  unfold recOf
  cases e : rs.find? fun r => decide (r.path = p) with
  | some r => exact List.mem_of_find?_eq_some e
  | none =>
    cases rs with
    | nil => exact absurd rfl h
    | cons r rs => exact List.mem_cons_self ..
def W_l_record_b1 (records_here : (List Rc)) (path : Str) (record_here : Rc) (P : Rc → Prop) (nx : Prop) : Prop :=
  (if (decide (record_here.path = path)) = true then (P record_here) else (nx))
def W_l_record_k1 (records_here : (List Rc)) (P : Rc → Prop) : Prop :=
  (InB records_here 0) ∧ P (ixD records_here 0)
def W_l_record (records_here : (List Rc)) (path : Str) (P : Rc → Prop) : Prop :=
  ∃ Inv : Nat → Prop, Inv 0 ∧ (∀ (i : Nat) (record_here : Rc), records_here[i]? = some record_here → Inv i → W_l_record_b1 records_here path record_here P (Inv (i + 1))) ∧ (Inv records_here.length → W_l_record_k1 records_here P)
theorem dW_l_record {rs : List Rc} {p : Str} (h : pre_rec rs p) (P : Rc → Prop) (hP : P (recOf rs p)) : W_l_record rs p P := by
  refine ⟨fun i => ∀ j r, j < i → rs[j]? = some r → r.path ≠ p, fun j r hj => absurd hj (Nat.not_lt_zero _), fun i r hr hno => ?_, fun hno => ?_⟩
  · unfold W_l_record_b1
    by_cases e : r.path = p
    · rw [if_pos (decide_eq_true e)]
      have : recOf rs p = r := by
        unfold recOf
        rw [show (rs.find? fun r => decide (r.path = p)) = some r from ?_]
        · rfl
        · obtain ⟨hi, hr⟩ := List.getElem?_eq_some_iff.mp hr
          rw [List.find?_eq_some_iff_getElem]
          refine ⟨decide_eq_true e, i, hi, hr, fun j hj => ?_⟩
          have := hno j rs[j] hj (List.getElem?_eq_getElem _)
          simp [this]
      rw [← this]
      exact hP
    · rw [if_neg (by simp [e])]
      intro j r' hj hr'
      rcases Nat.lt_succ_iff_lt_or_eq.mp hj with hj | rfl
      · exact hno j r' hj hr'
      · rw [hr] at hr'
        cases hr'
        exact e
  · unfold W_l_record_k1
    cases rs with
    | nil => exact absurd rfl h
    | cons r rs =>
      refine ⟨⟨by simp only [List.length_cons]; omega, by simp only [List.length_cons]; omega⟩, ?_⟩
      have e1 : ixD (r :: rs) 0 = r := ixD_nat (i := 0) rfl
      have e2 : recOf (r :: rs) p = r := by
        unfold recOf
        rw [List.find?_eq_none.mpr fun x hx => by
          obtain ⟨j, hj⟩ := List.mem_iff_getElem?.mp hx
          have := hno j x (List.getElem?_eq_some_iff.mp hj).1 hj
          simp [this]]
        rfl
      rw [e1, ← e2]
      exact hP
def sp_l_record (K : PySem.W.Frag) : Sp := spF K (fun (x : (List Rc) × Str) => [(eL eRc) x.1, D.str x.2]) eRc (fun (x : (List Rc) × Str) => pre_rec x.1 x.2) (fun (x : (List Rc) × Str) => recOf x.1 x.2)
theorem cd_l_record {E : XK} (records_here : (List Rc)) (path : Str) (hp : pre_rec records_here path) : CaD K (fun vs H Q => sp_l_record K vs H Q E) [.im ((eL eRc) records_here), .im (D.str path)] (.im (eRc (recOf records_here path))) := cd_fn (ens := (fun (x : (List Rc) × Str) => [(eL eRc) x.1, D.str x.2])) (er := eRc) (records_here, path) hp
theorem sc_l_record : FnScope ["_law_records_here", "_law_path", "_law_record_here"] ["_law_records_here", "_law_path"] (defScope s_l_record) := ⟨rfl, rfl, rfl, by decide +kernel, rfl, by decide +kernel, by decide +kernel⟩
theorem ok_l_record (T : Txt K mg a) : FnOk P w K mg base CX0 1 a.f_l_record a.d_l_record ["_law_records_here", "_law_path"] (sp_l_record K) := by
  refine T.F_l_record.ok sc_l_record (fun vs H Q E h => ?_) (fun cdv A outer s H vs Q E hr h => ?_)
  · obtain ⟨M0, x, w0, hx, _⟩ := h
    exact hx.len
  · obtain ⟨M0, x, w0, hx, hp, kq⟩ := h
    obtain ⟨records_here, path⟩ := x
    have hx : rDs K (Fx M0 H) [(eL eRc) records_here, D.str path] vs := hx
    obtain ⟨v2, _, rfl, h3, v, _, rfl, h2, rfl⟩ := hx
    obtain ⟨Y, eY⟩ : ∃ Y : List Addr, Y = [] := ⟨_, rfl⟩
    have g : Gd M0 [] Y H H := Gd.start w0 (by rw [eY]; exact fun y h => nomatch h)
    have h3 : rV K (mxM M0 []) H (.im ((eL eRc) records_here)) v2 := rV.lx Gd.lx0 (show rV K M0 H (.im ((eL eRc) records_here)) v2 from h3)
    cases (show v = (V.str path) from h2)
    obtain ⟨P, eP⟩ : ∃ P : Rc → Prop, P = fun r => r = recOf records_here path := ⟨_, rfl⟩
    have kk : ∀ r v H2, P r → Wd M0 H2 → Same H H2 → rD K (Fx M0 H2) (eRc r) v → Q v H2 := fun r v H2 e => by rw [eP] at e; rw [show r = recOf records_here path from e]; exact kq v H2
    have hw : W_l_record records_here path P := dW_l_record hp P (by rw [eP])
    unfold W_l_record at hw
    refine ⟨_, (pss_cons (ps_for PassesOwn.never rfl (pi_list (pv 0)) (pg_name (i := 2) sc_l_record.nd rfl (.inl rfl))
      (pss_cons (ps_if (pt_cmpR op_eq (pe_ix ix_list (pv 2) pe_int (fun _ _ => rfl)) (pv 1) (nomark _)) (pss_cons (ps_ret (pv 2))
      pss_nil) pss_nil)
      pss_nil))
      (pss_cons (ps_ret (pe_ix ix_list (pv 0) pe_int (fun _ _ => rfl)))
      pss_nil)), ?_⟩
    refine st_for ?_
    refine EVI.gom (K := K) (en := eRc) (xs := records_here) (evi_list (es := List.map eRc records_here) (ev_var (d := (.im ((eL eRc) records_here))) (i := 0) rfl h3)) g.wd fun J H2 wd s2 wk => ?_
    have g2 := g.same s2
    obtain ⟨Inv, hI, hI2, hI3⟩ := hw
    refine st_forit wk (fun i σ' H' => ∃ (o : Option V), σ' = [some v2, some (V.str path), o] ∧ Gd M0 [] Y H H' ∧ Lx (mxM M0 []) (mxM M0 []) H2 H' ∧ Inv i) ⟨_, rfl, g2, Lx.refl, hI⟩ (fun i σ' H' _ ⟨_, _, _, hl, _⟩ => ⟨_, hl⟩) ?_ ?_
    · rintro i x2 σ' H3 H4 hi ⟨o, rfl, g3, l, hI4⟩ yd
      obtain ⟨record_here, hy, s3, hr2⟩ := yd_map yd
      have hw := hI2 i record_here  hy hI4
      have hr2 := hr2 _ g3.wd l
      have g4 := g3.same s3
      have hr2 : rV K (mxM M0 []) H4 (.im (eRc record_here)) x2 := hr2
      unfold W_l_record_b1 at hw
      try dsimp only [gName]
      refine st_norm (σ' := [some v2, some (V.str path), some x2]) rfl ?_
      refine st_if ?_
      refine EVT.go (b := (decide (record_here.path = path))) (evt_test (K := K) (ev_op (ev_op (ev_var (d := (.im (eRc record_here))) (i := 2) rfl hr2) ev_int (od_ixL (es := [D.str record_here.path, D.str record_here.mark, (eL (eH2 D.str D.int)) record_here.cols]) LsOf.im rfl)) (ev_vs (i := 1) rfl) od_eqS)) g4.wd fun H5 wd2 s4 => ?_
      have g5 := g4.same s4
      refine wite hw (fun hw => ?_) (fun hw => ?_)
      · skip
        refine st_ret ?_
        have h4 : rV K (mxM M0 []) H5 (.im (eRc record_here)) x2 := (hr2.same s4)
        refine EV.go (K := K) (d := (.im (eRc record_here))) (ev_var (d := (.im (eRc record_here))) (i := 2) rfl h4) g5.wd fun v3 H6 wd3 s5 h5 => ?_
        have g6 := g5.same s5
        exact kk _ _ _ hw g6.w_end (Bu.nil g6.bu eY) (rV.lx Gd.lx_end h5)
      · skip
        refine Lf.st_next ?_
        exact ⟨_, rfl, g5, ((l.trans (Lx.same s3)).trans (Lx.same s4)), hw⟩
    · rintro σ' H7 ⟨o, rfl, g7, l2, hI5⟩
      have hw := hI3 hI5
      unfold W_l_record_k1 at hw
      try dsimp only [gName]
      refine st_norm (σ' := [some v2, some (V.str path), o]) rfl ?_
      refine st_ret ?_
      have h6 : rV K (mxM M0 []) H7 (.im ((eL eRc) records_here)) v2 := (rV.lx l2 (h3.same s2))
      obtain ⟨c, hw⟩ := hw
      refine EV.go (K := K) (d := (.im (eRc (ixD records_here 0)))) (ev_op (ev_var (d := (.im ((eL eRc) records_here))) (i := 0) rfl h6) ev_int (od_ixLm (en := eRc) (xs := records_here) LsOf.im c)) g7.wd fun v4 H8 wd4 s6 h7 => ?_
      have g8 := g7.same s6
      exact kk _ _ _ hw g8.w_end (Bu.nil g8.bu eY) (rV.lx Gd.lx_end h7)
def hstep (rs : List Rc) (r : Rc) : Rc := if r.mark ∈ (["!", "?"] : List Str) then recOf rs (above r.path) else r
def headOf (rs : List Rc) (p : Str) : Str := (hstep rs (hstep rs (hstep rs (recOf rs p)))).path
def pre_head (rs : List Rc) (p : Str) : Prop := rs ≠ [] ∧ ∀ r ∈ rs, r.path.length ≤ sizeLine
theorem hstep_mem {rs : List Rc} {r : Rc} (h : rs ≠ []) (hr : r ∈ rs) : hstep rs r ∈ rs := by
  unfold hstep
  split
  · exact recOf_mem h
  · exact hr
def W_l_head_k2 (records_here : (List Rc)) (record_here3 : Rc) (P : Str → Prop) (nx : Rc → Prop) : Prop :=
  nx record_here3
def W_l_head_b1 (records_here : (List Rc)) (record_here2 : Rc) (P : Str → Prop) (nx : Rc → Prop) : Prop :=
  (if (decide (record_here2.mark ∈ (["!", "?"] : (List Str)))) = true then (((record_here2.path : Str).length ≤ sizeLine) ∧ (pre_rec records_here ((Txt.rpartition record_here2.path "_").1)) ∧ ∀ record_here4 : Rc, record_here4 = (recOf records_here ((Txt.rpartition record_here2.path "_").1)) → W_l_head_k2 records_here record_here4 P nx) else (W_l_head_k2 records_here record_here2 P nx))
def W_l_head_k1 (record_here2 : Rc) (P : Str → Prop) : Prop :=
  P record_here2.path
def W_l_head (records_here : (List Rc)) (path : Str) (P : Str → Prop) : Prop :=
  (pre_rec records_here path) ∧ ∀ record_here : Rc, record_here = (recOf records_here path) → (-(2 ^ 62) ≤ (3 : Int)) ∧ ((3 : Int) < 2 ^ 62) ∧ ∃ Inv : Nat → Rc → Prop, Inv 0 record_here ∧ (∀ (i : Nat) (k : Int) (record_here2 : Rc), (rngI 0 3)[i]? = some k → Inv i record_here2 → W_l_head_b1 records_here record_here2 P (Inv (i + 1))) ∧ (∀ (record_here2 : Rc), Inv (rngI 0 3).length record_here2 → W_l_head_k1 record_here2 P)
theorem dW_l_head {rs : List Rc} {p : Str} (h : pre_head rs p) (P : Str → Prop) (hP : P (headOf rs p)) : W_l_head rs p P := by
  obtain ⟨h0, hl⟩ := h
  refine ⟨h0, ?_⟩
  rintro _ rfl
  refine ⟨by decide, by decide, fun i r => r ∈ rs ∧ r = Nat.rec (recOf rs p) (fun _ r => hstep rs r) i, ⟨recOf_mem h0, rfl⟩, ?_, ?_⟩
  · rintro i k r hk ⟨hr, e⟩
    have e' : hstep rs r = Nat.rec (recOf rs p) (fun _ r => hstep rs r) (i + 1) := by rw [e]
    unfold W_l_head_b1 W_l_head_k2
    by_cases hm : r.mark ∈ (["!", "?"] : List Str)
    · rw [if_pos (decide_eq_true hm)]
      refine ⟨hl r hr, h0, ?_⟩
      rintro _ rfl
      have : hstep rs r = recOf rs (Txt.rpartition r.path "_").1 := if_pos hm
      rw [← this]
      exact ⟨hstep_mem h0 hr, e'⟩
    · rw [if_neg (by simpa using hm)]
      have : hstep rs r = r := if_neg hm
      rw [this] at e'
      exact ⟨hr, e'⟩
  · rintro r ⟨hr, e⟩
    unfold W_l_head_k1
    rw [e]
    exact hP
def sp_l_head (K : PySem.W.Frag) : Sp := spF K (fun (x : (List Rc) × Str) => [(eL eRc) x.1, D.str x.2]) D.str (fun (x : (List Rc) × Str) => pre_head x.1 x.2) (fun (x : (List Rc) × Str) => headOf x.1 x.2)
theorem cd_l_head {E : XK} (records_here : (List Rc)) (path : Str) (hp : pre_head records_here path) : CaD K (fun vs H Q => sp_l_head K vs H Q E) [.im ((eL eRc) records_here), .im (D.str path)] (.im (D.str (headOf records_here path))) := cd_fn (ens := (fun (x : (List Rc) × Str) => [(eL eRc) x.1, D.str x.2])) (er := D.str) (records_here, path) hp
theorem sc_l_head : FnScope ["_law_records_here", "_law_path", "_law_record_here", "_law_k"] ["_law_records_here", "_law_path"] (defScope s_l_head) := ⟨rfl, rfl, rfl, by decide +kernel, rfl, by decide +kernel, by decide +kernel⟩
theorem ok_l_head (T : Txt K mg a) : FnOk P w K mg base CX0 2 a.f_l_head a.d_l_head ["_law_records_here", "_law_path"] (sp_l_head K) := by
  refine T.F_l_head.ok sc_l_head (fun vs H Q E h => ?_) (fun cdv A outer s H vs Q E hr h => ?_)
  · obtain ⟨M0, x, w0, hx, _⟩ := h
    exact hx.len
  · obtain ⟨M0, x, w0, hx, hp, kq⟩ := h
    obtain ⟨records_here, path⟩ := x
    have hx : rDs K (Fx M0 H) [(eL eRc) records_here, D.str path] vs := hx
    obtain ⟨v2, _, rfl, h3, v, _, rfl, h2, rfl⟩ := hx
    obtain ⟨Y, eY⟩ : ∃ Y : List Addr, Y = [] := ⟨_, rfl⟩
    have g : Gd M0 [] Y H H := Gd.start w0 (by rw [eY]; exact fun y h => nomatch h)
    have h3 : rV K (mxM M0 []) H (.im ((eL eRc) records_here)) v2 := rV.lx Gd.lx0 (show rV K M0 H (.im ((eL eRc) records_here)) v2 from h3)
    cases (show v = (V.str path) from h2)
    obtain ⟨P, eP⟩ : ∃ P : Str → Prop, P = fun r => r = headOf records_here path := ⟨_, rfl⟩
    have kk : ∀ r v H2, P r → Wd M0 H2 → Same H H2 → rD K (Fx M0 H2) (D.str r) v → Q v H2 := fun r v H2 e => by rw [eP] at e; rw [show r = headOf records_here path from e]; exact kq v H2
    have hw : W_l_head records_here path P := dW_l_head hp P (by rw [eP])
    unfold W_l_head at hw
    refine ⟨_, (pss_cons (ps_set (i := 2) sc_l_head.nd rfl (.inl rfl) (pe_call (ok_l_record T) (hr.mono (by decide)) rfl T.m_l_record T.k_l_record T.a_l_record .nil pass0 (pa_cons (pv 0) (pa_cons (pv 1) pa_nil))))
      (pss_cons (ps_for PassesOwn.never rfl (pi_range1 (by rfl) T.b_range (pa_cons pe_int pa_nil)) (pg_name (i := 3) sc_l_head.nd rfl (.inl rfl))
      (pss_cons (ps_if (pt_cmpR op_in_seq (pe_ix ix_list (pv 2) pe_int (fun _ _ => rfl)) (pe_tupS (pa_cons pe_str (pa_cons pe_str pa_nil))) rfl) (pss_cons (ps_set (i := 2) sc_l_head.nd rfl (.inl rfl) (pe_call (ok_l_record T) (hr.mono (by decide)) rfl T.m_l_record T.k_l_record T.a_l_record .nil pass0 (pa_cons (pv 0) (pa_cons (pe_ix ix_tup (pe_rpart (pe_ix ix_list (pv 2) pe_int (fun _ _ => rfl)) pe_str) pe_int (fun _ _ => rfl)) pa_nil))))
      pss_nil) pss_nil)
      pss_nil))
      (pss_cons (ps_ret (pe_ix ix_list (pv 2) pe_int (fun _ _ => rfl)))
      pss_nil))), ?_⟩
    refine st_set ?_
    obtain ⟨c, hw⟩ := hw
    refine EV.goA (K := K) (en := eRc) (x0 := (recOf records_here path)) (ev_call (eva_cons (ev_var (d := (.im ((eL eRc) records_here))) (i := 0) rfl h3) (eva_cons (ev_vs (i := 1) rfl) eva_nil)) (cd_l_record records_here path c)) g.wd fun record_here e v3 H2 wd s2 h4 => ?_
    have hw := hw record_here e
    have g2 := g.same s2
    try dsimp only [gName]
    refine st_norm (σ' := [some v2, some (V.str path), some v3, none]) rfl ?_
    refine st_for ?_
    obtain ⟨c2, c3, hw⟩ := hw
    refine EVI.gom (K := K) (en := D.int) (xs := (rngI 0 3)) (evi_range1 (eva_cons ev_int eva_nil) c2 c3) g2.wd fun J H3 wd2 s3 wk => ?_
    have g3 := g2.same s3
    obtain ⟨Inv, hI, hI2, hI3⟩ := hw
    have h6 : rV K (mxM M0 []) H3 (.im (eRc record_here)) v3 := (h4.same s3)
    refine st_forit wk (fun i σ' H' => ∃ (v4 : V) (record_here2 : Rc) (o : Option V), σ' = [some v2, some (V.str path), some v4, o] ∧ Gd M0 [] Y H H' ∧ Lx (mxM M0 []) (mxM M0 []) H3 H' ∧ rV K (mxM M0 []) H' (.im (eRc record_here2)) v4 ∧ Inv i record_here2) ⟨_, record_here, _, rfl, g3, Lx.refl, h6, hI⟩ (fun i σ' H' _ ⟨_, _, _, _, _, hl, _⟩ => ⟨_, hl⟩) ?_ ?_
    · rintro i x2 σ' H4 H5 hi ⟨v4, record_here2, o, rfl, g4, l, h5, hI4⟩ yd
      obtain ⟨k, hy, s4, hr2⟩ := yd_map yd
      have hw := hI2 i k  record_here2 hy hI4
      have hr2 := hr2 _ g4.wd l
      have g5 := g4.same s4
      cases (show x2 = (V.int k) from hr2)
      unfold W_l_head_b1 at hw
      try dsimp only [gName]
      refine st_norm (σ' := [some v2, some (V.str path), some v4, some (V.int k)]) rfl ?_
      try dsimp only [gName]
      refine if_cut (fun σ' H' => ∃ (v5 : V) (record_here3 : Rc), σ' = [some v2, some (V.str path), some v5, some (V.int k)] ∧ Gd M0 [] Y H H' ∧ Lx (mxM M0 []) (mxM M0 []) H5 H' ∧ rV K (mxM M0 []) H' (.im (eRc record_here3)) v5 ∧ W_l_head_k2 records_here record_here3 P (Inv (i + 1))) (fun nx hnx => ?_) ?_
      · have h8 : rV K (mxM M0 []) H5 (.im (eRc record_here2)) v4 := (h5.same s4)
        refine EVT.go (b := (decide (record_here2.mark ∈ (["!", "?"] : (List Str))))) (evt_test (K := K) (ev_op (ev_op (ev_var (d := (.im (eRc record_here2))) (i := 2) rfl h8) ev_int (od_ixL (es := [D.str record_here2.path, D.str record_here2.mark, (eL (eH2 D.str D.int)) record_here2.cols]) LsOf.im rfl)) (ev_tup (ds := [D.str "!", D.str "?"]) (eva_cons ev_str (eva_cons ev_str eva_nil)) (Nat.le_of_ble_eq_true rfl)) (od_inS (xs := (["!", "?"] : (List Str))) (.inr rfl)))) g5.wd fun H6 wd3 s5 => ?_
        have g6 := g5.same s5
        refine wite hw (fun hw => ?_) (fun hw => ?_)
        · skip
          refine st_set ?_
          have h9 : rV K (mxM M0 []) H6 (.im ((eL eRc) records_here)) v2 := (((rV.lx l ((h3.same s2).same s3)).same s4).same s5)
          have h10 : rV K (mxM M0 []) H6 (.im (eRc record_here2)) v4 := (h8.same s5)
          obtain ⟨c5, c6, hw⟩ := hw
          refine EV.goA (K := K) (en := eRc) (x0 := (recOf records_here ((Txt.rpartition record_here2.path "_").1))) (ev_call (eva_cons (ev_var (d := (.im ((eL eRc) records_here))) (i := 0) rfl h9) (eva_cons (ev_op (ev_m1 (ev_op (ev_var (d := (.im (eRc record_here2))) (i := 2) rfl h10) ev_int (od_ixL (es := [D.str record_here2.path, D.str record_here2.mark, (eL (eH2 D.str D.int)) record_here2.cols]) LsOf.im rfl)) ev_str (md_rpart rfl c5)) ev_int (od_ixT (es := [D.str ((Txt.rpartition record_here2.path "_").1), D.str ((Txt.rpartition record_here2.path "_").2.1), D.str ((Txt.rpartition record_here2.path "_").2.2)]) rfl)) eva_nil)) (cd_l_record records_here ((Txt.rpartition record_here2.path "_").1) c6)) g6.wd fun record_here4 e2 v6 H7 wd4 s6 h11 => ?_
          have hw := hw record_here4 e2
          have g7 := g6.same s6
          exact hnx _ _ ⟨_, record_here4, rfl, g7, ((Lx.same s5).trans (Lx.same s6)), h11, hw⟩
        · skip
          have h12 : rV K (mxM M0 []) H6 (.im (eRc record_here2)) v4 := (h8.same s5)
          exact hnx _ _ ⟨_, record_here2, rfl, g6, (Lx.same s5), h12, hw⟩
      rintro σ' H8 ⟨v5, record_here3, rfl, g8, l2, h7, hw⟩
      exact ⟨_, record_here3, _, rfl, g8, ((l.trans (Lx.same s4)).trans l2), h7, hw⟩
    · rintro σ' H9 ⟨v4, record_here2, o, rfl, g9, l3, h5, hI5⟩
      have hw := hI3 record_here2 hI5
      unfold W_l_head_k1 at hw
      try dsimp only [gName]
      refine st_norm (σ' := [some v2, some (V.str path), some v4, o]) rfl ?_
      refine st_ret ?_
      refine EV.go (K := K) (d := (.im (D.str record_here2.path))) (ev_op (ev_var (d := (.im (eRc record_here2))) (i := 2) rfl h5) ev_int (od_ixL (es := [D.str record_here2.path, D.str record_here2.mark, (eL (eH2 D.str D.int)) record_here2.cols]) LsOf.im rfl)) g9.wd fun v7 H10 wd5 s7 h13 => ?_
      have g10 := g9.same s7
      exact kk _ _ _ hw g10.w_end (Bu.nil g10.bu eY) (rV.lx Gd.lx_end h13)

end
end Toy

set_option Elab.async false
set_option linter.all false
set_option maxRecDepth 100000
set_option maxHeartbeats 4000000
set_option pp.maxSteps 1500
set_option pp.deepTerms false
namespace Toy
open PySem L2 Lf
section
variable {P : Program} {w : World} {K : PySem.W.Frag} {mg : Str → Option Value} {base : Heap} {a : Ad}

def groupOf (rs : List Rc) (h : Str) : List Str := rs.foldl (fun f r => if r.mark ∈ (["!", "?"] : List Str) ∧ above r.path ∈ f then f ++ [r.path] else f) [h]
def pre_group (rs : List Rc) (h : Str) : Prop := rs.length < 1000 ∧ ∀ r ∈ rs, r.path.length ≤ sizeLine
def W_l_group_k2 (found2 : (List Str)) (P : (List Str) → Prop) (nx : (List Str) → Prop) : Prop :=
  nx found2
def W_l_group_b1 (found : (List Str)) (record_here : Rc) (P : (List Str) → Prop) (nx : (List Str) → Prop) : Prop :=
  ((decide (record_here.mark ∈ (["!", "?"] : (List Str)))) = true → (record_here.path : Str).length ≤ sizeLine) ∧ (if ((decide (record_here.mark ∈ (["!", "?"] : (List Str)))) && (decide (((Txt.rpartition record_here.path "_").1) ∈ found))) = true then ((found.length < sizeLine) ∧ ∀ found3 : (List Str), found3 = (found ++ [record_here.path]) → W_l_group_k2 found3 P nx) else (W_l_group_k2 found P nx))
def W_l_group_k1 (found : (List Str)) (P : (List Str) → Prop) : Prop :=
  P found
def W_l_group (records_here : (List Rc)) (head_here : Str) (P : (List Str) → Prop) : Prop :=
  ∃ Inv : Nat → (List Str) → Prop, Inv 0 ([head_here] : (List Str)) ∧ (∀ (i : Nat) (record_here : Rc) (found : (List Str)), records_here[i]? = some record_here → Inv i found → W_l_group_b1 found record_here P (Inv (i + 1))) ∧ (∀ (found : (List Str)), Inv records_here.length found → W_l_group_k1 found P)
theorem dW_l_group {rs : List Rc} {h : Str} (hp : pre_group rs h) (P : List Str → Prop) (hP : P (groupOf rs h)) : W_l_group rs h P := by
  refine ⟨fun i f => f = (rs.take i).foldl (fun f r => if r.mark ∈ (["!", "?"] : List Str) ∧ above r.path ∈ f then f ++ [r.path] else f) [h] ∧ f.length ≤ i + 1, ⟨rfl, Nat.le_refl _⟩, ?_, ?_⟩
  · rintro i r f hr ⟨e, hf⟩
    have tk := take_fold (fun f (r : Rc) => if r.mark ∈ (["!", "?"] : List Str) ∧ above r.path ∈ f then f ++ [r.path] else f) [h] rs hr
    rw [← e] at tk
    have hi := (List.getElem?_eq_some_iff.mp hr).1
    have hi2 := hp.1
    unfold W_l_group_b1 W_l_group_k2
    refine ⟨fun _ => hp.2 r (List.mem_of_getElem? hr), ?_⟩
    by_cases c : r.mark ∈ (["!", "?"] : List Str) ∧ above r.path ∈ f
    · rw [if_pos (by rw [decide_eq_true c.1, show decide ((Txt.rpartition r.path "_").1 ∈ f) = true from decide_eq_true c.2]; rfl)]
      refine ⟨sz_lt (by omega), ?_⟩
      rintro _ rfl
      exact ⟨by rw [tk, if_pos c], by rw [List.length_append]; show f.length + 1 ≤ i + 1 + 1; omega⟩
    · rw [if_neg (fun z => c (by
        rw [Bool.and_eq_true] at z
        exact ⟨of_decide_eq_true z.1, of_decide_eq_true z.2⟩))]
      exact ⟨by rw [tk, if_neg c], by omega⟩
  · rintro f ⟨e, _⟩
    unfold W_l_group_k1
    rw [List.take_length] at e
    rw [e]
    exact hP
def sp_l_group (K : PySem.W.Frag) : Sp := spF K (fun (x : (List Rc) × Str) => [(eL eRc) x.1, D.str x.2]) (eL D.str) (fun (x : (List Rc) × Str) => pre_group x.1 x.2) (fun (x : (List Rc) × Str) => groupOf x.1 x.2)
theorem cd_l_group {E : XK} (records_here : (List Rc)) (head_here : Str) (hp : pre_group records_here head_here) : CaD K (fun vs H Q => sp_l_group K vs H Q E) [.im ((eL eRc) records_here), .im (D.str head_here)] (.im ((eL D.str) (groupOf records_here head_here))) := cd_fn (ens := (fun (x : (List Rc) × Str) => [(eL eRc) x.1, D.str x.2])) (er := (eL D.str)) (records_here, head_here) hp
theorem sc_l_group : FnScope ["_law_records_here", "_law_head_here", "_law_found", "_law_record_here"] ["_law_records_here", "_law_head_here"] (defScope s_l_group) := ⟨rfl, rfl, rfl, by decide +kernel, rfl, by decide +kernel, by decide +kernel⟩
theorem ok_l_group (T : Txt K mg a) : FnOk P w K mg base CX0 1 a.f_l_group a.d_l_group ["_law_records_here", "_law_head_here"] (sp_l_group K) := by
  refine T.F_l_group.ok sc_l_group (fun vs H Q E h => ?_) (fun cdv A outer s H vs Q E hr h => ?_)
  · obtain ⟨M0, x, w0, hx, _⟩ := h
    exact hx.len
  · obtain ⟨M0, x, w0, hx, hp, kq⟩ := h
    obtain ⟨records_here, head_here⟩ := x
    have hx : rDs K (Fx M0 H) [(eL eRc) records_here, D.str head_here] vs := hx
    obtain ⟨v2, _, rfl, h3, v, _, rfl, h2, rfl⟩ := hx
    obtain ⟨Y, eY⟩ : ∃ Y : List Addr, Y = [] := ⟨_, rfl⟩
    have g : Gd M0 [] Y H H := Gd.start w0 (by rw [eY]; exact fun y h => nomatch h)
    have h3 : rV K (mxM M0 []) H (.im ((eL eRc) records_here)) v2 := rV.lx Gd.lx0 (show rV K M0 H (.im ((eL eRc) records_here)) v2 from h3)
    cases (show v = (V.str head_here) from h2)
    obtain ⟨P, eP⟩ : ∃ P : (List Str) → Prop, P = fun r => r = groupOf records_here head_here := ⟨_, rfl⟩
    have kk : ∀ r v H2, P r → Wd M0 H2 → Same H H2 → rD K (Fx M0 H2) ((eL D.str) r) v → Q v H2 := fun r v H2 e => by rw [eP] at e; rw [show r = groupOf records_here head_here from e]; exact kq v H2
    have hw : W_l_group records_here head_here P := dW_l_group hp P (by rw [eP])
    unfold W_l_group at hw
    refine ⟨_, (pss_cons (ps_set (i := 2) sc_l_group.nd rfl (.inl rfl) (pe_lstS (pa_cons (pv 1) pa_nil)))
      (pss_cons (ps_for PassesOwn.never rfl (pi_list (pv 0)) (pg_name (i := 3) sc_l_group.nd rfl (.inl rfl))
      (pss_cons (ps_if (PW.pt (pw_and (pt_cmpR op_in_seq (pe_ix ix_list (pv 3) pe_int (fun _ _ => rfl)) (pe_tupS (pa_cons pe_str (pa_cons pe_str pa_nil))) rfl) (pw_and1 (pt_cmpR op_in_seq (pe_ix ix_tup (pe_rpart (pe_ix ix_list (pv 3) pe_int (fun _ _ => rfl)) pe_str) pe_int (fun _ _ => rfl)) (pv 2) rfl)))) (pss_cons (ps_expr (pe_bm PySem.F.plainAttrs_list PySem.F.slot_list_append PySem.F.type_list_append mt_append (pv 2) (pa_cons (pe_ix ix_list (pv 3) pe_int (fun _ _ => rfl)) pa_nil)))
      pss_nil) pss_nil)
      pss_nil))
      (pss_cons (ps_ret (pv 2))
      pss_nil))), ?_⟩
    refine st_set ?_
    refine EVN.go (K := K) (evn_lst (ds := [D.str head_here]) (eva_cons (ev_vs (i := 1) rfl) eva_nil) (Nat.le_of_ble_eq_true rfl)) g.wd fun p H2 H3 wd s2 np s3 vs2 hp2 hv => ?_
    have g2 := g.same s2
    have ex := Gd.ex_new (M0 := M0) (Ls := []) s3 np
    have g3 := g2.new s3 np hp2
    have h4 : rV K (mxM M0 [p]) H3 (.mu p (List.map D.str ([head_here] : (List Str)))) (V.ref p) := ⟨rfl, vs2, hp2, rDs.mono ex.lx _ _ hv⟩
    try dsimp only [gName]
    refine st_norm (σ' := [some v2, some (V.str head_here), some (V.ref p), none]) rfl ?_
    refine st_for ?_
    have h5 : rV K (mxM M0 [p]) H3 (.im ((eL eRc) records_here)) v2 := ((h3.same s2).ex ex)
    refine EVI.gom (K := K) (en := eRc) (xs := records_here) (evi_list (es := List.map eRc records_here) (ev_var (d := (.im ((eL eRc) records_here))) (i := 0) rfl h5)) g3.wd fun J H4 wd2 s4 wk => ?_
    have g4 := g3.same s4
    have h6 := rV.same s4 h4
    obtain ⟨Inv, hI, hI2, hI3⟩ := hw
    refine st_forit wk (fun i σ' H' => ∃ (found : (List Str)) (o : Option V), σ' = [some v2, some (V.str head_here), some (V.ref p), o] ∧ Gd M0 [p] Y H H' ∧ Lx (mxM M0 [p]) (mxM M0 [p]) H4 H' ∧ rV K (mxM M0 [p]) H' (.mu p (List.map D.str found)) (V.ref p) ∧ Inv i found) ⟨([head_here] : (List Str)), _, rfl, g4, Lx.refl, h6, hI⟩ (fun i σ' H' _ ⟨_, _, _, _, hl, _⟩ => ⟨_, hl⟩) ?_ ?_
    · rintro i x2 σ' H5 H6 hi ⟨found, o, rfl, g5, l, h7, hI4⟩ yd
      obtain ⟨record_here, hy, s5, hr2⟩ := yd_map yd
      have hw := hI2 i record_here  found hy hI4
      have hr2 := hr2 _ g5.wd l
      have g6 := g5.same s5
      have h8 := rV.same s5 h7
      have hr2 : rV K (mxM M0 [p]) H6 (.im (eRc record_here)) x2 := hr2
      unfold W_l_group_b1 at hw
      try dsimp only [gName]
      refine st_norm (σ' := [some v2, some (V.str head_here), some (V.ref p), some x2]) rfl ?_
      try dsimp only [gName]
      refine if_cut (fun σ' H' => ∃ (found2 : (List Str)), σ' = [some v2, some (V.str head_here), some (V.ref p), some x2] ∧ Gd M0 [p] Y H H' ∧ Lx (mxM M0 [p]) (mxM M0 [p]) H6 H' ∧ rV K (mxM M0 [p]) H' (.mu p (List.map D.str found2)) (V.ref p) ∧ W_l_group_k2 found2 P (Inv (i + 1))) (fun nx hnx => ?_) ?_
      · obtain ⟨c2, hw⟩ := hw
        refine EVT.go (b := ((decide (record_here.mark ∈ (["!", "?"] : (List Str)))) && (decide (((Txt.rpartition record_here.path "_").1) ∈ found)))) (evt_and (evt_test (K := K) (ev_op (ev_op (ev_var (d := (.im (eRc record_here))) (i := 3) rfl hr2) ev_int (od_ixL (es := [D.str record_here.path, D.str record_here.mark, (eL (eH2 D.str D.int)) record_here.cols]) LsOf.im rfl)) (ev_tup (ds := [D.str "!", D.str "?"]) (eva_cons ev_str (eva_cons ev_str eva_nil)) (Nat.le_of_ble_eq_true rfl)) (od_inS (xs := (["!", "?"] : (List Str))) (.inr rfl)))) fun hb => (evt_test (K := K) (ev_op (ev_op (ev_m1 (ev_op (ev_var (d := (.im (eRc record_here))) (i := 3) rfl hr2) ev_int (od_ixL (es := [D.str record_here.path, D.str record_here.mark, (eL (eH2 D.str D.int)) record_here.cols]) LsOf.im rfl)) ev_str (md_rpart rfl (c2 hb))) ev_int (od_ixT (es := [D.str ((Txt.rpartition record_here.path "_").1), D.str ((Txt.rpartition record_here.path "_").2.1), D.str ((Txt.rpartition record_here.path "_").2.2)]) rfl)) (ev_var (d := (.mu p (List.map D.str found))) (i := 2) rfl h8) (od_inS (xs := found) (.inl LsOf.mu))))) g6.wd fun H7 wd3 s6 => ?_
        have g7 := g6.same s6
        have h10 := rV.same s6 h8
        refine wite hw (fun hw => ?_) (fun hw => ?_)
        · skip
          refine st_expr ?_
          refine x_bm (ev_var (d := (.mu p (List.map D.str found))) (i := 2) rfl h10) LsOf.mu g7.wd fun v3 H8 wd4 s7 h11 => ?_
          have g8 := g7.same s7
          have h12 := rV.same s7 h10
          cases h11.1
          refine x_cons ?_
          have h13 : rV K (mxM M0 [p]) H8 (.im (eRc record_here)) x2 := ((hr2.same s6).same s7)
          refine EV.go (K := K) (d := (.im (D.str record_here.path))) (ev_op (ev_var (d := (.im (eRc record_here))) (i := 3) rfl h13) ev_int (od_ixL (es := [D.str record_here.path, D.str record_here.mark, (eL (eH2 D.str D.int)) record_here.cols]) LsOf.im rfl)) g8.wd fun v4 H9 wd5 s8 h14 => ?_
          have g9 := g8.same s8
          have h15 := rV.same s8 h12
          cases (show v4 = (V.str record_here.path) from h14)
          refine x_nil ?_
          obtain ⟨c3, hw⟩ := hw
          refine x_append (d := D.str record_here.path) h15 rfl (by simp) (by rw [List.length_map]; exact c3) fun H10 ⟨vs3, eu⟩ h16 => ?_
          obtain ⟨found3, efound3⟩ : ∃ z_ : (List Str), z_ = (found ++ [record_here.path]) := ⟨_, rfl⟩
          have hw := hw found3 efound3
          have h16 : rV K (mxM M0 [p]) H10 (.mu p (List.map D.str found3)) (V.ref p) := by rw [efound3, List.map_append]; exact h16
          subst eu
          have g10 : Gd M0 [p] Y H (upd H9 p (.lst vs3)) := g9.upd (by simp)
          have l2 : Lx (mxM M0 [p]) (mxM M0 [p]) H9 (upd H9 p (.lst vs3)) := Gd.lx_upd (by simp)
          exact hnx _ _ ⟨found3, rfl, g10, ((((Lx.same s6).trans (Lx.same s7)).trans (Lx.same s8)).trans l2), h16, hw⟩
        · skip
          exact hnx _ _ ⟨found, rfl, g7, (Lx.same s6), h10, hw⟩
      rintro σ' H11 ⟨found2, rfl, g11, l3, h9, hw⟩
      exact ⟨found2, _, rfl, g11, ((l.trans (Lx.same s5)).trans l3), h9, hw⟩
    · rintro σ' H12 ⟨found, o, rfl, g12, l4, h7, hI5⟩
      have hw := hI3 found hI5
      unfold W_l_group_k1 at hw
      try dsimp only [gName]
      refine st_norm (σ' := [some v2, some (V.str head_here), some (V.ref p), o]) rfl ?_
      refine st_ret ?_
      refine EV.go (K := K) (d := (.mu p (List.map D.str found))) (ev_var (d := (.mu p (List.map D.str found))) (i := 2) rfl h7) g12.wd fun v5 H13 wd6 s9 h17 => ?_
      have g13 := g12.same s9
      have h18 := rV.same s9 h7
      exact kk _ _ _ hw g13.w_end (Bu.nil g13.bu eY) (mu_ret h17 g13 (by simp))
def seenOf (h p : Str) : Str := if h = "" then p else cutS p (some ((h.length : Int) + 1)) none
def pre_seen (h p : Str) : Prop := h.length ≤ sizeLine ∧ p.length ≤ sizeLine
def W_l_seen (head_here : Str) (path : Str) (P : Str → Prop) : Prop :=
  (if (decide (head_here = "")) = true then (P path) else (((head_here : Str).length ≤ sizeLine) ∧ ((path : Str).length ≤ sizeLine) ∧ P (cutS path (some (((head_here : Str).length : Int) + 1)) none)))
theorem dW_l_seen {h p : Str} (hp : pre_seen h p) (P : Str → Prop) (hP : P (seenOf h p)) : W_l_seen h p P := by
  unfold W_l_seen
  unfold seenOf at hP
  by_cases e : h = ""
  · rw [if_pos e] at hP
    rw [if_pos (decide_eq_true e)]
    exact hP
  · rw [if_neg e] at hP
    rw [if_neg (by simpa using e)]
    exact ⟨hp.1, hp.2, hP⟩
def sp_l_seen (K : PySem.W.Frag) : Sp := spF K (fun (x : Str × Str) => [D.str x.1, D.str x.2]) D.str (fun (x : Str × Str) => pre_seen x.1 x.2) (fun (x : Str × Str) => seenOf x.1 x.2)
theorem cd_l_seen {E : XK} (head_here : Str) (path : Str) (hp : pre_seen head_here path) : CaD K (fun vs H Q => sp_l_seen K vs H Q E) [.im (D.str head_here), .im (D.str path)] (.im (D.str (seenOf head_here path))) := cd_fn (ens := (fun (x : Str × Str) => [D.str x.1, D.str x.2])) (er := D.str) (head_here, path) hp
theorem sc_l_seen : FnScope ["_law_head_here", "_law_path"] ["_law_head_here", "_law_path"] (defScope s_l_seen) := ⟨rfl, rfl, rfl, by decide +kernel, rfl, by decide +kernel, by decide +kernel⟩
theorem ok_l_seen (T : Txt K mg a) : FnOk P w K mg base CX0 1 a.f_l_seen a.d_l_seen ["_law_head_here", "_law_path"] (sp_l_seen K) := by
  refine T.F_l_seen.ok sc_l_seen (fun vs H Q E h => ?_) (fun cdv A outer s H vs Q E hr h => ?_)
  · obtain ⟨M0, x, w0, hx, _⟩ := h
    exact hx.len
  · obtain ⟨M0, x, w0, hx, hp, kq⟩ := h
    obtain ⟨head_here, path⟩ := x
    have hx : rDs K (Fx M0 H) [D.str head_here, D.str path] vs := hx
    obtain ⟨v2, _, rfl, h3, v, _, rfl, h2, rfl⟩ := hx
    obtain ⟨Y, eY⟩ : ∃ Y : List Addr, Y = [] := ⟨_, rfl⟩
    have g : Gd M0 [] Y H H := Gd.start w0 (by rw [eY]; exact fun y h => nomatch h)
    cases (show v2 = (V.str head_here) from h3)
    cases (show v = (V.str path) from h2)
    obtain ⟨P, eP⟩ : ∃ P : Str → Prop, P = fun r => r = seenOf head_here path := ⟨_, rfl⟩
    have kk : ∀ r v H2, P r → Wd M0 H2 → Same H H2 → rD K (Fx M0 H2) (D.str r) v → Q v H2 := fun r v H2 e => by rw [eP] at e; rw [show r = seenOf head_here path from e]; exact kq v H2
    have hw : W_l_seen head_here path P := dW_l_seen hp P (by rw [eP])
    unfold W_l_seen at hw
    refine ⟨_, (pss_cons (ps_if (pt_cmpR op_eq (pv 0) pe_str (nomark _)) (pss_cons (ps_ret (pv 1))
      pss_nil) pss_nil)
      (pss_cons (ps_ret (pe_slice sl_str (pv 1) (po_some (pe_op op_add (pe_callB call_len_str (by rfl) T.b_len PySem.boot_len (pa_cons (pv 0) pa_nil)) pe_int)) po_none))
      pss_nil)), ?_⟩
    refine st_if ?_
    refine EVT.go (b := (decide (head_here = ""))) (evt_test (K := K) (ev_op (ev_vs (i := 0) rfl) ev_str od_eqS)) g.wd fun H2 wd s2 => ?_
    have g2 := g.same s2
    refine wite hw (fun hw => ?_) (fun hw => ?_)
    · skip
      refine st_ret ?_
      refine EV.go (K := K) (d := (.im (D.str path))) (ev_vs (i := 1) rfl) g2.wd fun v3 H3 wd2 s3 h4 => ?_
      have g3 := g2.same s3
      exact kk _ _ _ hw g3.w_end (Bu.nil g3.bu eY) (rV.lx Gd.lx_end h4)
    · skip
      refine Lf.st_next ?_
      refine st_ret ?_
      obtain ⟨c, c2, hw⟩ := hw
      refine EV.go (K := K) (d := (.im (D.str (cutS path (some (((head_here : Str).length : Int) + 1)) none)))) (ev_slS c2 (ev_vs (i := 1) rfl) (evo_some (K := K) (ev_op (ev_cb (eva_cons (ev_vs (i := 0) rfl) eva_nil) (cd_lenS c)) ev_int od_add)) evo_none) g2.wd fun v4 H4 wd3 s4 h5 => ?_
      have g4 := g2.same s4
      exact kk _ _ _ hw g4.w_end (Bu.nil g4.bu eY) (rV.lx Gd.lx_end h5)

end
end Toy

set_option Elab.async false
set_option linter.all false
set_option maxRecDepth 100000
set_option maxHeartbeats 4000000
set_option pp.maxSteps 1500
set_option pp.deepTerms false
namespace Toy
open PySem L2 Lf
section
variable {P : Program} {w : World} {K : PySem.W.Frag} {mg : Str → Option Value} {base : Heap} {a : Ad}
def nameOf (p : Str) : Str := (Txt.rpartition p "_").2.2
def klm : List Nat := [107, 108, 109, 110, 112]
def ColOk (cs : List (Str × Int)) : Prop := (cs.length = 1 ∨ cs.length = 2 ∧ ∀ c ∈ cs, c.2 = 1) ∧ ∀ c ∈ cs, 1 ≤ c.2 ∧ c.2 ≤ 3 ∧ c.1.length ≤ 10
structure WfR (rcs : List Rc) : Prop where
  root : ∃ cs, rcs[0]? = some ⟨"", "", cs⟩
  up : ∀ (i : Nat) (rc : Rc), 1 ≤ i → rcs[i]? = some rc → ∃ (u : Nat) (rcu : Rc), u < i ∧ rcs[u]? = some rcu ∧ above rc.path = rcu.path
  nm : ∀ (i : Nat) (rc : Rc), 1 ≤ i → rcs[i]? = some rc → ∃ c t, klm[i - 1]? = some c ∧ TL.tl (nameOf rc.path) = c :: t
  mr : ∀ (i : Nat) (rc : Rc), 1 ≤ i → rcs[i]? = some rc → rc.mark = "*" ∨ rc.mark = "!" ∨ rc.mark = "?"
  co : ∀ rc ∈ rcs, ColOk rc.cols
  ln : ∀ (i : Nat) (rc : Rc), rcs[i]? = some rc → rc.path.length ≤ 5 * i
  le : rcs.length ≤ 6
theorem WfR.small {rcs : List Rc} (h : WfR rcs) {rc : Rc} (hr : rc ∈ rcs) : rc.path.length ≤ 30 := by
  obtain ⟨i, hi⟩ := List.mem_iff_getElem?.mp hr
  have h1 := h.ln i rc hi
  have h2 := h.le
  have h3 := (List.getElem?_eq_some_iff.mp hi).1
  omega
theorem name_plain {w : Str} (hw : 95 ∉ TL.tl w) : nameOf w = w := by
  unfold nameOf Txt.rpartition
  rcases StrLaws.last_spec w "_" with ⟨e, _⟩ | ⟨i, e, hi, _⟩
  · rw [e]
  · exfalso
    have h : w.cps.toList[i]? = some 95 := (StrLaws.subAt_one w 95 i).mp (by rw [← us_eq]; exact hi)
    exact hw (List.mem_of_getElem? h)
theorem klm_tl : TL.tl "klmnp" = klm := by decide +kernel
theorem WfR.one {cs : List (Str × Int)} (h : ColOk cs) : WfR [⟨"", "", cs⟩] where
  root := ⟨cs, rfl⟩
  up := fun i rc h1 e => by
    have := (List.getElem?_eq_some_iff.mp e).1
    simp at this
    omega
  nm := fun i rc h1 e => by
    have := (List.getElem?_eq_some_iff.mp e).1
    simp at this
    omega
  mr := fun i rc h1 e => by
    have := (List.getElem?_eq_some_iff.mp e).1
    simp at this
    omega
  co := fun rc hr => by rw [List.mem_singleton.mp hr]; exact h
  ln := fun i rc e => by
    have := (List.getElem?_eq_some_iff.mp e).1
    simp at this
    subst this
    cases e
    exact Nat.zero_le _
  le := (by show 1 ≤ 6; decide)
theorem WfR.snoc {rcs : List Rc} {rc rcu : Rc} {u c : Nat} {t : List Nat} (h : WfR rcs) (h5 : rcs.length ≤ 5) (hu : rcs[u]? = some rcu) (hab : above rc.path = rcu.path) (hc : klm[rcs.length - 1]? = some c) (hn : TL.tl (nameOf rc.path) = c :: t)
    (hm : rc.mark = "*" ∨ rc.mark = "!" ∨ rc.mark = "?") (hco : ColOk rc.cols) (hl : rc.path.length ≤ rcu.path.length + 5) : WfR (rcs ++ [rc]) := by
  have ul : u < rcs.length := (List.getElem?_eq_some_iff.mp hu).1
  have at_ : ∀ {i : Nat} {x : Rc}, (rcs ++ [rc])[i]? = some x → (i < rcs.length ∧ rcs[i]? = some x) ∨ (i = rcs.length ∧ x = rc) := fun {i x} e => by
    by_cases hi : i < rcs.length
    · rw [List.getElem?_append_left hi] at e
      exact .inl ⟨hi, e⟩
    · rw [List.getElem?_append_right (by omega)] at e
      have hz : i - rcs.length = 0 := by
        have := (List.getElem?_eq_some_iff.mp e).1
        simp at this
        omega
      rw [hz] at e
      cases e
      exact .inr ⟨by omega, rfl⟩
  have inl : ∀ {i : Nat} {x : Rc}, rcs[i]? = some x → (rcs ++ [rc])[i]? = some x := fun {i x} e => by
    rw [List.getElem?_append_left (List.getElem?_eq_some_iff.mp e).1]
    exact e
  refine ⟨?_, fun i x h1 e => ?_, fun i x h1 e => ?_, fun i x h1 e => ?_, fun x hx => ?_, fun i x e => ?_, by rw [List.length_append]; show rcs.length + 1 ≤ 6; omega⟩
  · obtain ⟨cs, e⟩ := h.root
    exact ⟨cs, inl e⟩
  · rcases at_ e with ⟨hi, e⟩ | ⟨rfl, rfl⟩
    · obtain ⟨v, rv, h2, h3, h4⟩ := h.up i x h1 e
      exact ⟨v, rv, h2, inl h3, h4⟩
    · exact ⟨u, rcu, ul, inl hu, hab⟩
  · rcases at_ e with ⟨hi, e⟩ | ⟨rfl, rfl⟩
    · exact h.nm i x h1 e
    · exact ⟨c, t, hc, hn⟩
  · rcases at_ e with ⟨hi, e⟩ | ⟨rfl, rfl⟩
    · exact h.mr i x h1 e
    · exact hm
  · rcases List.mem_append.mp hx with hx | hx
    · exact h.co x hx
    · rw [List.mem_singleton.mp hx]
      exact hco
  · rcases at_ e with ⟨hi, e⟩ | ⟨rfl, rfl⟩
    · exact h.ln i x e
    · have := h.ln u rcu hu
      omega

def S_records (n : Nat) (most top : Int) (P : List Rc → Nat → Prop) : Prop := n < 2 ^ 50 ∧ 0 < most ∧ most ≤ 5 ∧ 0 < top ∧ top ≤ 3 ∧ ∀ rs m, WfR rs → 2 ≤ rs.length → m ≤ n + 100 → P rs m
def W_l_records_k6 (top : Int) (records_here2 : (List Rc)) (full2 : (List Str)) (mark2 : Str) (many2 : Int) (path3 : Str) (n17 : Nat) (P : (List Rc) → Nat → Prop) (nx : (List Rc) → (List Str) → Nat → Prop) : Prop :=
  S_word n17 "e" (fun r10 n18 => (records_here2.length < sizeLine) ∧ ∀ records_here3 : (List Rc), records_here3 = (records_here2 ++ [(Rc.mk path3 mark2 [(r10, many2)])]) → nx records_here3 full2 n18)
def W_l_records_k5 (top : Int) (records_here2 : (List Rc)) (full2 : (List Str)) (k : Int) (upper2 : Rc) (mark2 : Str) (many2 : Int) (n15 : Nat) (P : (List Rc) → Nat → Prop) (nx : (List Rc) → (List Str) → Nat → Prop) : Prop :=
  (("klmnp" : Str).length ≤ sizeLine) ∧ (InB ("klmnp" : Str).cps.toList k) ∧ S_word n15 (ixS "klmnp" k) (fun path2 n16 => (if (!decide (upper2.path = "")) = true then (((upper2.path : Str).length + ("_" : Str).length ≤ sizeLine) ∧ (((upper2.path ++ "_") : Str).length + (path2 : Str).length ≤ sizeLine) ∧ ∀ path4 : Str, path4 = ((upper2.path ++ "_") ++ path2) → W_l_records_k6 top records_here2 full2 mark2 many2 path4 n16 P nx) else (W_l_records_k6 top records_here2 full2 mark2 many2 path2 n16 P nx)))
def W_l_records_k4 (top : Int) (records_here2 : (List Rc)) (full : (List Str)) (k : Int) (upper2 : Rc) (mark2 : Str) (head_here : Str) (many : Int) (n14 : Nat) (P : (List Rc) → Nat → Prop) (nx : (List Rc) → (List Str) → Nat → Prop) : Prop :=
  (if (!decide (mark2 = "*")) = true then ((full.length < sizeLine) ∧ ∀ full3 : (List Str), full3 = (full ++ [head_here]) → W_l_records_k5 top records_here2 full3 k upper2 mark2 1 n14 P nx) else (W_l_records_k5 top records_here2 full k upper2 mark2 many n14 P nx))
def W_l_records_k3 (top : Int) (records_here2 : (List Rc)) (full : (List Str)) (k : Int) (upper2 : Rc) (n11 : Nat) (P : (List Rc) → Nat → Prop) (nx : (List Rc) → (List Str) → Nat → Prop) : Prop :=
  S_draw n11 6 (fun r8 n12 => (CMul r8 (if k < 1 then k else 1)) ∧ (("****!?" : Str).length ≤ sizeLine) ∧ (InB ("****!?" : Str).cps.toList (r8 * (if k < 1 then k else 1))) ∧ ∀ mark : Str, mark = (ixS "****!?" (r8 * (if k < 1 then k else 1))) → (pre_head records_here2 upper2.path) ∧ ∀ head_here : Str, head_here = (headOf records_here2 upper2.path) → S_draw n12 top (fun r9 n13 => ∀ many : Int, many = (1 + r9) → (if (decide (head_here ∈ full)) = true then (∀ mark3 : Str, mark3 = "*" → W_l_records_k4 top records_here2 full k upper2 mark3 head_here many n13 P nx) else (W_l_records_k4 top records_here2 full k upper2 mark head_here many n13 P nx))))
def W_l_records_b2 (top : Int) (records_here2 : (List Rc)) (full : (List Str)) (k : Int) (n9 : Nat) (P : (List Rc) → Nat → Prop) (nx : (List Rc) → (List Str) → Nat → Prop) : Prop :=
  S_draw n9 (records_here2.length : Int) (fun r7 n10 => (InB records_here2 r7) ∧ ∀ upper : Rc, upper = (ixD records_here2 r7) → (if (decide ((Txt.count upper.path "_" : Int) = 2)) = true then ((InB records_here2 0) ∧ ∀ upper3 : Rc, upper3 = (ixD records_here2 0) → W_l_records_k3 top records_here2 full k upper3 n10 P nx) else (W_l_records_k3 top records_here2 full k upper n10 P nx)))
def W_l_records_k2 (records_here2 : (List Rc)) (n9 : Nat) (P : (List Rc) → Nat → Prop) : Prop :=
  P records_here2 n9
def W_l_records_k1 (most : Int) (top : Int) (records_here : (List Rc)) (n4 : Nat) (P : (List Rc) → Nat → Prop) : Prop :=
  S_draw n4 most (fun r6 n8 => (-(2 ^ 62) ≤ ((r6 + 1) : Int)) ∧ (((r6 + 1) : Int) < 2 ^ 62) ∧ ∃ Inv : Nat → (List Rc) → (List Str) → Nat → Prop, Inv 0 records_here ([] : (List Str)) n8 ∧ (∀ (i : Nat) (k : Int) (records_here2 : (List Rc)) (full : (List Str)) (n9 : Nat), (rngI 0 (r6 + 1))[i]? = some k → Inv i records_here2 full n9 → W_l_records_b2 top records_here2 full k n9 P (Inv (i + 1))) ∧ (∀ (records_here2 : (List Rc)) (full : (List Str)) (n9 : Nat), Inv (rngI 0 (r6 + 1)).length records_here2 full n9 → W_l_records_k2 records_here2 n9 P))
def W_l_records (n : Nat) (most : Int) (top : Int) (P : (List Rc) → Nat → Prop) : Prop :=
  S_word n "c" (fun r n2 => S_draw n2 top (fun r2 n3 => S_draw n3 4 (fun r3 n5 => (if (decide (r3 = 1)) = true then (S_word n5 "c" (fun r4 n6 => S_word n6 "d" (fun r5 n7 => W_l_records_k1 most top ([(Rc.mk "" "" [(r4, 1), (r5, 1)])]) n7 P))) else (W_l_records_k1 most top ([(Rc.mk "" "" [(r, (1 + r2))])]) n5 P)))))
theorem len1 : (Str.ofString "c").length = 1 ∧ (Str.ofString "d").length = 1 ∧ (Str.ofString "e").length = 1 ∧ (Str.ofString "_").length = 1 := by decide +kernel
theorem dW_l_records {n : Nat} {most top : Int} {P : List Rc → Nat → Prop} (h : S_records n most top P) : W_l_records n most top P := by
  obtain ⟨hn, p0, p1, q0, q1, k⟩ := h
  obtain ⟨lc, ld, le, lu⟩ := len1
  -- the loop
  have LOOP : ∀ cs m, ColOk cs → m ≤ n + 16 → W_l_records_k1 most top [Rc.mk "" "" cs] m P := by
    intro cs m hco hm
    refine ⟨by omega, p0, by omega, fun r r0 r1 => ⟨by omega, by omega, fun i rs fs j => WfR rs ∧ rs.length = i + 1 ∧ fs.length ≤ i ∧ j ≤ m + 1 + 14 * i, ⟨WfR.one hco, rfl, Nat.le_refl _, Nat.le_refl _⟩, ?_, ?_⟩⟩
    · rintro i c rs fs j hi ⟨hW, hlen, hfl, hj⟩
      have hi' := (List.getElem?_eq_some_iff.mp hi).1
      rw [rngI_len] at hi'
      have ci : c = i := by
        rw [rngI_get (by omega)] at hi
        have := Option.some.inj hi
        omega
      subst ci
      have i5 : i < 5 := by omega
      -- behind the choice of the upper one
      have K4 : ∀ (u : Nat) (rcu : Rc) (j : Nat), rs[u]? = some rcu → j ≤ m + 2 + 14 * i → W_l_records_k3 top rs fs i rcu j P (fun rs fs j => WfR rs ∧ rs.length = i + 1 + 1 ∧ fs.length ≤ i + 1 ∧ j ≤ m + 1 + 14 * (i + 1)) := by
        intro u rcu j hu hj
        have um : rcu ∈ rs := List.mem_of_getElem? hu
        have pl := hW.small um
        refine ⟨by omega, by decide, by decide, fun r r0 r1 => ?_⟩
        have mi : (if (i : Int) < 1 then (i : Int) else 1) = 0 ∨ (if (i : Int) < 1 then (i : Int) else 1) = 1 := by split <;> omega
        dsimp only
        generalize (if (i : Int) < 1 then (i : Int) else 1) = mi0 at mi ⊢
        have ji : 0 ≤ r * mi0 ∧ r * mi0 < 6 := by
          rcases mi with e | e <;> rw [e] <;> omega
        have l6 : (Str.ofString "****!?").cps.toList.length = 6 := by decide +kernel
        have hb : InB (Str.ofString "****!?").cps.toList (r * mi0) := ⟨by omega, by rw [l6]; exact ji.2⟩
        obtain ⟨c, hc, ec⟩ := ixS_mem hb
        refine ⟨.inl ⟨by omega, by omega⟩, by decide +kernel, hb, ?_⟩
        rintro mk0 hmk0
        have hmk : mk0 = "*" ∨ mk0 = "!" ∨ mk0 = "?" := by
          rw [hmk0, ec]
          rw [show (Str.ofString "****!?").cps.toList = [42, 42, 42, 42, 33, 63] by decide +kernel] at hc
          have hc2 : c = 42 ∨ c = 33 ∨ c = 63 := by
            simp only [List.mem_cons, List.not_mem_nil, or_false] at hc
            omega
          rcases hc2 with rfl | rfl | rfl
          · exact .inl (by decide +kernel)
          · exact .inr (.inl (by decide +kernel))
          · exact .inr (.inr (by decide +kernel))
        clear hmk0 ec hc hb
        refine ⟨⟨(fun e => by rw [e] at um; cases um), fun x hx => sz_of (by have := hW.small hx; omega)⟩, ?_⟩
        rintro hd -
        refine ⟨by omega, q0, by omega, fun r9 r90 r91 => ?_⟩
        rintro many rfl
        -- behind the mark
        have K5 : ∀ mk : Str, (mk = "*" ∨ mk = "!" ∨ mk = "?") → W_l_records_k4 top rs fs i rcu mk hd (1 + r9) (j + 1 + 1) P (fun rs fs j => WfR rs ∧ rs.length = i + 1 + 1 ∧ fs.length ≤ i + 1 ∧ j ≤ m + 1 + 14 * (i + 1)) := by
          intro mk hmk
          have K6 : ∀ fs many, fs.length ≤ i + 1 → 1 ≤ many → many ≤ 3 → W_l_records_k5 top rs fs i rcu mk many (j + 1 + 1) P (fun rs fs j => WfR rs ∧ rs.length = i + 1 + 1 ∧ fs.length ≤ i + 1 ∧ j ≤ m + 1 + 14 * (i + 1)) := by
            intro fs many hfs m0 m1
            have hb : InB (Str.ofString "klmnp").cps.toList (i : Int) := by
              refine ⟨by omega, ?_⟩
              rw [show (Str.ofString "klmnp").cps.toList.length = 5 by decide +kernel]
              omega
            have hk : klm[i]? = some (klm[i]'(by show i < 5; omega)) := List.getElem?_eq_getElem _
            have ek : ixS "klmnp" (i : Int) = ⟨#[klm[i]'(by show i < 5; omega)]⟩ := by
              unfold ixS
              rw [show (Str.ofString "klmnp").cps.toList = klm from klm_tl, atI_nat hk]
              rfl
            refine ⟨by decide +kernel, hb, by omega, by rw [ek]; show 1 ≤ 10; decide, fun w1 j1 W1 hj1 => ?_⟩
            have hc95 : 95 ∉ TL.tl (ixS "klmnp" (i : Int)) := by
              rw [ek]
              intro z
              have : (95 : Nat) = klm[i]'(by show i < 5; omega) := List.mem_singleton.mp z
              have h2 : klm[i]'(by show i < 5; omega) ∈ klm := List.getElem_mem _
              rw [← this] at h2
              exact absurd h2 (by decide)
            have w95 := W1.us hc95
            have wl := W1.len
            have l1 : (ixS "klmnp" (i : Int)).length = 1 := by rw [ek]; rfl
            obtain ⟨t1, tw, _, _⟩ := id W1
            have twc : TL.tl w1 = klm[i]'(by show i < 5; omega) :: t1 := by rw [tw, ek]; rfl
            have K7 : ∀ p, above p = rcu.path → nameOf p = w1 → p.length ≤ rcu.path.length + 5 → W_l_records_k6 top rs fs mk many p j1 P (fun rs fs j => WfR rs ∧ rs.length = i + 1 + 1 ∧ fs.length ≤ i + 1 ∧ j ≤ m + 1 + 14 * (i + 1)) := by
              intro p hab hnm hpl
              refine ⟨by omega, by decide +kernel, fun w2 j2 W2 hj2 => ⟨sz_lt (by omega), ?_⟩⟩
              rintro _ rfl
              refine ⟨hW.snoc (rc := ⟨p, mk, [(w2, many)]⟩) (by omega) hu hab (c := klm[i]'(by show i < 5; omega)) (t := t1) (by rw [hlen, Nat.add_sub_cancel]; exact hk) (by show TL.tl (nameOf p) = _; rw [hnm]; exact twc) hmk ⟨.inl rfl, fun c hc => ?_⟩ hpl, by rw [List.length_append, hlen]; rfl, hfs, by omega⟩
              rw [List.mem_singleton.mp hc]
              have := W2.len
              exact ⟨m0, m1, by show w2.length ≤ 10; omega⟩
            dsimp only
            by_cases e : rcu.path = ""
            · rw [if_neg (by rw [decide_eq_true e]; exact fun z => nomatch z)]
              refine K7 w1 ?_ (name_plain w95) (by omega)
              rw [e]
              exact above_plain w95
            · rw [if_pos (by rw [decide_eq_false e]; rfl)]
              have e1 : (rcu.path ++ "_" ++ w1).length = rcu.path.length + 1 + w1.length := by
                rw [TL.len_tl, TL.tl_append, TL.tl_append, List.length_append, List.length_append, ← TL.len_tl, ← TL.len_tl, ← TL.len_tl, lu]
              have e2 : (rcu.path ++ "_").length = rcu.path.length + 1 := by
                rw [TL.len_tl, TL.tl_append, List.length_append, ← TL.len_tl, ← TL.len_tl, lu]
              refine ⟨sz_of (by rw [lu]; omega), sz_of (by rw [e2]; omega), ?_⟩
              rintro _ rfl
              exact K7 _ (above_join w95) (rpart_join w95).2 (by rw [e1]; omega)
          unfold W_l_records_k4
          by_cases e : mk = "*"
          · rw [if_neg (by rw [decide_eq_true e]; exact fun z => nomatch z)]
            exact K6 fs _ (by omega) (by omega) (by omega)
          · rw [if_pos (by rw [decide_eq_false e]; rfl)]
            refine ⟨sz_lt (by omega), ?_⟩
            rintro _ rfl
            exact K6 _ 1 (by rw [List.length_append]; show fs.length + 1 ≤ i + 1; omega) (by decide) (by decide)
        by_cases e : hd ∈ fs
        · rw [if_pos (decide_eq_true e)]
          rintro _ rfl
          exact K5 "*" (.inl rfl)
        · rw [if_neg (by simpa using e)]
          exact K5 mk0 hmk
      refine ⟨by omega, by omega, by omega, fun r r0 r1 => ?_⟩
      have hb : InB rs r := ⟨by omega, by omega⟩
      refine ⟨hb, ?_⟩
      obtain ⟨u, rfl⟩ : ∃ u : Nat, r = u := ⟨r.toNat, by omega⟩
      have hu : u < rs.length := by omega
      rintro rcu rfl
      have eu : ixD rs (u : Int) = rs[u] := ixD_nat (List.getElem?_eq_getElem hu)
      split
      · refine ⟨⟨by omega, by omega⟩, ?_⟩
        rintro _ rfl
        have h0 : 0 < rs.length := by omega
        have e0 : ixD rs 0 = rs[0] := ixD_nat (i := 0) (List.getElem?_eq_getElem h0)
        rw [e0]
        exact K4 0 _ _ (List.getElem?_eq_getElem h0) (by omega)
      · rw [eu]
        exact K4 u _ _ (List.getElem?_eq_getElem hu) (by omega)
    · rintro rs fs j ⟨hW, hlen, hfl, hj⟩
      rw [rngI_len] at hlen hj
      exact k rs j hW (by omega) (by omega)
  refine ⟨by omega, by decide +kernel, fun w1 n1 W1 h1 => ⟨by omega, q0, by omega, fun r2 r20 r21 => ⟨by omega, by decide, by decide, fun r3 r30 r31 => ?_⟩⟩⟩
  dsimp only
  split
  · refine ⟨by omega, by decide +kernel, fun w2 n2 W2 h2 => ⟨by omega, by decide +kernel, fun w3 n3 W3 h3 => LOOP _ _ ⟨.inr ⟨rfl, fun c hc => ?_⟩, fun c hc => ?_⟩ (by omega)⟩⟩
    · simp only [List.mem_cons, List.not_mem_nil, or_false] at hc
      rcases hc with rfl | rfl <;> rfl
    · have := W2.len
      have := W3.len
      simp only [List.mem_cons, List.not_mem_nil, or_false] at hc
      rcases hc with rfl | rfl
      · exact ⟨Int.le_refl 1, (by show (1 : Int) ≤ 3; decide), by show w2.length ≤ 10; omega⟩
      · exact ⟨Int.le_refl 1, (by show (1 : Int) ≤ 3; decide), by show w3.length ≤ 10; omega⟩
  · refine LOOP _ _ ⟨.inl rfl, fun c hc => ?_⟩ (by omega)
    rw [List.mem_singleton.mp hc]
    have := W1.len
    exact ⟨by show 1 ≤ 1 + r2; omega, by show 1 + r2 ≤ 3; omega, by show w1.length ≤ 10; omega⟩
def sp_l_records (K : PySem.W.Frag) : Sp := spS SMA K (fun (x : Int × Int) => [D.int x.1, D.int x.2]) (eL eRc) (fun n (x : Int × Int) P => S_records n x.1 x.2 P)
theorem sc_l_records : FnScope ["_law_state", "_law_most", "_law_top", "_law_records_here", "_law_full", "_law_k", "_law_upper", "_law_mark", "_law_head_here", "_law_many", "_law_path"] ["_law_state", "_law_most", "_law_top"] (defScope s_l_records) := ⟨rfl, rfl, rfl, by decide +kernel, rfl, by decide +kernel, by decide +kernel⟩
theorem ok_l_records (T : Txt K mg a) : FnOk P w K mg base CX0 3 a.f_l_records a.d_l_records ["_law_state", "_law_most", "_law_top"] (sp_l_records K) := by
  refine T.F_l_records.ok sc_l_records (fun vs H Q E h => ?_) (fun cdv A outer s H vs Q E hr h => ?_)
  · obtain ⟨M0, st, Y, n, x, us, P, rfl, w0, ys, hS, hx, _⟩ := h
    exact congrArg Nat.succ hx.len
  · obtain ⟨M0, st, Y, n, x, us, P, rfl, w0, ys, hS, hx, hS0, kk⟩ := h
    obtain ⟨most, top⟩ := x
    have hx : rDs K (Fx M0 H) [D.int most, D.int top] us := hx
    obtain ⟨v2, _, rfl, h3, v, _, rfl, h2, rfl⟩ := hx
    have g : Gd M0 [] Y H H := Gd.start w0 ys
    cases (show v2 = (V.int most) from h3)
    cases (show v = (V.int top) from h2)
    have hw := dW_l_records hS0
    unfold W_l_records at hw
    refine ⟨_, (pss_cons (ps_set (i := 3) sc_l_records.nd rfl (.inl rfl) (pe_lstS (pa_cons (pe_lstS (pa_cons pe_str (pa_cons pe_str (pa_cons (pe_lstS (pa_cons (pe_lstS (pa_cons (pe_call (ok_l_word T) (hr.mono (by decide)) rfl T.m_l_word T.k_l_word T.a_l_word .nil pass0 (pa_cons (pv 0) (pa_cons pe_str pa_nil))) (pa_cons (pe_op op_add pe_int (pe_call (ok_l_draw T) (hr.mono (by decide)) rfl T.m_l_draw T.k_l_draw T.a_l_draw .nil pass0 (pa_cons (pv 0) (pa_cons (pv 2) pa_nil)))) pa_nil))) pa_nil)) pa_nil)))) pa_nil)))
      (pss_cons (ps_if (pt_cmpR op_eq (pe_call (ok_l_draw T) (hr.mono (by decide)) rfl T.m_l_draw T.k_l_draw T.a_l_draw .nil pass0 (pa_cons (pv 0) (pa_cons pe_int pa_nil))) pe_int (nomark _)) (pss_cons (ps_set (i := 3) sc_l_records.nd rfl (.inl rfl) (pe_lstS (pa_cons (pe_lstS (pa_cons pe_str (pa_cons pe_str (pa_cons (pe_lstS (pa_cons (pe_lstS (pa_cons (pe_call (ok_l_word T) (hr.mono (by decide)) rfl T.m_l_word T.k_l_word T.a_l_word .nil pass0 (pa_cons (pv 0) (pa_cons pe_str pa_nil))) (pa_cons pe_int pa_nil))) (pa_cons (pe_lstS (pa_cons (pe_call (ok_l_word T) (hr.mono (by decide)) rfl T.m_l_word T.k_l_word T.a_l_word .nil pass0 (pa_cons (pv 0) (pa_cons pe_str pa_nil))) (pa_cons pe_int pa_nil))) pa_nil))) pa_nil)))) pa_nil)))
      pss_nil) pss_nil)
      (pss_cons (ps_set (i := 4) sc_l_records.nd rfl (.inl rfl) (pe_lstS pa_nil))
      (pss_cons (ps_for PassesOwn.never rfl (pi_range1 (by rfl) T.b_range (pa_cons (pe_op op_add (pe_call (ok_l_draw T) (hr.mono (by decide)) rfl T.m_l_draw T.k_l_draw T.a_l_draw .nil pass0 (pa_cons (pv 0) (pa_cons (pv 1) pa_nil))) pe_int) pa_nil)) (pg_name (i := 5) sc_l_records.nd rfl (.inl rfl))
      (pss_cons (ps_set (i := 6) sc_l_records.nd rfl (.inl rfl) (pe_ix ix_list (pv 3) (pe_call (ok_l_draw T) (hr.mono (by decide)) rfl T.m_l_draw T.k_l_draw T.a_l_draw .nil pass0 (pa_cons (pv 0) (pa_cons (pe_callB call_len_seq (by rfl) T.b_len PySem.boot_len (pa_cons (pv 3) pa_nil)) pa_nil))) (fun _ _ => rfl)))
      (pss_cons (ps_if (pt_cmpR op_eq (pe_m1 PySem.F.slot_str_count PySem.F.type_str_count mt_count (pe_ix ix_list (pv 6) pe_int (fun _ _ => rfl)) pe_str) pe_int (nomark _)) (pss_cons (ps_set (i := 6) sc_l_records.nd rfl (.inl rfl) (pe_ix ix_list (pv 3) pe_int (fun _ _ => rfl)))
      pss_nil) pss_nil)
      (pss_cons (ps_set (i := 7) sc_l_records.nd rfl (.inl rfl) (pe_ix ix_str pe_str (pe_op op_mul (pe_call (ok_l_draw T) (hr.mono (by decide)) rfl T.m_l_draw T.k_l_draw T.a_l_draw .nil pass0 (pa_cons (pv 0) (pa_cons pe_int pa_nil))) (pe_callB (call_min2 rfl) (by rfl) T.b_min (by decide +kernel) (pa_cons pe_int (pa_cons (pv 5) pa_nil)))) (fun _ _ => rfl)))
      (pss_cons (ps_set (i := 8) sc_l_records.nd rfl (.inl rfl) (pe_call (ok_l_head T) (hr.mono (by decide)) rfl T.m_l_head T.k_l_head T.a_l_head .nil pass0 (pa_cons (pv 3) (pa_cons (pe_ix ix_list (pv 6) pe_int (fun _ _ => rfl)) pa_nil))))
      (pss_cons (ps_set (i := 9) sc_l_records.nd rfl (.inl rfl) (pe_op op_add pe_int (pe_call (ok_l_draw T) (hr.mono (by decide)) rfl T.m_l_draw T.k_l_draw T.a_l_draw .nil pass0 (pa_cons (pv 0) (pa_cons (pv 2) pa_nil)))))
      (pss_cons (ps_if (pt_cmpR op_in_seq (pv 8) (pv 4) rfl) (pss_cons (ps_set (i := 7) sc_l_records.nd rfl (.inl rfl) pe_str)
      pss_nil) pss_nil)
      (pss_cons (ps_if (pt_cmpR op_ne (pv 7) pe_str (nomark _)) (pss_cons (ps_expr (pe_bm PySem.F.plainAttrs_list PySem.F.slot_list_append PySem.F.type_list_append mt_append (pv 4) (pa_cons (pv 8) pa_nil)))
      (pss_cons (ps_set (i := 9) sc_l_records.nd rfl (.inl rfl) pe_int)
      pss_nil)) pss_nil)
      (pss_cons (ps_set (i := 10) sc_l_records.nd rfl (.inl rfl) (pe_call (ok_l_word T) (hr.mono (by decide)) rfl T.m_l_word T.k_l_word T.a_l_word .nil pass0 (pa_cons (pv 0) (pa_cons (pe_ix ix_str pe_str (pv 5) (fun _ _ => rfl)) pa_nil))))
      (pss_cons (ps_if (pt_cmpR op_ne (pe_ix ix_list (pv 6) pe_int (fun _ _ => rfl)) pe_str (nomark _)) (pss_cons (ps_set (i := 10) sc_l_records.nd rfl (.inl rfl) (pe_op op_add_str (pe_op op_add_str (pe_ix ix_list (pv 6) pe_int (fun _ _ => rfl)) pe_str) (pv 10)))
      pss_nil) pss_nil)
      (pss_cons (ps_expr (pe_bm PySem.F.plainAttrs_list PySem.F.slot_list_append PySem.F.type_list_append mt_append (pv 3) (pa_cons (pe_lstS (pa_cons (pv 10) (pa_cons (pv 7) (pa_cons (pe_lstS (pa_cons (pe_lstS (pa_cons (pe_call (ok_l_word T) (hr.mono (by decide)) rfl T.m_l_word T.k_l_word T.a_l_word .nil pass0 (pa_cons (pv 0) (pa_cons pe_str pa_nil))) (pa_cons (pv 9) pa_nil))) pa_nil)) pa_nil)))) pa_nil)))
      pss_nil)))))))))))
      (pss_cons (ps_ret (pv 3))
      pss_nil))))), ?_⟩
    refine st_set ?_
    refine x_lst ?_
    refine x_cons ?_
    refine x_lst ?_
    refine x_cons ?_
    refine EV.go (K := K) (d := (.im (D.str ""))) ev_str g.wd fun v3 H2 wd s2 h4 => ?_
    have g2 := g.same s2
    have hS := hS.same s2
    cases (show v3 = (V.str "") from h4)
    refine x_cons ?_
    refine EV.go (K := K) (d := (.im (D.str ""))) ev_str g2.wd fun v4 H3 wd2 s3 h5 => ?_
    have g3 := g2.same s3
    have hS2 := hS.same s3
    cases (show v4 = (V.str "") from h5)
    refine x_cons ?_
    refine x_lst ?_
    refine x_cons ?_
    refine x_lst ?_
    refine x_cons ?_
    refine x_call ?_
    refine x_cons ?_
    refine ⟨_, rfl, ?_⟩
    refine x_cons ?_
    refine EV.go (K := K) (d := (.im (D.str "c"))) ev_str g3.wd fun v6 H5 wd4 s5 h7 => ?_
    have g4 := g3.same s5
    have hS3 := hS2.same s5
    cases (show v6 = (V.str "c") from h7)
    refine x_nil ?_
    refine ⟨mxM M0 [], st, Y, n, "c", _, _, rfl, g4.wd, fun y hy => .inl (g4.ys y hy), hS3, ⟨_, _, rfl, rfl, rfl⟩, hw, fun r v7 n2 H6 hw wd5 b hS4 h8 => ?_⟩
    have g5 := g4.call wd5 b
    have l := Gd.lx_call g4 b
    cases (show v7 = (V.str r) from h8)
    refine x_cons ?_
    refine x_op ?_
    refine EV.go (K := K) (d := (.im (D.int 1))) ev_int g5.wd fun v8 H7 wd6 s6 h9 => ?_
    have g6 := g5.same s6
    have hS5 := hS4.same s6
    cases (show v8 = (V.int 1) from h9)
    refine x_call ?_
    refine x_cons ?_
    refine ⟨_, rfl, ?_⟩
    refine x_cons ?_
    refine EV.go (K := K) (d := (.im (D.int top))) (ev_vi (i := 2) rfl) g6.wd fun v10 H9 wd8 s8 h11 => ?_
    have g7 := g6.same s8
    have hS6 := hS5.same s8
    cases (show v10 = (V.int top) from h11)
    refine x_nil ?_
    refine ⟨mxM M0 [], st, Y, n2, top, _, _, rfl, g7.wd, fun y hy => .inl (g7.ys y hy), hS6, ⟨_, _, rfl, rfl, rfl⟩, hw, fun r2 v11 n3 H10 hw wd9 b2 hS7 h12 => ?_⟩
    have g8 := g7.call wd9 b2
    have l2 := Gd.lx_call g7 b2
    cases (show v11 = (V.int r2) from h12)
    refine opd_go (K := K) (d := (.im (D.int 1))) (e := (.im (D.int r2))) (f := .im (D.int (1 + r2))) od_add g8.wd rfl rfl fun v12 H11 wd10 s9 h13 => ?_
    have g9 := g8.same s9
    have hS8 := hS7.same s9
    cases (show v12 = (V.int (1 + r2)) from h13)
    refine x_nil ?_
    refine ⟨(by show 2 ≤ sizeLine; decide), fun p H12 np s10 hp2 => ?_⟩
    have h14 : rV K (mxM M0 []) H12 (.im ((eH2 D.str D.int) (r, (1 + r2)))) (V.ref p) := (show rD K _ (.lst [D.str r, D.int (1 + r2)]) _ from ⟨_, _, rfl, g9.wd.new np hp2, rDs.same (show rDs K _ [D.str r, D.int (1 + r2)] _ from ⟨_, _, rfl, rfl, ⟨_, _, rfl, rfl, rfl⟩⟩) s10⟩)
    have g10 := g9.same s10
    have hS9 := hS8.same s10
    refine x_nil ?_
    refine ⟨(by show 1 ≤ sizeLine; decide), fun p2 H13 np2 s11 hp3 => ?_⟩
    have h15 : rV K (mxM M0 []) H13 (.im ((eL (eH2 D.str D.int)) [(r, (1 + r2))])) (V.ref p2) := (show rD K _ (.lst [(eH2 D.str D.int) (r, (1 + r2))]) _ from ⟨_, _, rfl, g10.wd.new np2 hp3, rDs.same (show rDs K _ [(eH2 D.str D.int) (r, (1 + r2))] _ from ⟨_, _, rfl, h14, rfl⟩) s11⟩)
    have g11 := g10.same s11
    have hS10 := hS9.same s11
    refine x_nil ?_
    refine ⟨(by show 3 ≤ sizeLine; decide), fun p3 H14 np3 s12 hp4 => ?_⟩
    have h16 : rV K (mxM M0 []) H14 (.im (eRc (Rc.mk "" "" [(r, (1 + r2))]))) (V.ref p3) := (show rD K _ (.lst [D.str "", D.str "", (eL (eH2 D.str D.int)) [(r, (1 + r2))]]) _ from ⟨_, _, rfl, g11.wd.new np3 hp4, rDs.same (show rDs K _ [D.str "", D.str "", (eL (eH2 D.str D.int)) [(r, (1 + r2))]] _ from ⟨_, _, rfl, rfl, ⟨_, _, rfl, rfl, ⟨_, _, rfl, h15, rfl⟩⟩⟩) s12⟩)
    have g12 := g11.same s12
    have hS11 := hS10.same s12
    refine x_nil ?_
    refine ⟨(by show 1 ≤ sizeLine; decide), fun p4 H15 np4 s13 hp5 => ?_⟩
    have hv : rDs K (Fx (mxM M0 []) H14) (List.map eRc ([(Rc.mk "" "" [(r, (1 + r2))])])) _ := ⟨_, _, rfl, h16, rfl⟩
    have ex := Gd.ex_new (M0 := M0) (Ls := []) s13 np4
    have g13 := g12.new s13 np4 hp5
    have hS12 := hS11.same s13
    have h17 : rV K (mxM M0 [p4]) H15 (.mu p4 (List.map eRc ([(Rc.mk "" "" [(r, (1 + r2))])]))) (V.ref p4) := ⟨rfl, _, hp5, rDs.mono ex.lx _ _ hv⟩
    try dsimp only [gName]
    refine st_norm (σ' := [some (V.ref st), some (V.int most), some (V.int top), some (V.ref p4), none, none, none, none, none, none, none]) rfl ?_
    try dsimp only [gName]
    refine if_cut (fun σ' H' => ∃ (p5 : Addr) (records_here : (List Rc)) (n4 : Nat), σ' = [some (V.ref st), some (V.int most), some (V.int top), some (V.ref p5), none, none, none, none, none, none, none] ∧ Gd M0 [p5] Y H H' ∧ Lx (mxM M0 [p4]) (mxM M0 [p5]) H15 H' ∧ rV K (mxM M0 [p5]) H' (.mu p5 (List.map eRc records_here)) (V.ref p5) ∧ SMA H' st Y n4 ∧ W_l_records_k1 most top records_here n4 P) (fun nx hnx => ?_) ?_
    · refine x_test ?_
      refine x_op ?_
      refine x_call ?_
      refine x_cons ?_
      refine ⟨_, rfl, ?_⟩
      refine x_cons ?_
      refine EV.go (K := K) (d := (.im (D.int 4))) ev_int g13.wd fun v14 H17 wd12 s15 h20 => ?_
      have g14 := g13.same s15
      have h21 := rV.same s15 h17
      have hS13 := hS12.same s15
      cases (show v14 = (V.int 4) from h20)
      refine x_nil ?_
      refine ⟨mxM M0 [p4], st, Y, n3, 4, _, _, rfl, g14.wd, fun y hy => .inl (g14.ys y hy), hS13, ⟨_, _, rfl, rfl, rfl⟩, hw, fun r3 v15 n5 H18 hw wd13 b3 hS14 h22 => ?_⟩
      have g15 := g14.call wd13 b3
      have l3 := Gd.lx_call g14 b3
      have h23 := mu_call h21 rfl g14 (by simp) b3
      cases (show v15 = (V.int r3) from h22)
      refine EV.go (K := K) (d := (.im (D.int 1))) ev_int g15.wd fun v16 H19 wd14 s16 h24 => ?_
      have g16 := g15.same s16
      have h25 := rV.same s16 h23
      have hS15 := hS14.same s16
      cases (show v16 = (V.int 1) from h24)
      refine opd_go (K := K) (d := (.im (D.int r3))) (e := (.im (D.int 1))) (f := .im (D.bl (decide (r3 = 1)))) od_eqI g16.wd rfl rfl fun v17 H20 wd15 s17 h26 => ?_
      have g17 := g16.same s17
      have h27 := rV.same s17 h25
      have hS16 := hS15.same s17
      cases (show v17 = (V.bl (decide (r3 = 1))) from h26)
      refine ⟨_, rfl, ?_⟩
      refine wite hw (fun hw => ?_) (fun hw => ?_)
      · skip
        refine st_set ?_
        refine x_lst ?_
        refine x_cons ?_
        refine x_lst ?_
        refine x_cons ?_
        refine EV.go (K := K) (d := (.im (D.str ""))) ev_str g17.wd fun v18 H21 wd16 s18 h28 => ?_
        have g18 := g17.same s18
        have h29 := rV.same s18 h27
        have hS17 := hS16.same s18
        cases (show v18 = (V.str "") from h28)
        refine x_cons ?_
        refine EV.go (K := K) (d := (.im (D.str ""))) ev_str g18.wd fun v19 H22 wd17 s19 h30 => ?_
        have g19 := g18.same s19
        have h31 := rV.same s19 h29
        have hS18 := hS17.same s19
        cases (show v19 = (V.str "") from h30)
        refine x_cons ?_
        refine x_lst ?_
        refine x_cons ?_
        refine x_lst ?_
        refine x_cons ?_
        refine x_call ?_
        refine x_cons ?_
        refine ⟨_, rfl, ?_⟩
        refine x_cons ?_
        refine EV.go (K := K) (d := (.im (D.str "c"))) ev_str g19.wd fun v21 H24 wd19 s21 h33 => ?_
        have g20 := g19.same s21
        have h34 := rV.same s21 h31
        have hS19 := hS18.same s21
        cases (show v21 = (V.str "c") from h33)
        refine x_nil ?_
        refine ⟨mxM M0 [p4], st, Y, n5, "c", _, _, rfl, g20.wd, fun y hy => .inl (g20.ys y hy), hS19, ⟨_, _, rfl, rfl, rfl⟩, hw, fun r4 v22 n6 H25 hw wd20 b4 hS20 h35 => ?_⟩
        have g21 := g20.call wd20 b4
        have l4 := Gd.lx_call g20 b4
        have h36 := mu_call h34 rfl g20 (by simp) b4
        cases (show v22 = (V.str r4) from h35)
        refine x_cons ?_
        refine EV.go (K := K) (d := (.im (D.int 1))) ev_int g21.wd fun v23 H26 wd21 s22 h37 => ?_
        have g22 := g21.same s22
        have h38 := rV.same s22 h36
        have hS21 := hS20.same s22
        cases (show v23 = (V.int 1) from h37)
        refine x_nil ?_
        refine ⟨(by show 2 ≤ sizeLine; decide), fun p6 H27 np5 s23 hp6 => ?_⟩
        have h39 : rV K (mxM M0 [p4]) H27 (.im ((eH2 D.str D.int) (r4, 1))) (V.ref p6) := (show rD K _ (.lst [D.str r4, D.int 1]) _ from ⟨_, _, rfl, g22.wd.new np5 hp6, rDs.same (show rDs K _ [D.str r4, D.int 1] _ from ⟨_, _, rfl, rfl, ⟨_, _, rfl, rfl, rfl⟩⟩) s23⟩)
        have g23 := g22.same s23
        have h40 := rV.same s23 h38
        have hS22 := hS21.same s23
        refine x_cons ?_
        refine x_lst ?_
        refine x_cons ?_
        refine x_call ?_
        refine x_cons ?_
        refine ⟨_, rfl, ?_⟩
        refine x_cons ?_
        refine EV.go (K := K) (d := (.im (D.str "d"))) ev_str g23.wd fun v25 H29 wd23 s25 h42 => ?_
        have g24 := g23.same s25
        have h43 := rV.same s25 h40
        have hS23 := hS22.same s25
        cases (show v25 = (V.str "d") from h42)
        refine x_nil ?_
        refine ⟨mxM M0 [p4], st, Y, n6, "d", _, _, rfl, g24.wd, fun y hy => .inl (g24.ys y hy), hS23, ⟨_, _, rfl, rfl, rfl⟩, hw, fun r5 v26 n7 H30 hw wd24 b5 hS24 h44 => ?_⟩
        have g25 := g24.call wd24 b5
        have l5 := Gd.lx_call g24 b5
        have h45 := mu_call h43 rfl g24 (by simp) b5
        cases (show v26 = (V.str r5) from h44)
        refine x_cons ?_
        refine EV.go (K := K) (d := (.im (D.int 1))) ev_int g25.wd fun v27 H31 wd25 s26 h46 => ?_
        have g26 := g25.same s26
        have h47 := rV.same s26 h45
        have hS25 := hS24.same s26
        cases (show v27 = (V.int 1) from h46)
        refine x_nil ?_
        refine ⟨(by show 2 ≤ sizeLine; decide), fun p7 H32 np6 s27 hp7 => ?_⟩
        have h48 : rV K (mxM M0 [p4]) H32 (.im ((eH2 D.str D.int) (r5, 1))) (V.ref p7) := (show rD K _ (.lst [D.str r5, D.int 1]) _ from ⟨_, _, rfl, g26.wd.new np6 hp7, rDs.same (show rDs K _ [D.str r5, D.int 1] _ from ⟨_, _, rfl, rfl, ⟨_, _, rfl, rfl, rfl⟩⟩) s27⟩)
        have g27 := g26.same s27
        have h49 := rV.same s27 h47
        have hS26 := hS25.same s27
        refine x_nil ?_
        have h50 : rV K (mxM M0 [p4]) H32 (.im ((eH2 D.str D.int) (r4, 1))) (V.ref p6) := (((rV.lx l5 (h39.same s25)).same s26).same s27)
        refine ⟨(by show 2 ≤ sizeLine; decide), fun p8 H33 np7 s28 hp8 => ?_⟩
        have h51 : rV K (mxM M0 [p4]) H33 (.im ((eL (eH2 D.str D.int)) [(r4, 1), (r5, 1)])) (V.ref p8) := (show rD K _ (.lst [(eH2 D.str D.int) (r4, 1), (eH2 D.str D.int) (r5, 1)]) _ from ⟨_, _, rfl, g27.wd.new np7 hp8, rDs.same (show rDs K _ [(eH2 D.str D.int) (r4, 1), (eH2 D.str D.int) (r5, 1)] _ from ⟨_, _, rfl, h50, ⟨_, _, rfl, h48, rfl⟩⟩) s28⟩)
        have g28 := g27.same s28
        have h52 := rV.same s28 h49
        have hS27 := hS26.same s28
        refine x_nil ?_
        refine ⟨(by show 3 ≤ sizeLine; decide), fun p9 H34 np8 s29 hp9 => ?_⟩
        have h53 : rV K (mxM M0 [p4]) H34 (.im (eRc (Rc.mk "" "" [(r4, 1), (r5, 1)]))) (V.ref p9) := (show rD K _ (.lst [D.str "", D.str "", (eL (eH2 D.str D.int)) [(r4, 1), (r5, 1)]]) _ from ⟨_, _, rfl, g28.wd.new np8 hp9, rDs.same (show rDs K _ [D.str "", D.str "", (eL (eH2 D.str D.int)) [(r4, 1), (r5, 1)]] _ from ⟨_, _, rfl, rfl, ⟨_, _, rfl, rfl, ⟨_, _, rfl, h51, rfl⟩⟩⟩) s29⟩)
        have g29 := g28.same s29
        have h54 := rV.same s29 h52
        have hS28 := hS27.same s29
        refine x_nil ?_
        refine ⟨(by show 1 ≤ sizeLine; decide), fun p10 H35 np9 s30 hp10 => ?_⟩
        have hv2 : rDs K (Fx (mxM M0 [p4]) H34) (List.map eRc ([(Rc.mk "" "" [(r4, 1), (r5, 1)])])) _ := ⟨_, _, rfl, h53, rfl⟩
        have ex2 := Gd.ex_new (M0 := M0) (Ls := [p4]) s30 np9
        have g30 := g29.new s30 np9 hp10
        have h55 := rV.ex ex2 h54
        have hS29 := hS28.same s30
        have h56 : rV K (mxM M0 [p10, p4]) H35 (.mu p10 (List.map eRc ([(Rc.mk "" "" [(r4, 1), (r5, 1)])]))) (V.ref p10) := ⟨rfl, _, hp10, rDs.mono ex2.lx _ _ hv2⟩
        have g31 := g30.pick [0] (Ls' := [p10]) (by decide) rfl
        have l6 : Lx (mxM M0 [p10, p4]) (mxM M0 [p10]) H35 H35 := Gd.lx_pick [0] rfl
        have h57 := mu_pick h56 [0] (Ls' := [p10]) rfl
        exact hnx _ _ ⟨p10, [(Rc.mk "" "" [(r4, 1), (r5, 1)])], n7, rfl, g31, ((((((((((((((((((Lx.same s15).trans l3).trans (Lx.same s16)).trans (Lx.same s17)).trans (Lx.same s18)).trans (Lx.same s19)).trans (Lx.same s21)).trans l4).trans (Lx.same s22)).trans (Lx.same s23)).trans (Lx.same s25)).trans l5).trans (Lx.same s26)).trans (Lx.same s27)).trans (Lx.same s28)).trans (Lx.same s29)).trans ex2.lx).trans l6), h57, hS29, hw⟩
      · skip
        exact hnx _ _ ⟨p4, [(Rc.mk "" "" [(r, (1 + r2))])], n5, rfl, g17, ((((Lx.same s15).trans l3).trans (Lx.same s16)).trans (Lx.same s17)), h27, hS16, hw⟩
    rintro σ' H36 ⟨p5, records_here, n4, rfl, g32, l7, h18, hS30, hw⟩
    try dsimp only [gName]
    refine st_norm (σ' := [some (V.ref st), some (V.int most), some (V.int top), some (V.ref p5), none, none, none, none, none, none, none]) rfl ?_
    refine st_set ?_
    refine EVN.go (K := K) (evn_lst (ds := []) eva_nil (Nat.le_of_ble_eq_true rfl)) g32.wd fun p11 H37 H38 wd26 s31 np10 s32 vs2 hp11 hv3 => ?_
    have g33 := g32.same s31
    have h58 := rV.same s31 h18
    have hS31 := hS30.same s31
    have ex3 := Gd.ex_new (M0 := M0) (Ls := [p5]) s32 np10
    have g34 := g33.new s32 np10 hp11
    have h59 := rV.ex ex3 h58
    have hS32 := hS31.same s32
    have h60 : rV K (mxM M0 [p11, p5]) H38 (.mu p11 (List.map D.str ([] : (List Str)))) (V.ref p11) := ⟨rfl, vs2, hp11, rDs.mono ex3.lx _ _ hv3⟩
    try dsimp only [gName]
    refine st_norm (σ' := [some (V.ref st), some (V.int most), some (V.int top), some (V.ref p5), some (V.ref p11), none, none, none, none, none, none]) rfl ?_
    have g35 := g34.pick [1, 0] (Ls' := [p5, p11]) (by decide) rfl
    have l8 : Lx (mxM M0 [p11, p5]) (mxM M0 [p5, p11]) H38 H38 := Gd.lx_pick [1, 0] rfl
    have h61 := mu_pick h59 [1, 0] (Ls' := [p5, p11]) rfl
    have h62 := mu_pick h60 [1, 0] (Ls' := [p5, p11]) rfl
    refine st_for ?_
    refine x_rng1 ?_
    refine x_cons ?_
    refine x_op ?_
    refine x_call ?_
    refine x_cons ?_
    refine ⟨_, rfl, ?_⟩
    refine x_cons ?_
    refine EV.go (K := K) (d := (.im (D.int most))) (ev_vi (i := 1) rfl) g35.wd fun v29 H40 wd28 s34 h64 => ?_
    have g36 := g35.same s34
    have h65 := rV.same s34 h61
    have h66 := rV.same s34 h62
    have hS33 := hS32.same s34
    cases (show v29 = (V.int most) from h64)
    refine x_nil ?_
    refine ⟨mxM M0 [p5, p11], st, Y, n4, most, _, _, rfl, g36.wd, fun y hy => .inl (g36.ys y hy), hS33, ⟨_, _, rfl, rfl, rfl⟩, hw, fun r6 v30 n8 H41 hw wd29 b6 hS34 h67 => ?_⟩
    have g37 := g36.call wd29 b6
    have l9 := Gd.lx_call g36 b6
    have h68 := mu_call h65 rfl g36 (by simp) b6
    have h69 := mu_call h66 rfl g36 (by simp) b6
    cases (show v30 = (V.int r6) from h67)
    refine EV.go (K := K) (d := (.im (D.int 1))) ev_int g37.wd fun v31 H42 wd30 s35 h70 => ?_
    have g38 := g37.same s35
    have h71 := rV.same s35 h68
    have h72 := rV.same s35 h69
    have hS35 := hS34.same s35
    cases (show v31 = (V.int 1) from h70)
    refine opd_go (K := K) (d := (.im (D.int r6))) (e := (.im (D.int 1))) (f := .im (D.int (r6 + 1))) od_add g38.wd rfl rfl fun v32 H43 wd31 s36 h73 => ?_
    have g39 := g38.same s36
    have h74 := rV.same s36 h71
    have h75 := rV.same s36 h72
    have hS36 := hS35.same s36
    cases (show v32 = (V.int (r6 + 1)) from h73)
    refine x_nil ?_
    obtain ⟨c, c2, hw⟩ := hw
    refine ⟨(r6 + 1), rfl, c, c2, ?_⟩
    have wk := wk_range1 (K := K) (M := mxM M0 [p5, p11]) (H := H43) (n := (r6 + 1))
    obtain ⟨Inv, hI, hI2, hI3⟩ := hw
    refine st_forit wk (fun i σ' H' => ∃ (records_here2 : (List Rc)) (full : (List Str)) (o : Option V) (o2 : Option V) (o3 : Option V) (o4 : Option V) (o5 : Option V) (o6 : Option V) (n9 : Nat), σ' = [some (V.ref st), some (V.int most), some (V.int top), some (V.ref p5), some (V.ref p11), o, o2, o3, o4, o5, o6] ∧ Gd M0 [p5, p11] Y H H' ∧ Lx (mxM M0 [p5, p11]) (mxM M0 [p5, p11]) H43 H' ∧ rV K (mxM M0 [p5, p11]) H' (.mu p5 (List.map eRc records_here2)) (V.ref p5) ∧ rV K (mxM M0 [p5, p11]) H' (.mu p11 (List.map D.str full)) (V.ref p11) ∧ SMA H' st Y n9 ∧ Inv i records_here2 full n9) ⟨records_here, ([] : (List Str)), _, _, _, _, _, _, n8, rfl, g39, Lx.refl, h74, h75, hS36, hI⟩ (fun i σ' H' _ ⟨_, _, _, _, _, _, _, _, _, _, _, hl, _⟩ => ⟨_, hl⟩) ?_ ?_
    · rintro i x2 σ' H44 H45 hi ⟨records_here2, full, o, o2, o3, o4, o5, o6, n9, rfl, g40, l10, h76, h77, hS37, hI4⟩ yd
      obtain ⟨k, hy, s37, hr2⟩ := yd_map yd
      have hw := hI2 i k  records_here2 full n9 hy hI4
      have hr2 := hr2 _ g40.wd l10
      have g41 := g40.same s37
      have h78 := rV.same s37 h76
      have h79 := rV.same s37 h77
      have hS38 := hS37.same s37
      cases (show x2 = (V.int k) from hr2)
      unfold W_l_records_b2 at hw
      try dsimp only [gName]
      refine st_norm (σ' := [some (V.ref st), some (V.int most), some (V.int top), some (V.ref p5), some (V.ref p11), some (V.int k), o2, o3, o4, o5, o6]) rfl ?_
      refine st_set ?_
      refine x_op ?_
      refine EV.go (K := K) (d := (.mu p5 (List.map eRc records_here2))) (ev_var (d := (.mu p5 (List.map eRc records_here2))) (i := 3) rfl h78) g41.wd fun v33 H46 wd32 s38 h80 => ?_
      have g42 := g41.same s38
      have h81 := rV.same s38 h78
      have h82 := rV.same s38 h79
      have hS39 := hS38.same s38
      cases h80.1
      refine x_call ?_
      refine x_cons ?_
      refine ⟨_, rfl, ?_⟩
      refine x_cons ?_
      refine EV.go (K := K) (d := (.im (D.int (records_here2.length : Int)))) (ev_cb (eva_cons (ev_var (d := (.mu p5 (List.map eRc records_here2))) (i := 3) rfl h81) eva_nil) (cd_lenm (en := eRc) (xs := records_here2) (.inl LsOf.mu))) g42.wd fun v35 H48 wd34 s40 h84 => ?_
      have g43 := g42.same s40
      have h85 := rV.same s40 h81
      have h86 := rV.same s40 h82
      have hS40 := hS39.same s40
      cases (show v35 = (V.int (records_here2.length : Int)) from h84)
      refine x_nil ?_
      refine ⟨mxM M0 [p5, p11], st, Y, n9, (records_here2.length : Int), _, _, rfl, g43.wd, fun y hy => .inl (g43.ys y hy), hS40, ⟨_, _, rfl, rfl, rfl⟩, hw, fun r7 v36 n10 H49 hw wd35 b7 hS41 h87 => ?_⟩
      have g44 := g43.call wd35 b7
      have l11 := Gd.lx_call g43 b7
      have h88 := mu_call h85 rfl g43 (by simp) b7
      have h89 := mu_call h86 rfl g43 (by simp) b7
      cases (show v36 = (V.int r7) from h87)
      obtain ⟨c3, hw⟩ := hw
      refine opd_go (K := K) (d := (.mu p5 (List.map eRc records_here2))) (e := (.im (D.int r7))) (f := .im (eRc (ixD records_here2 r7))) (od_ixLm (en := eRc) (xs := records_here2) LsOf.mu c3) g44.wd h88 rfl fun v37 H50 wd36 s41 h90 => ?_
      obtain ⟨upper, e⟩ : ∃ z_ : Rc, z_ = (ixD records_here2 r7) := ⟨_, rfl⟩
      have hw := hw upper e
      rw [← e] at h90
      have g45 := g44.same s41
      have h91 := rV.same s41 h88
      have h92 := rV.same s41 h89
      have hS42 := hS41.same s41
      try dsimp only [gName]
      refine st_norm (σ' := [some (V.ref st), some (V.int most), some (V.int top), some (V.ref p5), some (V.ref p11), some (V.int k), some v37, o3, o4, o5, o6]) rfl ?_
      try dsimp only [gName]
      refine if_cut (fun σ' H' => ∃ (v38 : V) (upper2 : Rc) (n11 : Nat), σ' = [some (V.ref st), some (V.int most), some (V.int top), some (V.ref p5), some (V.ref p11), some (V.int k), some v38, o3, o4, o5, o6] ∧ Gd M0 [p5, p11] Y H H' ∧ Lx (mxM M0 [p5, p11]) (mxM M0 [p5, p11]) H50 H' ∧ rV K (mxM M0 [p5, p11]) H' (.im (eRc upper2)) v38 ∧ rV K (mxM M0 [p5, p11]) H' (.mu p5 (List.map eRc records_here2)) (V.ref p5) ∧ rV K (mxM M0 [p5, p11]) H' (.mu p11 (List.map D.str full)) (V.ref p11) ∧ SMA H' st Y n11 ∧ W_l_records_k3 top records_here2 full k upper2 n11 P (Inv (i + 1))) (fun nx hnx => ?_) ?_
      · refine EVT.go (b := (decide ((Txt.count upper.path "_" : Int) = 2))) (evt_test (K := K) (ev_op (ev_m1 (ev_op (ev_var (d := (.im (eRc upper))) (i := 6) rfl h90) ev_int (od_ixL (es := [D.str upper.path, D.str upper.mark, (eL (eH2 D.str D.int)) upper.cols]) LsOf.im rfl)) ev_str md_count) ev_int od_eqI)) g45.wd fun H51 wd37 s42 => ?_
        have g46 := g45.same s42
        have h94 := rV.same s42 h91
        have h95 := rV.same s42 h92
        have hS43 := hS42.same s42
        refine wite hw (fun hw => ?_) (fun hw => ?_)
        · skip
          refine st_set ?_
          obtain ⟨c4, hw⟩ := hw
          refine EV.goA (K := K) (en := eRc) (x0 := (ixD records_here2 0)) (ev_op (ev_var (d := (.mu p5 (List.map eRc records_here2))) (i := 3) rfl h94) ev_int (od_ixLm (en := eRc) (xs := records_here2) LsOf.mu c4)) g46.wd fun upper3 e2 v39 H52 wd38 s43 h96 => ?_
          have hw := hw upper3 e2
          have g47 := g46.same s43
          have h97 := rV.same s43 h94
          have h98 := rV.same s43 h95
          have hS44 := hS43.same s43
          exact hnx _ _ ⟨_, upper3, n10, rfl, g47, ((Lx.same s42).trans (Lx.same s43)), h96, h97, h98, hS44, hw⟩
        · skip
          have h99 : rV K (mxM M0 [p5, p11]) H51 (.im (eRc upper)) v37 := (h90.same s42)
          exact hnx _ _ ⟨_, upper, n10, rfl, g46, (Lx.same s42), h99, h94, h95, hS43, hw⟩
      rintro σ' H53 ⟨v38, upper2, n11, rfl, g48, l12, h93, h100, h101, hS45, hw⟩
      try dsimp only [gName]
      refine st_norm (σ' := [some (V.ref st), some (V.int most), some (V.int top), some (V.ref p5), some (V.ref p11), some (V.int k), some v38, o3, o4, o5, o6]) rfl ?_
      refine st_set ?_
      refine x_op ?_
      refine EV.go (K := K) (d := (.im (D.str "****!?"))) ev_str g48.wd fun v40 H54 wd39 s44 h102 => ?_
      have g49 := g48.same s44
      have h103 := rV.same s44 h100
      have h104 := rV.same s44 h101
      have hS46 := hS45.same s44
      cases (show v40 = (V.str "****!?") from h102)
      refine x_op ?_
      refine x_call ?_
      refine x_cons ?_
      refine ⟨_, rfl, ?_⟩
      refine x_cons ?_
      refine EV.go (K := K) (d := (.im (D.int 6))) ev_int g49.wd fun v42 H56 wd41 s46 h106 => ?_
      have g50 := g49.same s46
      have h107 := rV.same s46 h103
      have h108 := rV.same s46 h104
      have hS47 := hS46.same s46
      cases (show v42 = (V.int 6) from h106)
      refine x_nil ?_
      refine ⟨mxM M0 [p5, p11], st, Y, n11, 6, _, _, rfl, g50.wd, fun y hy => .inl (g50.ys y hy), hS47, ⟨_, _, rfl, rfl, rfl⟩, hw, fun r8 v43 n12 H57 hw wd42 b8 hS48 h109 => ?_⟩
      have g51 := g50.call wd42 b8
      have l13 := Gd.lx_call g50 b8
      have h110 := mu_call h107 rfl g50 (by simp) b8
      have h111 := mu_call h108 rfl g50 (by simp) b8
      cases (show v43 = (V.int r8) from h109)
      refine EV.go (K := K) (d := (.im (D.int (if k < 1 then k else 1)))) (ev_cb (eva_cons ev_int (eva_cons (ev_vi (i := 5) rfl) eva_nil)) cd_min2) g51.wd fun v44 H58 wd43 s47 h112 => ?_
      have g52 := g51.same s47
      have h113 := rV.same s47 h110
      have h114 := rV.same s47 h111
      have hS49 := hS48.same s47
      cases (show v44 = (V.int (if k < 1 then k else 1)) from h112)
      obtain ⟨c5, hw⟩ := hw
      refine opd_go (K := K) (d := (.im (D.int r8))) (e := (.im (D.int (if k < 1 then k else 1)))) (f := .im (D.int (r8 * (if k < 1 then k else 1)))) (od_mul c5) g52.wd rfl rfl fun v45 H59 wd44 s48 h115 => ?_
      have g53 := g52.same s48
      have h116 := rV.same s48 h113
      have h117 := rV.same s48 h114
      have hS50 := hS49.same s48
      cases (show v45 = (V.int (r8 * (if k < 1 then k else 1))) from h115)
      obtain ⟨c6, c7, hw⟩ := hw
      refine opd_go (K := K) (d := (.im (D.str "****!?"))) (e := (.im (D.int (r8 * (if k < 1 then k else 1))))) (f := .im (D.str (ixS "****!?" (r8 * (if k < 1 then k else 1))))) (od_ixS c6 c7) g53.wd rfl rfl fun v46 H60 wd45 s49 h118 => ?_
      obtain ⟨mark, e3⟩ : ∃ z_ : Str, z_ = (ixS "****!?" (r8 * (if k < 1 then k else 1))) := ⟨_, rfl⟩
      have hw := hw mark e3
      rw [← e3] at h118
      have g54 := g53.same s49
      have h119 := rV.same s49 h116
      have h120 := rV.same s49 h117
      have hS51 := hS50.same s49
      cases (show v46 = (V.str mark) from h118)
      try dsimp only [gName]
      refine st_norm (σ' := [some (V.ref st), some (V.int most), some (V.int top), some (V.ref p5), some (V.ref p11), some (V.int k), some v38, some (V.str mark), o4, o5, o6]) rfl ?_
      refine st_set ?_
      have h121 : rV K (mxM M0 [p5, p11]) H60 (.im (eRc upper2)) v38 := ((((rV.lx l13 ((h93.same s44).same s46)).same s47).same s48).same s49)
      obtain ⟨c8, hw⟩ := hw
      refine EV.goA (K := K) (en := D.str) (x0 := (headOf records_here2 upper2.path)) (ev_call (eva_cons (ev_var (d := (.mu p5 (List.map eRc records_here2))) (i := 3) rfl h119) (eva_cons (ev_op (ev_var (d := (.im (eRc upper2))) (i := 6) rfl h121) ev_int (od_ixL (es := [D.str upper2.path, D.str upper2.mark, (eL (eH2 D.str D.int)) upper2.cols]) LsOf.im rfl)) eva_nil)) (cd_fnS (records_here2, upper2.path) rfl c8 (fun _ _ _ h => h))) g54.wd fun head_here e4 v47 H61 wd46 s50 h122 => ?_
      have hw := hw head_here e4
      have g55 := g54.same s50
      have h123 := rV.same s50 h119
      have h124 := rV.same s50 h120
      have hS52 := hS51.same s50
      cases (show v47 = (V.str head_here) from h122)
      try dsimp only [gName]
      refine st_norm (σ' := [some (V.ref st), some (V.int most), some (V.int top), some (V.ref p5), some (V.ref p11), some (V.int k), some v38, some (V.str mark), some (V.str head_here), o5, o6]) rfl ?_
      refine st_set ?_
      refine x_op ?_
      refine EV.go (K := K) (d := (.im (D.int 1))) ev_int g55.wd fun v48 H62 wd47 s51 h125 => ?_
      have g56 := g55.same s51
      have h126 := rV.same s51 h123
      have h127 := rV.same s51 h124
      have hS53 := hS52.same s51
      cases (show v48 = (V.int 1) from h125)
      refine x_call ?_
      refine x_cons ?_
      refine ⟨_, rfl, ?_⟩
      refine x_cons ?_
      refine EV.go (K := K) (d := (.im (D.int top))) (ev_vi (i := 2) rfl) g56.wd fun v50 H64 wd49 s53 h129 => ?_
      have g57 := g56.same s53
      have h130 := rV.same s53 h126
      have h131 := rV.same s53 h127
      have hS54 := hS53.same s53
      cases (show v50 = (V.int top) from h129)
      refine x_nil ?_
      refine ⟨mxM M0 [p5, p11], st, Y, n12, top, _, _, rfl, g57.wd, fun y hy => .inl (g57.ys y hy), hS54, ⟨_, _, rfl, rfl, rfl⟩, hw, fun r9 v51 n13 H65 hw wd50 b9 hS55 h132 => ?_⟩
      have g58 := g57.call wd50 b9
      have l14 := Gd.lx_call g57 b9
      have h133 := mu_call h130 rfl g57 (by simp) b9
      have h134 := mu_call h131 rfl g57 (by simp) b9
      cases (show v51 = (V.int r9) from h132)
      refine opd_go (K := K) (d := (.im (D.int 1))) (e := (.im (D.int r9))) (f := .im (D.int (1 + r9))) od_add g58.wd rfl rfl fun v52 H66 wd51 s54 h135 => ?_
      obtain ⟨many, e5⟩ : ∃ z_ : Int, z_ = (1 + r9) := ⟨_, rfl⟩
      have hw := hw many e5
      rw [← e5] at h135
      have g59 := g58.same s54
      have h136 := rV.same s54 h133
      have h137 := rV.same s54 h134
      have hS56 := hS55.same s54
      cases (show v52 = (V.int many) from h135)
      try dsimp only [gName]
      refine st_norm (σ' := [some (V.ref st), some (V.int most), some (V.int top), some (V.ref p5), some (V.ref p11), some (V.int k), some v38, some (V.str mark), some (V.str head_here), some (V.int many), o6]) rfl ?_
      try dsimp only [gName]
      refine if_cut (fun σ' H' => ∃ (mark2 : Str) (n14 : Nat), σ' = [some (V.ref st), some (V.int most), some (V.int top), some (V.ref p5), some (V.ref p11), some (V.int k), some v38, some (V.str mark2), some (V.str head_here), some (V.int many), o6] ∧ Gd M0 [p5, p11] Y H H' ∧ Lx (mxM M0 [p5, p11]) (mxM M0 [p5, p11]) H66 H' ∧ rV K (mxM M0 [p5, p11]) H' (.mu p5 (List.map eRc records_here2)) (V.ref p5) ∧ rV K (mxM M0 [p5, p11]) H' (.mu p11 (List.map D.str full)) (V.ref p11) ∧ SMA H' st Y n14 ∧ W_l_records_k4 top records_here2 full k upper2 mark2 head_here many n14 P (Inv (i + 1))) (fun nx hnx => ?_) ?_
      · refine EVT.go (b := (decide (head_here ∈ full))) (evt_test (K := K) (ev_op (ev_vs (i := 8) rfl) (ev_var (d := (.mu p11 (List.map D.str full))) (i := 4) rfl h137) (od_inS (xs := full) (.inl LsOf.mu)))) g59.wd fun H67 wd52 s55 => ?_
        have g60 := g59.same s55
        have h138 := rV.same s55 h136
        have h139 := rV.same s55 h137
        have hS57 := hS56.same s55
        refine wite hw (fun hw => ?_) (fun hw => ?_)
        · skip
          refine st_set ?_
          refine EV.goA (K := K) (en := D.str) (x0 := "*") ev_str g60.wd fun mark3 e6 v53 H68 wd53 s56 h140 => ?_
          have hw := hw mark3 e6
          have g61 := g60.same s56
          have h141 := rV.same s56 h138
          have h142 := rV.same s56 h139
          have hS58 := hS57.same s56
          cases (show v53 = (V.str mark3) from h140)
          exact hnx _ _ ⟨mark3, n13, rfl, g61, ((Lx.same s55).trans (Lx.same s56)), h141, h142, hS58, hw⟩
        · skip
          exact hnx _ _ ⟨mark, n13, rfl, g60, (Lx.same s55), h138, h139, hS57, hw⟩
      rintro σ' H69 ⟨mark2, n14, rfl, g62, l15, h143, h144, hS59, hw⟩
      try dsimp only [gName]
      refine st_norm (σ' := [some (V.ref st), some (V.int most), some (V.int top), some (V.ref p5), some (V.ref p11), some (V.int k), some v38, some (V.str mark2), some (V.str head_here), some (V.int many), o6]) rfl ?_
      try dsimp only [gName]
      refine if_cut (fun σ' H' => ∃ (full2 : (List Str)) (many2 : Int) (n15 : Nat), σ' = [some (V.ref st), some (V.int most), some (V.int top), some (V.ref p5), some (V.ref p11), some (V.int k), some v38, some (V.str mark2), some (V.str head_here), some (V.int many2), o6] ∧ Gd M0 [p5, p11] Y H H' ∧ Lx (mxM M0 [p5, p11]) (mxM M0 [p5, p11]) H69 H' ∧ rV K (mxM M0 [p5, p11]) H' (.mu p5 (List.map eRc records_here2)) (V.ref p5) ∧ rV K (mxM M0 [p5, p11]) H' (.mu p11 (List.map D.str full2)) (V.ref p11) ∧ SMA H' st Y n15 ∧ W_l_records_k5 top records_here2 full2 k upper2 mark2 many2 n15 P (Inv (i + 1))) (fun nx hnx => ?_) ?_
      · refine EVT.go (b := (!decide (mark2 = "*"))) (evt_test (K := K) (ev_op (ev_vs (i := 7) rfl) ev_str od_neS)) g62.wd fun H70 wd54 s57 => ?_
        have g63 := g62.same s57
        have h146 := rV.same s57 h143
        have h147 := rV.same s57 h144
        have hS60 := hS59.same s57
        refine wite hw (fun hw => ?_) (fun hw => ?_)
        · skip
          refine st_expr ?_
          refine x_bm (ev_var (d := (.mu p11 (List.map D.str full))) (i := 4) rfl h147) LsOf.mu g63.wd fun v54 H71 wd55 s58 h148 => ?_
          have g64 := g63.same s58
          have h149 := rV.same s58 h146
          have h150 := rV.same s58 h147
          have hS61 := hS60.same s58
          cases h148.1
          refine x_cons ?_
          refine EV.go (K := K) (d := (.im (D.str head_here))) (ev_vs (i := 8) rfl) g64.wd fun v55 H72 wd56 s59 h151 => ?_
          have g65 := g64.same s59
          have h152 := rV.same s59 h149
          have h153 := rV.same s59 h150
          have hS62 := hS61.same s59
          cases (show v55 = (V.str head_here) from h151)
          refine x_nil ?_
          obtain ⟨c9, hw⟩ := hw
          refine x_append (d := D.str head_here) h153 rfl (by simp) (by rw [List.length_map]; exact c9) fun H73 ⟨vs3, eu⟩ h154 => ?_
          obtain ⟨full3, efull3⟩ : ∃ z_ : (List Str), z_ = (full ++ [head_here]) := ⟨_, rfl⟩
          have hw := hw full3 efull3
          have h154 : rV K (mxM M0 [p5, p11]) H73 (.mu p11 (List.map D.str full3)) (V.ref p11) := by rw [efull3, List.map_append]; exact h154
          subst eu
          have g66 : Gd M0 [p5, p11] Y H (upd H72 p11 (.lst vs3)) := g65.upd (by simp)
          have l16 : Lx (mxM M0 [p5, p11]) (mxM M0 [p5, p11]) H72 (upd H72 p11 (.lst vs3)) := Gd.lx_upd (by simp)
          have h155 : rV K (mxM M0 [p5, p11]) (upd H72 p11 (.lst vs3)) (.mu p5 (List.map eRc records_here2)) (V.ref p5) := mu_upd h152 rfl (nd_ne g65.nd 0 1 rfl rfl (by decide)) (by simp)
          have hS63 : SMA (upd H72 p11 (.lst vs3)) st Y n14 := hS62.updL (g65.noY (by simp))
          refine st_set ?_
          refine EV.go (K := K) (d := (.im (D.int 1))) ev_int g66.wd fun v56 H74 wd57 s60 h156 => ?_
          have g67 := g66.same s60
          have h157 := rV.same s60 h155
          have h158 := rV.same s60 h154
          have hS64 := hS63.same s60
          cases (show v56 = (V.int 1) from h156)
          exact hnx _ _ ⟨full3, 1, n14, rfl, g67, (((((Lx.same s57).trans (Lx.same s58)).trans (Lx.same s59)).trans l16).trans (Lx.same s60)), h157, h158, hS64, hw⟩
        · skip
          exact hnx _ _ ⟨full, many, n14, rfl, g63, (Lx.same s57), h146, h147, hS60, hw⟩
      rintro σ' H75 ⟨full2, many2, n15, rfl, g68, l17, h159, h145, hS65, hw⟩
      try dsimp only [gName]
      refine st_norm (σ' := [some (V.ref st), some (V.int most), some (V.int top), some (V.ref p5), some (V.ref p11), some (V.int k), some v38, some (V.str mark2), some (V.str head_here), some (V.int many2), o6]) rfl ?_
      refine st_set ?_
      refine x_call ?_
      refine x_cons ?_
      refine ⟨_, rfl, ?_⟩
      refine x_cons ?_
      obtain ⟨c10, c11, hw⟩ := hw
      refine EV.go (K := K) (d := (.im (D.str (ixS "klmnp" k)))) (ev_op ev_str (ev_vi (i := 5) rfl) (od_ixS c10 c11)) g68.wd fun v58 H77 wd59 s62 h161 => ?_
      have g69 := g68.same s62
      have h162 := rV.same s62 h159
      have h163 := rV.same s62 h145
      have hS66 := hS65.same s62
      cases (show v58 = (V.str (ixS "klmnp" k)) from h161)
      refine x_nil ?_
      refine ⟨mxM M0 [p5, p11], st, Y, n15, (ixS "klmnp" k), _, _, rfl, g69.wd, fun y hy => .inl (g69.ys y hy), hS66, ⟨_, _, rfl, rfl, rfl⟩, hw, fun path2 v59 n16 H78 hw wd60 b10 hS67 h164 => ?_⟩
      have g70 := g69.call wd60 b10
      have l18 := Gd.lx_call g69 b10
      have h165 := mu_call h162 rfl g69 (by simp) b10
      have h166 := mu_call h163 rfl g69 (by simp) b10
      cases (show v59 = (V.str path2) from h164)
      try dsimp only [gName]
      refine st_norm (σ' := [some (V.ref st), some (V.int most), some (V.int top), some (V.ref p5), some (V.ref p11), some (V.int k), some v38, some (V.str mark2), some (V.str head_here), some (V.int many2), some (V.str path2)]) rfl ?_
      try dsimp only [gName]
      refine if_cut (fun σ' H' => ∃ (path3 : Str) (n17 : Nat), σ' = [some (V.ref st), some (V.int most), some (V.int top), some (V.ref p5), some (V.ref p11), some (V.int k), some v38, some (V.str mark2), some (V.str head_here), some (V.int many2), some (V.str path3)] ∧ Gd M0 [p5, p11] Y H H' ∧ Lx (mxM M0 [p5, p11]) (mxM M0 [p5, p11]) H78 H' ∧ rV K (mxM M0 [p5, p11]) H' (.mu p5 (List.map eRc records_here2)) (V.ref p5) ∧ rV K (mxM M0 [p5, p11]) H' (.mu p11 (List.map D.str full2)) (V.ref p11) ∧ SMA H' st Y n17 ∧ W_l_records_k6 top records_here2 full2 mark2 many2 path3 n17 P (Inv (i + 1))) (fun nx hnx => ?_) ?_
      · have h167 : rV K (mxM M0 [p5, p11]) H78 (.im (eRc upper2)) v38 := (rV.lx l18 ((rV.lx l17 (rV.lx l15 ((rV.lx l14 (((h121.same s50).same s51).same s53)).same s54))).same s62))
        refine EVT.go (b := (!decide (upper2.path = ""))) (evt_test (K := K) (ev_op (ev_op (ev_var (d := (.im (eRc upper2))) (i := 6) rfl h167) ev_int (od_ixL (es := [D.str upper2.path, D.str upper2.mark, (eL (eH2 D.str D.int)) upper2.cols]) LsOf.im rfl)) ev_str od_neS)) g70.wd fun H79 wd61 s63 => ?_
        have g71 := g70.same s63
        have h168 := rV.same s63 h165
        have h169 := rV.same s63 h166
        have hS68 := hS67.same s63
        refine wite hw (fun hw => ?_) (fun hw => ?_)
        · skip
          refine st_set ?_
          have h170 : rV K (mxM M0 [p5, p11]) H79 (.im (eRc upper2)) v38 := (h167.same s63)
          obtain ⟨c12, c13, hw⟩ := hw
          refine EV.goA (K := K) (en := D.str) (x0 := ((upper2.path ++ "_") ++ path2)) (ev_op (ev_op (ev_op (ev_var (d := (.im (eRc upper2))) (i := 6) rfl h170) ev_int (od_ixL (es := [D.str upper2.path, D.str upper2.mark, (eL (eH2 D.str D.int)) upper2.cols]) LsOf.im rfl)) ev_str (od_addS c12)) (ev_vs (i := 10) rfl) (od_addS c13)) g71.wd fun path4 e7 v60 H80 wd62 s64 h171 => ?_
          have hw := hw path4 e7
          have g72 := g71.same s64
          have h172 := rV.same s64 h168
          have h173 := rV.same s64 h169
          have hS69 := hS68.same s64
          cases (show v60 = (V.str path4) from h171)
          exact hnx _ _ ⟨path4, n16, rfl, g72, ((Lx.same s63).trans (Lx.same s64)), h172, h173, hS69, hw⟩
        · skip
          exact hnx _ _ ⟨path2, n16, rfl, g71, (Lx.same s63), h168, h169, hS68, hw⟩
      rintro σ' H81 ⟨path3, n17, rfl, g73, l19, h174, h175, hS70, hw⟩
      try dsimp only [gName]
      refine st_norm (σ' := [some (V.ref st), some (V.int most), some (V.int top), some (V.ref p5), some (V.ref p11), some (V.int k), some v38, some (V.str mark2), some (V.str head_here), some (V.int many2), some (V.str path3)]) rfl ?_
      refine st_expr ?_
      refine x_bm (ev_var (d := (.mu p5 (List.map eRc records_here2))) (i := 3) rfl h174) LsOf.mu g73.wd fun v61 H82 wd63 s65 h176 => ?_
      have g74 := g73.same s65
      have h177 := rV.same s65 h174
      have h178 := rV.same s65 h175
      have hS71 := hS70.same s65
      cases h176.1
      refine x_cons ?_
      refine x_lst ?_
      refine x_cons ?_
      refine EV.go (K := K) (d := (.im (D.str path3))) (ev_vs (i := 10) rfl) g74.wd fun v62 H83 wd64 s66 h179 => ?_
      have g75 := g74.same s66
      have h180 := rV.same s66 h177
      have h181 := rV.same s66 h178
      have hS72 := hS71.same s66
      cases (show v62 = (V.str path3) from h179)
      refine x_cons ?_
      refine EV.go (K := K) (d := (.im (D.str mark2))) (ev_vs (i := 7) rfl) g75.wd fun v63 H84 wd65 s67 h182 => ?_
      have g76 := g75.same s67
      have h183 := rV.same s67 h180
      have h184 := rV.same s67 h181
      have hS73 := hS72.same s67
      cases (show v63 = (V.str mark2) from h182)
      refine x_cons ?_
      refine x_lst ?_
      refine x_cons ?_
      refine x_lst ?_
      refine x_cons ?_
      refine x_call ?_
      refine x_cons ?_
      refine ⟨_, rfl, ?_⟩
      refine x_cons ?_
      refine EV.go (K := K) (d := (.im (D.str "e"))) ev_str g76.wd fun v65 H86 wd67 s69 h186 => ?_
      have g77 := g76.same s69
      have h187 := rV.same s69 h183
      have h188 := rV.same s69 h184
      have hS74 := hS73.same s69
      cases (show v65 = (V.str "e") from h186)
      refine x_nil ?_
      refine ⟨mxM M0 [p5, p11], st, Y, n17, "e", _, _, rfl, g77.wd, fun y hy => .inl (g77.ys y hy), hS74, ⟨_, _, rfl, rfl, rfl⟩, hw, fun r10 v66 n18 H87 hw wd68 b11 hS75 h189 => ?_⟩
      have g78 := g77.call wd68 b11
      have l20 := Gd.lx_call g77 b11
      have h190 := mu_call h187 rfl g77 (by simp) b11
      have h191 := mu_call h188 rfl g77 (by simp) b11
      cases (show v66 = (V.str r10) from h189)
      refine x_cons ?_
      refine EV.go (K := K) (d := (.im (D.int many2))) (ev_vi (i := 9) rfl) g78.wd fun v67 H88 wd69 s70 h192 => ?_
      have g79 := g78.same s70
      have h193 := rV.same s70 h190
      have h194 := rV.same s70 h191
      have hS76 := hS75.same s70
      cases (show v67 = (V.int many2) from h192)
      refine x_nil ?_
      refine ⟨(by show 2 ≤ sizeLine; decide), fun p12 H89 np11 s71 hp12 => ?_⟩
      have h195 : rV K (mxM M0 [p5, p11]) H89 (.im ((eH2 D.str D.int) (r10, many2))) (V.ref p12) := (show rD K _ (.lst [D.str r10, D.int many2]) _ from ⟨_, _, rfl, g79.wd.new np11 hp12, rDs.same (show rDs K _ [D.str r10, D.int many2] _ from ⟨_, _, rfl, rfl, ⟨_, _, rfl, rfl, rfl⟩⟩) s71⟩)
      have g80 := g79.same s71
      have h196 := rV.same s71 h193
      have h197 := rV.same s71 h194
      have hS77 := hS76.same s71
      refine x_nil ?_
      refine ⟨(by show 1 ≤ sizeLine; decide), fun p13 H90 np12 s72 hp13 => ?_⟩
      have h198 : rV K (mxM M0 [p5, p11]) H90 (.im ((eL (eH2 D.str D.int)) [(r10, many2)])) (V.ref p13) := (show rD K _ (.lst [(eH2 D.str D.int) (r10, many2)]) _ from ⟨_, _, rfl, g80.wd.new np12 hp13, rDs.same (show rDs K _ [(eH2 D.str D.int) (r10, many2)] _ from ⟨_, _, rfl, h195, rfl⟩) s72⟩)
      have g81 := g80.same s72
      have h199 := rV.same s72 h196
      have h200 := rV.same s72 h197
      have hS78 := hS77.same s72
      refine x_nil ?_
      refine ⟨(by show 3 ≤ sizeLine; decide), fun p14 H91 np13 s73 hp14 => ?_⟩
      have h201 : rV K (mxM M0 [p5, p11]) H91 (.im (eRc (Rc.mk path3 mark2 [(r10, many2)]))) (V.ref p14) := (show rD K _ (.lst [D.str path3, D.str mark2, (eL (eH2 D.str D.int)) [(r10, many2)]]) _ from ⟨_, _, rfl, g81.wd.new np13 hp14, rDs.same (show rDs K _ [D.str path3, D.str mark2, (eL (eH2 D.str D.int)) [(r10, many2)]] _ from ⟨_, _, rfl, rfl, ⟨_, _, rfl, rfl, ⟨_, _, rfl, h198, rfl⟩⟩⟩) s73⟩)
      have g82 := g81.same s73
      have h202 := rV.same s73 h199
      have h203 := rV.same s73 h200
      have hS79 := hS78.same s73
      refine x_nil ?_
      obtain ⟨c14, hw⟩ := hw
      refine x_append (d := eRc (Rc.mk path3 mark2 [(r10, many2)])) h202 h201 (by simp) (by rw [List.length_map]; exact c14) fun H92 ⟨vs4, eu2⟩ h204 => ?_
      obtain ⟨records_here3, erecords_here3⟩ : ∃ z_ : (List Rc), z_ = (records_here2 ++ [(Rc.mk path3 mark2 [(r10, many2)])]) := ⟨_, rfl⟩
      have hw := hw records_here3 erecords_here3
      have h204 : rV K (mxM M0 [p5, p11]) H92 (.mu p5 (List.map eRc records_here3)) (V.ref p5) := by rw [erecords_here3, List.map_append]; exact h204
      subst eu2
      have g83 : Gd M0 [p5, p11] Y H (upd H91 p5 (.lst vs4)) := g82.upd (by simp)
      have l21 : Lx (mxM M0 [p5, p11]) (mxM M0 [p5, p11]) H91 (upd H91 p5 (.lst vs4)) := Gd.lx_upd (by simp)
      have h205 : rV K (mxM M0 [p5, p11]) (upd H91 p5 (.lst vs4)) (.mu p11 (List.map D.str full2)) (V.ref p11) := mu_upd h203 rfl (nd_ne g82.nd 1 0 rfl rfl (by decide)) (by simp)
      have hS80 : SMA (upd H91 p5 (.lst vs4)) st Y n18 := hS79.updL (g82.noY (by simp))
      exact ⟨records_here3, full2, _, _, _, _, _, _, n18, rfl, g83, ((((((((((((((((((((((((((((((((l10.trans (Lx.same s37)).trans (Lx.same s38)).trans (Lx.same s40)).trans l11).trans (Lx.same s41)).trans l12).trans (Lx.same s44)).trans (Lx.same s46)).trans l13).trans (Lx.same s47)).trans (Lx.same s48)).trans (Lx.same s49)).trans (Lx.same s50)).trans (Lx.same s51)).trans (Lx.same s53)).trans l14).trans (Lx.same s54)).trans l15).trans l17).trans (Lx.same s62)).trans l18).trans l19).trans (Lx.same s65)).trans (Lx.same s66)).trans (Lx.same s67)).trans (Lx.same s69)).trans l20).trans (Lx.same s70)).trans (Lx.same s71)).trans (Lx.same s72)).trans (Lx.same s73)).trans l21), h204, h205, hS80, hw⟩
    · rintro σ' H93 ⟨records_here2, full, o, o2, o3, o4, o5, o6, n9, rfl, g84, l22, h76, h77, hS37, hI5⟩
      have hw := hI3 records_here2 full n9 hI5
      unfold W_l_records_k2 at hw
      try dsimp only [gName]
      refine st_norm (σ' := [some (V.ref st), some (V.int most), some (V.int top), some (V.ref p5), some (V.ref p11), o, o2, o3, o4, o5, o6]) rfl ?_
      refine st_ret ?_
      refine EV.go (K := K) (d := (.mu p5 (List.map eRc records_here2))) (ev_var (d := (.mu p5 (List.map eRc records_here2))) (i := 3) rfl h76) g84.wd fun v68 H94 wd70 s74 h206 => ?_
      have g85 := g84.same s74
      have h207 := rV.same s74 h76
      have h208 := rV.same s74 h77
      have hS81 := hS37.same s74
      exact kk _ _ _ _ hw g85.w_end g85.bu hS81 (mu_ret h206 g85 (by simp))

end
end Toy

set_option Elab.async false
set_option linter.all false
set_option maxRecDepth 100000
set_option maxHeartbeats 4000000
set_option pp.maxSteps 1500
set_option pp.deepTerms false
namespace Toy
open PySem L2 Lf
section
variable {P : Program} {w : World} {K : PySem.W.Frag} {mg : Str → Option Value} {base : Heap} {a : Ad}

theorem sz_of' {n : Nat} (h : n ≤ 1000000) : n ≤ sizeLine := Nat.le_trans h (by decide)
theorem sz_lt' {n : Nat} (h : n < 1000000) : n < sizeLine := Nat.lt_of_lt_of_le h (by decide)
theorem take_flat {α β : Type} (f : α → List β) (xs : List α) {i : Nat} {x : α} (h : xs[i]? = some x) : (xs.take (i + 1)).flatMap f = (xs.take i).flatMap f ++ f x := by
  rw [List.take_add_one, h, List.flatMap_append]
  simp
theorem flat_len {α β : Type} (f : α → List β) (m : Nat) : ∀ xs : List α, (∀ x ∈ xs, (f x).length ≤ m) → (xs.flatMap f).length ≤ xs.length * m
  | [], _ => by simp
  | x :: xs, h => by
    rw [List.flatMap_cons, List.length_append, List.length_cons, Nat.add_mul]
    have h1 := h x (List.mem_cons_self ..)
    have h2 := flat_len f m xs fun y hy => h y (List.mem_cons_of_mem _ hy)
    omega
def rowsBy (rows : List (List Int)) (top : Int) : List (List Int) := rows.flatMap fun r => (rngI 0 (top + 1)).map fun v => r ++ [v]
def prodV (cols : List (Str × Int)) : List (List Int) := cols.foldl (fun rows c => rowsBy rows c.2) [[]]
def goneK (lack : Int) (k : List Int) : Bool := decide (0 ≤ lack) && decide (ixD k lack < 0)
def moreOf (lack : Int) (cols : List (Str × Int)) (may : Bool) (k : List Int) : List (List Int) :=
  (if (goneK lack k || may) = true then [k ++ repL [-1] (cols.length : Int)] else []) ++ (if (!goneK lack k) = true then (prodV cols).map fun r => k ++ r else [])
def moreKinds (kinds : List (List Int)) (lack : Int) (cols : List (Str × Int)) (may : Bool) : List (List Int) := kinds.flatMap (moreOf lack cols may)
def pre_more (kinds : List (List Int)) (lack : Int) (cols : List (Str × Int)) (may : Bool) : Prop := kinds.length ≤ 20000 ∧ cols.length ≤ 2 ∧ (∀ c ∈ cols, 0 ≤ c.2 ∧ c.2 ≤ 3) ∧ ∀ k ∈ kinds, k.length ≤ 1000 ∧ (0 ≤ lack → InB k lack)
theorem rowsBy_len (rows : List (List Int)) {top : Int} (h : top ≤ 3) : (rowsBy rows top).length ≤ rows.length * 4 := by
  unfold rowsBy
  refine flat_len _ 4 _ fun r _ => ?_
  rw [List.length_map, rngI_len]
  omega
theorem rowsBy_mem {rows : List (List Int)} {top : Int} {d : Nat} (h : ∀ r ∈ rows, r.length = d) : ∀ r ∈ rowsBy rows top, r.length = d + 1 := fun r hr => by
  unfold rowsBy at hr
  obtain ⟨x, hx, hr⟩ := List.mem_flatMap.mp hr
  obtain ⟨v, _, rfl⟩ := List.mem_map.mp hr
  rw [List.length_append, h x hx]
  rfl
theorem prod_facts (cols : List (Str × Int)) (h : ∀ c ∈ cols, 0 ≤ c.2 ∧ c.2 ≤ 3) : ∀ i ≤ cols.length, ((cols.take i).foldl (fun rows c => rowsBy rows c.2) [[]]).length ≤ 4 ^ i ∧ ∀ r ∈ (cols.take i).foldl (fun rows (c : Str × Int) => rowsBy rows c.2) [[]], r.length = i := by
  intro i
  induction i with
  | zero => intro _; exact ⟨by simp, fun r hr => by simp at hr; rw [hr]; rfl⟩
  | succ i ih =>
    intro hi
    obtain ⟨h1, h2⟩ := ih (by omega)
    have hx : cols[i]? = some cols[i] := List.getElem?_eq_getElem (by omega)
    have tk := take_fold (fun rows (c : Str × Int) => rowsBy rows c.2) [[]] cols hx
    rw [tk]
    refine ⟨?_, rowsBy_mem h2⟩
    have := rowsBy_len ((cols.take i).foldl (fun rows (c : Str × Int) => rowsBy rows c.2) [[]]) (h cols[i] (List.getElem_mem _)).2
    rw [Nat.pow_succ]
    omega
def W_l_more_kinds_b2 (kinds : (List (List Int))) (lack : Int) (columns : (List (Str × Int))) (may : Bool) (rows2 : (List (List Int))) (column : (Str × Int)) (longer2 : (List (List Int))) (row_here : (List Int)) (P : (List (List Int)) → Prop) (nx : (List (List Int)) → Prop) (nx2 : (List (List Int)) → Prop) : Prop :=
  (-(2 ^ 62) ≤ ((column.2 + 1) : Int)) ∧ (((column.2 + 1) : Int) < 2 ^ 62) ∧ ((rngI 0 (column.2 + 1)).length ≤ sizeLine) ∧ (∀ value ∈ (rngI 0 (column.2 + 1)), row_here.length + ([value] : (List Int)).length ≤ sizeLine) ∧ (longer2.length + ((rngI 0 (column.2 + 1)).map fun (value : Int) => (row_here ++ ([value] : (List Int)))).length ≤ sizeLine) ∧ ∀ longer3 : (List (List Int)), longer3 = (longer2 ++ ((rngI 0 (column.2 + 1)).map fun (value : Int) => (row_here ++ ([value] : (List Int))))) → nx2 longer3
def W_l_more_kinds_k2 (kinds : (List (List Int))) (lack : Int) (columns : (List (Str × Int))) (may : Bool) (rows2 : (List (List Int))) (longer2 : (List (List Int))) (P : (List (List Int)) → Prop) (nx : (List (List Int)) → Prop) : Prop :=
  nx longer2
def W_l_more_kinds_b1 (kinds : (List (List Int))) (lack : Int) (columns : (List (Str × Int))) (may : Bool) (rows2 : (List (List Int))) (column : (Str × Int)) (P : (List (List Int)) → Prop) (nx : (List (List Int)) → Prop) : Prop :=
  ∀ longer : (List (List Int)), longer = ([] : (List (List Int))) → ∃ Inv2 : Nat → (List (List Int)) → Prop, Inv2 0 longer ∧ (∀ (i : Nat) (row_here : (List Int)) (longer2 : (List (List Int))), rows2[i]? = some row_here → Inv2 i longer2 → W_l_more_kinds_b2 kinds lack columns may rows2 column longer2 row_here P nx (Inv2 (i + 1))) ∧ (∀ (longer2 : (List (List Int))), Inv2 rows2.length longer2 → W_l_more_kinds_k2 kinds lack columns may rows2 longer2 P nx)
def W_l_more_kinds_k5 (lack : Int) (columns : (List (Str × Int))) (may : Bool) (rows2 : (List (List Int))) (found4 : (List (List Int))) (P : (List (List Int)) → Prop) (nx3 : (List (List Int)) → Prop) : Prop :=
  nx3 found4
def W_l_more_kinds_k4 (lack : Int) (columns : (List (Str × Int))) (may : Bool) (rows2 : (List (List Int))) (found2 : (List (List Int))) (kind : (List Int)) (gone : Bool) (P : (List (List Int)) → Prop) (nx3 : (List (List Int)) → Prop) : Prop :=
  (if (!gone) = true then ((rows2.length ≤ sizeLine) ∧ (∀ row_here2 ∈ rows2, kind.length + row_here2.length ≤ sizeLine) ∧ (found2.length + (rows2.map fun (row_here2 : (List Int)) => (kind ++ row_here2)).length ≤ sizeLine) ∧ W_l_more_kinds_k5 lack columns may rows2 (found2 ++ (rows2.map fun (row_here2 : (List Int)) => (kind ++ row_here2))) P nx3) else (W_l_more_kinds_k5 lack columns may rows2 found2 P nx3))
def W_l_more_kinds_b3 (lack : Int) (columns : (List (Str × Int))) (may : Bool) (rows2 : (List (List Int))) (found : (List (List Int))) (kind : (List Int)) (P : (List (List Int)) → Prop) (nx3 : (List (List Int)) → Prop) : Prop :=
  ((decide (0 ≤ lack)) = true → InB kind lack) ∧ ∀ gone : Bool, gone = ((decide (0 ≤ lack)) && (decide ((ixD kind lack) < 0))) → (if (gone || may) = true then ((RepC ([(-1 : Int)] : (List Int)) (columns.length : Int)) ∧ (kind.length + (repL ([(-1 : Int)] : (List Int)) (columns.length : Int)).length ≤ sizeLine) ∧ ∀ d : (List Int), d = (kind ++ (repL ([(-1 : Int)] : (List Int)) (columns.length : Int))) → (found.length < sizeLine) ∧ ∀ found3 : (List (List Int)), found3 = (found ++ [d]) → W_l_more_kinds_k4 lack columns may rows2 found3 kind gone P nx3) else (W_l_more_kinds_k4 lack columns may rows2 found kind gone P nx3))
def W_l_more_kinds_k3 (found : (List (List Int))) (P : (List (List Int)) → Prop) : Prop :=
  P found
def W_l_more_kinds_k1 (kinds : (List (List Int))) (lack : Int) (columns : (List (Str × Int))) (may : Bool) (rows2 : (List (List Int))) (P : (List (List Int)) → Prop) : Prop :=
  ∃ Inv3 : Nat → (List (List Int)) → Prop, Inv3 0 ([] : (List (List Int))) ∧ (∀ (i : Nat) (kind : (List Int)) (found : (List (List Int))), kinds[i]? = some kind → Inv3 i found → W_l_more_kinds_b3 lack columns may rows2 found kind P (Inv3 (i + 1))) ∧ (∀ (found : (List (List Int))), Inv3 kinds.length found → W_l_more_kinds_k3 found P)
def W_l_more_kinds (kinds : (List (List Int))) (lack : Int) (columns : (List (Str × Int))) (may : Bool) (P : (List (List Int)) → Prop) : Prop :=
  ∀ rows : (List (List Int)), rows = ([([] : (List Int))] : (List (List Int))) → ∃ Inv : Nat → (List (List Int)) → Prop, Inv 0 rows ∧ (∀ (i : Nat) (column : (Str × Int)) (rows2 : (List (List Int))), columns[i]? = some column → Inv i rows2 → W_l_more_kinds_b1 kinds lack columns may rows2 column P (Inv (i + 1))) ∧ (∀ (rows2 : (List (List Int))), Inv columns.length rows2 → W_l_more_kinds_k1 kinds lack columns may rows2 P)
theorem dW_l_more_kinds {kinds : List (List Int)} {lack : Int} {cols : List (Str × Int)} {may : Bool} (hp : pre_more kinds lack cols may) (P : List (List Int) → Prop) (hP : P (moreKinds kinds lack cols may)) : W_l_more_kinds kinds lack cols may P := by
  obtain ⟨hk, hc, ht, hm⟩ := hp
  have PF := prod_facts cols ht
  have p4 : ∀ i, i ≤ cols.length → 4 ^ i ≤ 16 := fun i hi => by
    have : i ≤ 2 := by omega
    calc 4 ^ i ≤ 4 ^ 2 := Nat.pow_le_pow_right (by decide) this
      _ = 16 := rfl
  rintro _ rfl
  refine ⟨fun i rows => rows = (cols.take i).foldl (fun rows c => rowsBy rows c.2) [[]], rfl, ?_, ?_⟩
  · rintro i c rows hi rfl
    have hi' := (List.getElem?_eq_some_iff.mp hi).1
    obtain ⟨hl, hr⟩ := PF i (by omega)
    have h4 := p4 i (by omega)
    have tc := ht c (List.mem_of_getElem? hi)
    have tk := take_fold (fun rows (c : Str × Int) => rowsBy rows c.2) [[]] cols hi
    generalize (cols.take i).foldl (fun rows (c : Str × Int) => rowsBy rows c.2) [[]] = rows at hl hr tk ⊢
    rintro _ rfl
    refine ⟨fun j longer => longer = (rows.take j).flatMap (fun r => (rngI 0 (c.2 + 1)).map fun v => r ++ [v]), by simp, ?_, ?_⟩
    · rintro j r longer hj rfl
      have hj' := (List.getElem?_eq_some_iff.mp hj).1
      have tf := take_flat (fun r => (rngI 0 (c.2 + 1)).map fun v => r ++ [v]) rows hj
      have lf := flat_len (fun r => (rngI 0 (c.2 + 1)).map fun v => r ++ [v]) 4 (rows.take j) fun r _ => by rw [List.length_map, rngI_len]; omega
      rw [List.length_take] at lf
      have rl := hr r (List.mem_of_getElem? hj)
      refine ⟨by omega, by omega, sz_of' (by rw [rngI_len]; omega), fun v _ => sz_of' (by show r.length + 1 ≤ 1000000; omega), sz_of' (by rw [List.length_map, rngI_len]; omega), ?_⟩
      rintro _ rfl
      exact tf.symm
    · rintro longer rfl
      show _ = _
      rw [tk, List.take_length]
      rfl
  · rintro rows rfl
    rw [List.take_length]
    obtain ⟨hl, hr⟩ := PF cols.length (Nat.le_refl _)
    rw [List.take_length] at hl hr
    have h4 := p4 cols.length (Nat.le_refl _)
    show W_l_more_kinds_k1 kinds lack cols may (prodV cols) P
    have hl : (prodV cols).length ≤ 16 := Nat.le_trans hl h4
    have hr : ∀ r ∈ prodV cols, r.length = cols.length := hr
    have ml : ∀ k, (moreOf lack cols may k).length ≤ 17 := fun k => by
      unfold moreOf
      rw [List.length_append]
      have a1 : (if (goneK lack k || may) = true then [k ++ repL [-1] (cols.length : Int)] else []).length ≤ 1 := by split <;> simp
      have a2 : (if (!goneK lack k) = true then (prodV cols).map fun r => k ++ r else []).length ≤ 16 := by
        split
        · rw [List.length_map]; exact hl
        · simp
      omega
    refine ⟨fun i found => found = (kinds.take i).flatMap (moreOf lack cols may), by simp, ?_, ?_⟩
    · rintro i k found hi rfl
      have hi' := (List.getElem?_eq_some_iff.mp hi).1
      have tf := take_flat (moreOf lack cols may) kinds hi
      have lf := flat_len (moreOf lack cols may) 17 (kinds.take i) fun k _ => ml k
      rw [List.length_take] at lf
      obtain ⟨kl, kb⟩ := hm k (List.mem_of_getElem? hi)
      generalize (kinds.take i).flatMap (moreOf lack cols may) = found at lf tf ⊢
      refine ⟨fun h => kb (of_decide_eq_true h), ?_⟩
      rintro gone hg
      have hg : gone = goneK lack k := hg
      have rl : (repL [(-1 : Int)] (cols.length : Int)).length = cols.length := by
        unfold repL
        rw [flat1, List.length_replicate]
        rfl
      -- behind the first if
      have K4 : ∀ f : List (List Int), f.length ≤ found.length + 1 → f ++ (if (!goneK lack k) = true then (prodV cols).map fun r => k ++ r else []) = (kinds.take (i + 1)).flatMap (moreOf lack cols may) → W_l_more_kinds_k4 lack cols may (prodV cols) f k gone P (fun found => found = (kinds.take (i + 1)).flatMap (moreOf lack cols may)) := by
        intro f hf e
        unfold W_l_more_kinds_k4 W_l_more_kinds_k5
        rw [hg]
        by_cases c : (!goneK lack k) = true
        · rw [if_pos c] at e
          rw [if_pos c]
          exact ⟨sz_of' (by omega), fun r hr' => sz_of' (by rw [hr r hr']; omega), sz_of' (by rw [List.length_map]; omega), e⟩
        · rw [if_neg c, List.append_nil] at e
          rw [if_neg c]
          exact e
      have tf' : (kinds.take (i + 1)).flatMap (moreOf lack cols may) = found ++ ((if (goneK lack k || may) = true then [k ++ repL [-1] (cols.length : Int)] else []) ++ (if (!goneK lack k) = true then (prodV cols).map fun r => k ++ r else [])) := tf
      rw [hg]
      rw [hg] at K4
      by_cases c : (goneK lack k || may) = true
      · rw [if_pos c] at tf'
        rw [if_pos c]
        refine ⟨⟨by omega, by omega, by show 1 * _ ≤ _; exact sz_of' (by omega)⟩, sz_of' (by rw [rl]; omega), ?_⟩
        rintro _ rfl
        refine ⟨sz_lt' (by omega), ?_⟩
        rintro _ rfl
        exact K4 _ (by rw [List.length_append]; exact Nat.le_refl _) (by rw [tf', List.append_assoc])
      · rw [if_neg c] at tf'
        rw [if_neg c]
        exact K4 _ (Nat.le_succ _) (by rw [tf']; rfl)
    · rintro found rfl
      rw [List.take_length]
      exact hP
def sp_l_more_kinds (K : PySem.W.Frag) : Sp := spF K (fun (x : (List (List Int)) × Int × (List (Str × Int)) × Bool) => [(eL (eL D.int)) x.1, D.int x.2.1, (eL (eH2 D.str D.int)) x.2.2.1, D.bl x.2.2.2]) (eL (eL D.int)) (fun (x : (List (List Int)) × Int × (List (Str × Int)) × Bool) => pre_more x.1 x.2.1 x.2.2.1 x.2.2.2) (fun (x : (List (List Int)) × Int × (List (Str × Int)) × Bool) => moreKinds x.1 x.2.1 x.2.2.1 x.2.2.2)
theorem cd_l_more_kinds {E : XK} (kinds : (List (List Int))) (lack : Int) (columns : (List (Str × Int))) (may : Bool) (hp : pre_more kinds lack columns may) : CaD K (fun vs H Q => sp_l_more_kinds K vs H Q E) [.im ((eL (eL D.int)) kinds), .im (D.int lack), .im ((eL (eH2 D.str D.int)) columns), .im (D.bl may)] (.im ((eL (eL D.int)) (moreKinds kinds lack columns may))) := cd_fn (ens := (fun (x : (List (List Int)) × Int × (List (Str × Int)) × Bool) => [(eL (eL D.int)) x.1, D.int x.2.1, (eL (eH2 D.str D.int)) x.2.2.1, D.bl x.2.2.2])) (er := (eL (eL D.int))) (kinds, lack, columns, may) hp
theorem sc_l_more_kinds : FnScope ["_law_kinds", "_law_lack", "_law_columns", "_law_may", "_law_rows", "_law_column", "_law_longer", "_law_row_here", "_law_value", "_law_found", "_law_kind", "_law_gone"] ["_law_kinds", "_law_lack", "_law_columns", "_law_may"] (defScope s_l_more_kinds) := ⟨rfl, rfl, rfl, by decide +kernel, rfl, by decide +kernel, by decide +kernel⟩
theorem ok_l_more_kinds (T : Txt K mg a) : FnOk P w K mg base CX0 1 a.f_l_more_kinds a.d_l_more_kinds ["_law_kinds", "_law_lack", "_law_columns", "_law_may"] (sp_l_more_kinds K) := by
  refine T.F_l_more_kinds.ok sc_l_more_kinds (fun vs H Q E h => ?_) (fun cdv A outer s H vs Q E hr h => ?_)
  · obtain ⟨M0, x, w0, hx, _⟩ := h
    exact hx.len
  · obtain ⟨M0, x, w0, hx, hp, kq⟩ := h
    obtain ⟨kinds, lack, columns, may⟩ := x
    have hx : rDs K (Fx M0 H) [(eL (eL D.int)) kinds, D.int lack, (eL (eH2 D.str D.int)) columns, D.bl may] vs := hx
    obtain ⟨v4, _, rfl, h5, v3, _, rfl, h4, v2, _, rfl, h3, v, _, rfl, h2, rfl⟩ := hx
    obtain ⟨Y, eY⟩ : ∃ Y : List Addr, Y = [] := ⟨_, rfl⟩
    have g : Gd M0 [] Y H H := Gd.start w0 (by rw [eY]; exact fun y h => nomatch h)
    have h5 : rV K (mxM M0 []) H (.im ((eL (eL D.int)) kinds)) v4 := rV.lx Gd.lx0 (show rV K M0 H (.im ((eL (eL D.int)) kinds)) v4 from h5)
    cases (show v3 = (V.int lack) from h4)
    have h3 : rV K (mxM M0 []) H (.im ((eL (eH2 D.str D.int)) columns)) v2 := rV.lx Gd.lx0 (show rV K M0 H (.im ((eL (eH2 D.str D.int)) columns)) v2 from h3)
    cases (show v = (V.bl may) from h2)
    obtain ⟨P, eP⟩ : ∃ P : (List (List Int)) → Prop, P = fun r => r = moreKinds kinds lack columns may := ⟨_, rfl⟩
    have kk : ∀ r v H2, P r → Wd M0 H2 → Same H H2 → rD K (Fx M0 H2) ((eL (eL D.int)) r) v → Q v H2 := fun r v H2 e => by rw [eP] at e; rw [show r = moreKinds kinds lack columns may from e]; exact kq v H2
    have hw : W_l_more_kinds kinds lack columns may P := dW_l_more_kinds hp P (by rw [eP])
    unfold W_l_more_kinds at hw
    refine ⟨_, (pss_cons (ps_set (i := 4) sc_l_more_kinds.nd rfl (.inl rfl) (pe_lstS (pa_cons (pe_lstS pa_nil) pa_nil)))
      (pss_cons (ps_for PassesOwn.never rfl (pi_list (pv 2)) (pg_name (i := 5) sc_l_more_kinds.nd rfl (.inl rfl))
      (pss_cons (ps_set (i := 6) sc_l_more_kinds.nd rfl (.inl rfl) (pe_lstS pa_nil))
      (pss_cons (ps_for PassesOwn.never rfl (pi_list (pv 4)) (pg_name (i := 7) sc_l_more_kinds.nd rfl (.inr rfl))
      (pss_cons (ps_set (i := 6) sc_l_more_kinds.nd rfl (.inl rfl) (pe_op op_catS (pv 6) (pe_lc (own := [("_law_value", 8)]) (g := gName 8) (tt := tYes) (te := (tOp rCatS (tVar 7) (tLstS (tCons (tVar 8) tNil)))) rfl sc_l_more_kinds.nd (pi_range1 (by rfl) T.b_range (pa_cons (pe_op op_add (pe_ix ix_list (pv 5) pe_int (fun _ _ => rfl)) pe_int) pa_nil)) (blkOk_by (own := [("_law_value", 8)]) (N := ["_law_kinds", "_law_lack", "_law_columns", "_law_may", "_law_rows", "_law_column", "_law_longer", "_law_row_here", "_law_value", "_law_found", "_law_kind", "_law_gone"]) (sc := defScope s_l_more_kinds) (by decide +kernel)) (fun _ _ _ _ _ => (pg_name (i := 8) sc_l_more_kinds.nd rfl (.inl rfl))) (fun _ _ _ _ _ => pts_nil) (fun _ _ _ _ _ => (pe_op op_catS (pv 7) (pe_lstS (pa_cons (pv 8) pa_nil)))))))
      pss_nil))
      (pss_cons (ps_set (i := 4) sc_l_more_kinds.nd rfl (.inl rfl) (pv 6))
      pss_nil))))
      (pss_cons (ps_set (i := 9) sc_l_more_kinds.nd rfl (.inl rfl) (pe_lstS pa_nil))
      (pss_cons (ps_for PassesOwn.never rfl (pi_list (pv 0)) (pg_name (i := 10) sc_l_more_kinds.nd rfl (.inr rfl))
      (pss_cons (ps_set (i := 11) sc_l_more_kinds.nd rfl (.inl rfl) (pe_and (pe_cmpR op_ge (pv 1) pe_int (nomark _)) (pe_one (pe_cmpR op_lt (pe_ix ix_list (pv 10) (pv 1) (fun _ _ => rfl)) pe_int (nomark _)))))
      (pss_cons (ps_if (PW.pt (pw_or (pt_val (pv 11)) (pw_or1 (pt_val (pv 3))))) (pss_cons (ps_expr (pe_bm PySem.F.plainAttrs_list PySem.F.slot_list_append PySem.F.type_list_append mt_append (pv 9) (pa_cons (pe_op op_catS (pv 10) (pe_op op_repS (pe_lstS (pa_cons (pe_un un_neg pe_int) pa_nil)) (pe_callB call_len_seq (by rfl) T.b_len PySem.boot_len (pa_cons (pv 2) pa_nil)))) pa_nil)))
      pss_nil) pss_nil)
      (pss_cons (ps_if (pt_not (pt_val (pv 11))) (pss_cons (ps_set (i := 9) sc_l_more_kinds.nd rfl (.inl rfl) (pe_op op_catS (pv 9) (pe_lc (own := [("_law_row_here", 7)]) (g := gName 7) (tt := tYes) (te := (tOp rCatS (tVar 10) (tVar 7))) rfl sc_l_more_kinds.nd (pi_list (pv 4)) (blkOk_by (own := [("_law_row_here", 7)]) (N := ["_law_kinds", "_law_lack", "_law_columns", "_law_may", "_law_rows", "_law_column", "_law_longer", "_law_row_here", "_law_value", "_law_found", "_law_kind", "_law_gone"]) (sc := defScope s_l_more_kinds) (by decide +kernel)) (fun _ _ _ _ _ => (pg_name (i := 7) sc_l_more_kinds.nd rfl (.inl rfl))) (fun _ _ _ _ _ => pts_nil) (fun _ _ _ _ _ => (pe_op op_catS (pv 10) (pv 7))))))
      pss_nil) pss_nil)
      pss_nil))))
      (pss_cons (ps_ret (pv 9))
      pss_nil))))), ?_⟩
    refine st_set ?_
    refine EV.goA (K := K) (en := (eL (eL D.int))) (x0 := ([([] : (List Int))] : (List (List Int)))) (ev_lst (ds := [(eL D.int) ([] : (List Int))]) (eva_cons (ev_lst (ds := []) eva_nil (Nat.le_of_ble_eq_true rfl)) eva_nil) (Nat.le_of_ble_eq_true rfl)) g.wd fun rows e v5 H2 wd s2 h6 => ?_
    have hw := hw rows e
    have g2 := g.same s2
    try dsimp only [gName]
    refine st_norm (σ' := [some v4, some (V.int lack), some v2, some (V.bl may), some v5, none, none, none, none, none, none, none]) rfl ?_
    refine st_for ?_
    have h7 : rV K (mxM M0 []) H2 (.im ((eL (eH2 D.str D.int)) columns)) v2 := (h3.same s2)
    refine EVI.gom (K := K) (en := (eH2 D.str D.int)) (xs := columns) (evi_list (es := List.map (eH2 D.str D.int) columns) (ev_var (d := (.im ((eL (eH2 D.str D.int)) columns))) (i := 2) rfl h7)) g2.wd fun J H3 wd2 s3 wk => ?_
    have g3 := g2.same s3
    obtain ⟨Inv, hI, hI2, hI3⟩ := hw
    have h9 : rV K (mxM M0 []) H3 (.im ((eL (eL D.int)) rows)) v5 := (h6.same s3)
    refine st_forit wk (fun i σ' H' => ∃ (v6 : V) (rows2 : (List (List Int))) (o : Option V) (o2 : Option V) (o3 : Option V), σ' = [some v4, some (V.int lack), some v2, some (V.bl may), some v6, o, o2, o3, none, none, none, none] ∧ Gd M0 [] Y H H' ∧ Lx (mxM M0 []) (mxM M0 []) H3 H' ∧ rV K (mxM M0 []) H' (.im ((eL (eL D.int)) rows2)) v6 ∧ Inv i rows2) ⟨_, rows, _, _, _, rfl, g3, Lx.refl, h9, hI⟩ (fun i σ' H' _ ⟨_, _, _, _, _, _, _, hl, _⟩ => ⟨_, hl⟩) ?_ ?_
    · rintro i x2 σ' H4 H5 hi ⟨v6, rows2, o, o2, o3, rfl, g4, l, h8, hI4⟩ yd
      obtain ⟨column, hy, s4, hr2⟩ := yd_map yd
      have hw := hI2 i column  rows2 hy hI4
      have hr2 := hr2 _ g4.wd l
      have g5 := g4.same s4
      have hr2 : rV K (mxM M0 []) H5 (.im ((eH2 D.str D.int) column)) x2 := hr2
      unfold W_l_more_kinds_b1 at hw
      try dsimp only [gName]
      refine st_norm (σ' := [some v4, some (V.int lack), some v2, some (V.bl may), some v6, some x2, o2, o3, none, none, none, none]) rfl ?_
      refine st_set ?_
      refine EV.goA (K := K) (en := (eL (eL D.int))) (x0 := ([] : (List (List Int)))) (ev_lst (ds := []) eva_nil (Nat.le_of_ble_eq_true rfl)) g5.wd fun longer e2 v7 H6 wd3 s5 h10 => ?_
      have hw := hw longer e2
      have g6 := g5.same s5
      try dsimp only [gName]
      refine st_norm (σ' := [some v4, some (V.int lack), some v2, some (V.bl may), some v6, some x2, some v7, o3, none, none, none, none]) rfl ?_
      refine st_for ?_
      have h11 : rV K (mxM M0 []) H6 (.im ((eL (eL D.int)) rows2)) v6 := ((h8.same s4).same s5)
      refine EVI.gom (K := K) (en := (eL D.int)) (xs := rows2) (evi_list (es := List.map (eL D.int) rows2) (ev_var (d := (.im ((eL (eL D.int)) rows2))) (i := 4) rfl h11)) g6.wd fun J2 H7 wd4 s6 wk2 => ?_
      have g7 := g6.same s6
      obtain ⟨Inv2, hI5, hI6, hI7⟩ := hw
      have h13 : rV K (mxM M0 []) H7 (.im ((eL (eL D.int)) longer)) v7 := (h10.same s6)
      refine st_forit wk2 (fun i σ' H' => ∃ (v8 : V) (longer2 : (List (List Int))) (o4 : Option V), σ' = [some v4, some (V.int lack), some v2, some (V.bl may), some v6, some x2, some v8, o4, none, none, none, none] ∧ Gd M0 [] Y H H' ∧ Lx (mxM M0 []) (mxM M0 []) H7 H' ∧ rV K (mxM M0 []) H' (.im ((eL (eL D.int)) longer2)) v8 ∧ Inv2 i longer2) ⟨_, longer, _, rfl, g7, Lx.refl, h13, hI5⟩ (fun i σ' H' _ ⟨_, _, _, _, _, hl, _⟩ => ⟨_, hl⟩) ?_ ?_
      · rintro i2 x3 σ' H8 H9 hi2 ⟨v8, longer2, o4, rfl, g8, l2, h12, hI8⟩ yd2
        obtain ⟨row_here, hy2, s7, hr3⟩ := yd_map yd2
        have hw := hI6 i2 row_here  longer2 hy2 hI8
        have hr3 := hr3 _ g8.wd l2
        have g9 := g8.same s7
        have hr3 : rV K (mxM M0 []) H9 (.im ((eL D.int) row_here)) x3 := hr3
        unfold W_l_more_kinds_b2 at hw
        try dsimp only [gName]
        refine st_norm (σ' := [some v4, some (V.int lack), some v2, some (V.bl may), some v6, some x2, some v8, some x3, none, none, none, none]) rfl ?_
        refine st_set ?_
        have h14 : rV K (mxM M0 []) H9 (.im ((eL (eL D.int)) longer2)) v8 := (h12.same s7)
        have h15 : rV K (mxM M0 []) H9 (.im ((eH2 D.str D.int) column)) x2 := ((rV.lx l2 ((hr2.same s5).same s6)).same s7)
        obtain ⟨c, c2, c3, c4, c5, hw⟩ := hw
        refine EV.goA (K := K) (en := (eL (eL D.int))) (x0 := (longer2 ++ ((rngI 0 (column.2 + 1)).map fun (value : Int) => (row_here ++ ([value] : (List Int)))))) (ev_op (ev_var (d := (.im ((eL (eL D.int)) longer2))) (i := 6) rfl h14) (ev_lcmm (fd := fun (value : Int) => (row_here ++ ([value] : (List Int)))) (en2 := (eL D.int)) (xs := (rngI 0 (column.2 + 1))) (en := D.int) (evi_range1 (eva_cons (ev_op (ev_op (ev_var (d := (.im ((eH2 D.str D.int) column))) (i := 5) rfl h15) ev_int (od_ixL (es := [D.str column.1, D.int column.2]) LsOf.im rfl)) ev_int od_add) eva_nil) c c2) GI.ex gm_name c3 (fun value hy3 M H10 v9 wd5 ex h16 => ⟨rfl, rfl, (ev_op (ev_var (d := (.im ((eL D.int) row_here))) (i := 7) rfl (rV.ex (d := (.im ((eL D.int) row_here))) ex hr3)) (ev_lst (ds := [D.int value]) (eva_cons (ev_var (d := (.im (D.int value))) (i := 8) rfl h16) eva_nil) (Nat.le_of_ble_eq_true rfl)) (od_catm (en := D.int) (xs := row_here) (ys := ([value] : (List Int))) LsOf.im LsOf.im (c4 value hy3)))⟩)) (od_catm (en := (eL D.int)) (xs := longer2) (ys := ((rngI 0 (column.2 + 1)).map fun (value : Int) => (row_here ++ ([value] : (List Int))))) LsOf.im LsOf.im c5)) g9.wd fun longer3 e3 v10 H11 wd6 s8 h17 => ?_
        have hw := hw longer3 e3
        have g10 := g9.same s8
        exact ⟨_, longer3, _, rfl, g10, ((l2.trans (Lx.same s7)).trans (Lx.same s8)), h17, hw⟩
      · rintro σ' H12 ⟨v8, longer2, o4, rfl, g11, l3, h12, hI9⟩
        have hw := hI7 longer2 hI9
        unfold W_l_more_kinds_k2 at hw
        try dsimp only [gName]
        refine st_norm (σ' := [some v4, some (V.int lack), some v2, some (V.bl may), some v6, some x2, some v8, o4, none, none, none, none]) rfl ?_
        refine st_set ?_
        refine EV.go (K := K) (d := (.im ((eL (eL D.int)) longer2))) (ev_var (d := (.im ((eL (eL D.int)) longer2))) (i := 6) rfl h12) g11.wd fun v11 H13 wd7 s9 h18 => ?_
        have g12 := g11.same s9
        exact ⟨_, longer2, _, _, _, rfl, g12, (((((l.trans (Lx.same s4)).trans (Lx.same s5)).trans (Lx.same s6)).trans l3).trans (Lx.same s9)), h18, hw⟩
    · rintro σ' H14 ⟨v6, rows2, o, o2, o3, rfl, g13, l4, h8, hI10⟩
      have hw := hI3 rows2 hI10
      unfold W_l_more_kinds_k1 at hw
      try dsimp only [gName]
      refine st_norm (σ' := [some v4, some (V.int lack), some v2, some (V.bl may), some v6, o, o2, o3, none, none, none, none]) rfl ?_
      refine st_set ?_
      refine EVN.go (K := K) (evn_lst (ds := []) eva_nil (Nat.le_of_ble_eq_true rfl)) g13.wd fun p H15 H16 wd8 s10 np s11 vs2 hp2 hv => ?_
      have g14 := g13.same s10
      have ex2 := Gd.ex_new (M0 := M0) (Ls := []) s11 np
      have g15 := g14.new s11 np hp2
      have h19 : rV K (mxM M0 [p]) H16 (.mu p (List.map (eL D.int) ([] : (List (List Int))))) (V.ref p) := ⟨rfl, vs2, hp2, rDs.mono ex2.lx _ _ hv⟩
      try dsimp only [gName]
      refine st_norm (σ' := [some v4, some (V.int lack), some v2, some (V.bl may), some v6, o, o2, o3, none, some (V.ref p), none, none]) rfl ?_
      refine st_for ?_
      have h20 : rV K (mxM M0 [p]) H16 (.im ((eL (eL D.int)) kinds)) v4 := (((rV.lx l4 ((h5.same s2).same s3)).same s10).ex ex2)
      refine EVI.gom (K := K) (en := (eL D.int)) (xs := kinds) (evi_list (es := List.map (eL D.int) kinds) (ev_var (d := (.im ((eL (eL D.int)) kinds))) (i := 0) rfl h20)) g15.wd fun J3 H17 wd9 s12 wk3 => ?_
      have g16 := g15.same s12
      have h21 := rV.same s12 h19
      obtain ⟨Inv3, hI11, hI12, hI13⟩ := hw
      refine st_forit wk3 (fun i σ' H' => ∃ (p2 : Addr) (found : (List (List Int))) (o5 : Option V) (o6 : Option V), σ' = [some v4, some (V.int lack), some v2, some (V.bl may), some v6, o, o2, o3, none, some (V.ref p2), o5, o6] ∧ Gd M0 [p2] Y H H' ∧ Lx (mxM M0 [p]) (mxM M0 [p2]) H17 H' ∧ rV K (mxM M0 [p2]) H' (.mu p2 (List.map (eL D.int) found)) (V.ref p2) ∧ Inv3 i found) ⟨p, ([] : (List (List Int))), _, _, rfl, g16, Lx.refl, h21, hI11⟩ (fun i σ' H' _ ⟨_, _, _, _, _, _, hl, _⟩ => ⟨_, hl⟩) ?_ ?_
      · rintro i3 x4 σ' H18 H19 hi3 ⟨p2, found, o5, o6, rfl, g17, l5, h22, hI14⟩ yd3
        obtain ⟨kind, hy4, s13, hr4⟩ := yd_map yd3
        have hw := hI12 i3 kind  found hy4 hI14
        have hr4 := hr4 _ g17.wd l5
        have g18 := g17.same s13
        have h23 := rV.same s13 h22
        have hr4 : rV K (mxM M0 [p2]) H19 (.im ((eL D.int) kind)) x4 := hr4
        unfold W_l_more_kinds_b3 at hw
        try dsimp only [gName]
        refine st_norm (σ' := [some v4, some (V.int lack), some v2, some (V.bl may), some v6, o, o2, o3, none, some (V.ref p2), some x4, o6]) rfl ?_
        refine st_set ?_
        obtain ⟨c6, hw⟩ := hw
        refine EV.goA (K := K) (en := D.bl) (x0 := ((decide (0 ≤ lack)) && (decide ((ixD kind lack) < 0)))) (ev_and (ev_op (ev_vi (i := 1) rfl) ev_int od_ge) fun hb => (ev_op (ev_op (ev_var (d := (.im ((eL D.int) kind))) (i := 10) rfl hr4) (ev_vi (i := 1) rfl) (od_ixLm (en := D.int) (xs := kind) LsOf.im (c6 hb))) ev_int od_lt)) g18.wd fun gone e4 v12 H20 wd10 s14 h24 => ?_
        have hw := hw gone e4
        have g19 := g18.same s14
        have h25 := rV.same s14 h23
        cases (show v12 = (V.bl gone) from h24)
        try dsimp only [gName]
        refine st_norm (σ' := [some v4, some (V.int lack), some v2, some (V.bl may), some v6, o, o2, o3, none, some (V.ref p2), some x4, some (V.bl gone)]) rfl ?_
        try dsimp only [gName]
        refine if_cut (fun σ' H' => ∃ (found2 : (List (List Int))), σ' = [some v4, some (V.int lack), some v2, some (V.bl may), some v6, o, o2, o3, none, some (V.ref p2), some x4, some (V.bl gone)] ∧ Gd M0 [p2] Y H H' ∧ Lx (mxM M0 [p2]) (mxM M0 [p2]) H20 H' ∧ rV K (mxM M0 [p2]) H' (.mu p2 (List.map (eL D.int) found2)) (V.ref p2) ∧ W_l_more_kinds_k4 lack columns may rows2 found2 kind gone P (Inv3 (i3 + 1))) (fun nx hnx => ?_) ?_
        · refine EVT.go (b := (gone || may)) (evt_or (evt_b (K := K) (ev_vb (i := 11) rfl)) fun hb2 => (evt_b (K := K) (ev_vb (i := 3) rfl))) g19.wd fun H21 wd11 s15 => ?_
          have g20 := g19.same s15
          have h27 := rV.same s15 h25
          refine wite hw (fun hw => ?_) (fun hw => ?_)
          · skip
            refine st_expr ?_
            refine x_bm (ev_var (d := (.mu p2 (List.map (eL D.int) found))) (i := 9) rfl h27) LsOf.mu g20.wd fun v13 H22 wd12 s16 h28 => ?_
            have g21 := g20.same s16
            have h29 := rV.same s16 h27
            cases h28.1
            refine x_cons ?_
            have h30 : rV K (mxM M0 [p2]) H22 (.im ((eL D.int) kind)) x4 := (((hr4.same s14).same s15).same s16)
            have h31 : rV K (mxM M0 [p2]) H22 (.im ((eL (eH2 D.str D.int)) columns)) v2 := (((((rV.lx l5 ((((rV.lx l4 (h7.same s3)).same s10).ex ex2).same s12)).same s13).same s14).same s15).same s16)
            obtain ⟨c7, c8, hw⟩ := hw
            refine EV.goA (K := K) (en := (eL D.int)) (x0 := (kind ++ (repL ([(-1 : Int)] : (List Int)) (columns.length : Int)))) (ev_op (ev_var (d := (.im ((eL D.int) kind))) (i := 10) rfl h30) (ev_op (ev_lst (ds := [D.int (-1 : Int)]) (eva_cons (ev_un ev_int ud_neg) eva_nil) (Nat.le_of_ble_eq_true rfl)) (ev_cb (eva_cons (ev_var (d := (.im ((eL (eH2 D.str D.int)) columns))) (i := 2) rfl h31) eva_nil) (cd_lenm (en := (eH2 D.str D.int)) (xs := columns) (.inl LsOf.im))) (od_repm (en := D.int) (xs := ([(-1 : Int)] : (List Int))) LsOf.im c7)) (od_catm (en := D.int) (xs := kind) (ys := (repL ([(-1 : Int)] : (List Int)) (columns.length : Int))) LsOf.im LsOf.im c8)) g21.wd fun d e5 v14 H23 wd13 s17 h32 => ?_
            have hw := hw d e5
            have g22 := g21.same s17
            have h33 := rV.same s17 h29
            refine x_nil ?_
            obtain ⟨c9, hw⟩ := hw
            refine x_append (d := (eL D.int) d) h33 h32 (by simp) (by rw [List.length_map]; exact c9) fun H24 ⟨vs3, eu⟩ h34 => ?_
            obtain ⟨found3, efound3⟩ : ∃ z_ : (List (List Int)), z_ = (found ++ [d]) := ⟨_, rfl⟩
            have hw := hw found3 efound3
            have h34 : rV K (mxM M0 [p2]) H24 (.mu p2 (List.map (eL D.int) found3)) (V.ref p2) := by rw [efound3, List.map_append]; exact h34
            subst eu
            have g23 : Gd M0 [p2] Y H (upd H23 p2 (.lst vs3)) := g22.upd (by simp)
            have l6 : Lx (mxM M0 [p2]) (mxM M0 [p2]) H23 (upd H23 p2 (.lst vs3)) := Gd.lx_upd (by simp)
            exact hnx _ _ ⟨found3, rfl, g23, ((((Lx.same s15).trans (Lx.same s16)).trans (Lx.same s17)).trans l6), h34, hw⟩
          · skip
            exact hnx _ _ ⟨found, rfl, g20, (Lx.same s15), h27, hw⟩
        rintro σ' H25 ⟨found2, rfl, g24, l7, h26, hw⟩
        try dsimp only [gName]
        refine if_cut (fun σ' H' => ∃ (p3 : Addr) (found4 : (List (List Int))), σ' = [some v4, some (V.int lack), some v2, some (V.bl may), some v6, o, o2, o3, none, some (V.ref p3), some x4, some (V.bl gone)] ∧ Gd M0 [p3] Y H H' ∧ Lx (mxM M0 [p2]) (mxM M0 [p3]) H25 H' ∧ rV K (mxM M0 [p3]) H' (.mu p3 (List.map (eL D.int) found4)) (V.ref p3) ∧ W_l_more_kinds_k5 lack columns may rows2 found4 P (Inv3 (i3 + 1))) (fun nx hnx => ?_) ?_
        · refine EVT.go (b := (!gone)) (evt_not (evt_b (K := K) (ev_vb (i := 11) rfl))) g24.wd fun H26 wd14 s18 => ?_
          have g25 := g24.same s18
          have h36 := rV.same s18 h26
          refine wite hw (fun hw => ?_) (fun hw => ?_)
          · skip
            refine st_set ?_
            have h37 : rV K (mxM M0 [p2]) H26 (.im ((eL (eL D.int)) rows2)) v6 := ((rV.lx l7 (((rV.lx l5 (((h8.same s10).ex ex2).same s12)).same s13).same s14)).same s18)
            have h39 : rV K (mxM M0 [p2]) H26 (.im ((eL D.int) kind)) x4 := ((rV.lx l7 (hr4.same s14)).same s18)
            obtain ⟨c10, c11, c12, hw⟩ := hw
            refine EVN.go (K := K) (evn_catm (en := (eL D.int)) (xs := found2) (ys := (rows2.map fun (row_here2 : (List Int)) => (kind ++ row_here2))) (ev_var (d := (.mu p2 (List.map (eL D.int) found2))) (i := 9) rfl h36) (ev_lcmm (fd := fun (row_here2 : (List Int)) => (kind ++ row_here2)) (en2 := (eL D.int)) (xs := rows2) (en := (eL D.int)) (evi_list (es := List.map (eL D.int) rows2) (ev_var (d := (.im ((eL (eL D.int)) rows2))) (i := 4) rfl h37)) GI.ex gm_name c10 (fun row_here2 hy5 M2 H27 v15 wd15 ex3 h38 => ⟨rfl, rfl, (ev_op (ev_var (d := (.im ((eL D.int) kind))) (i := 10) rfl (rV.ex (d := (.im ((eL D.int) kind))) ex3 h39)) (ev_var (d := (.im ((eL D.int) row_here2))) (i := 7) rfl h38) (od_catm (en := D.int) (xs := kind) (ys := row_here2) LsOf.im LsOf.im (c11 row_here2 hy5)))⟩)) LsOf.mu LsOf.im c12) g25.wd fun p4 H28 H29 wd16 s19 np2 s20 vs4 hp3 hv2 => ?_
            have g26 := g25.same s19
            have h40 := rV.same s19 h36
            have ex4 := Gd.ex_new (M0 := M0) (Ls := [p2]) s20 np2
            have g27 := g26.new s20 np2 hp3
            have h41 := rV.ex ex4 h40
            have h42 : rV K (mxM M0 [p4, p2]) H29 (.mu p4 (List.map (eL D.int) (found2 ++ (rows2.map fun (row_here2 : (List Int)) => (kind ++ row_here2))))) (V.ref p4) := ⟨rfl, vs4, hp3, rDs.mono ex4.lx _ _ hv2⟩
            have g28 := g27.pick [0] (Ls' := [p4]) (by decide) rfl
            have l8 : Lx (mxM M0 [p4, p2]) (mxM M0 [p4]) H29 H29 := Gd.lx_pick [0] rfl
            have h43 := mu_pick h42 [0] (Ls' := [p4]) rfl
            exact hnx _ _ ⟨p4, (found2 ++ (rows2.map fun (row_here2 : (List Int)) => (kind ++ row_here2))), rfl, g28, ((((Lx.same s18).trans (Lx.same s19)).trans ex4.lx).trans l8), h43, hw⟩
          · skip
            exact hnx _ _ ⟨p2, found2, rfl, g25, (Lx.same s18), h36, hw⟩
        rintro σ' H30 ⟨p3, found4, rfl, g29, l9, h35, hw⟩
        exact ⟨p3, found4, _, _, rfl, g29, ((((l5.trans (Lx.same s13)).trans (Lx.same s14)).trans l7).trans l9), h35, hw⟩
      · rintro σ' H31 ⟨p2, found, o5, o6, rfl, g30, l10, h22, hI15⟩
        have hw := hI13 found hI15
        unfold W_l_more_kinds_k3 at hw
        try dsimp only [gName]
        refine st_norm (σ' := [some v4, some (V.int lack), some v2, some (V.bl may), some v6, o, o2, o3, none, some (V.ref p2), o5, o6]) rfl ?_
        refine st_ret ?_
        refine EV.go (K := K) (d := (.mu p2 (List.map (eL D.int) found))) (ev_var (d := (.mu p2 (List.map (eL D.int) found))) (i := 9) rfl h22) g30.wd fun v16 H32 wd17 s21 h44 => ?_
        have g31 := g30.same s21
        have h45 := rV.same s21 h22
        exact kk _ _ _ hw g31.w_end (Bu.nil g31.bu eY) (mu_ret h44 g31 (by simp))
def S_count (n : Nat) (great : Bool) (P : Int → Nat → Prop) : Prop := n < 2 ^ 59 ∧ ∀ r m, 0 ≤ r → r ≤ 10 ^ 30 → (great = false → r ≤ 3) → m ≤ n + 2 → P r m
def W_l_count (n : Nat) (great : Bool) (P : Int → Nat → Prop) : Prop :=
  (if great = true then (S_draw n 3 (fun r n2 => (if (decide (r = 0)) = true then ((CPow 10 30) ∧ S_draw n2 (((10 : Int) ^ Int.toNat 30) + 1) (fun r2 n3 => P r2 n3)) else (S_draw n2 4 (fun r3 n4 => P r3 n4))))) else (S_draw n 4 (fun r4 n5 => P r4 n5)))
theorem dW_l_count {n : Nat} {great : Bool} {P : Int → Nat → Prop} (h : S_count n great P) : W_l_count n great P := by
  obtain ⟨hn, k⟩ := h
  unfold W_l_count
  have e30 : (10 : Int) ^ Int.toNat 30 = 10 ^ 30 := rfl
  split
  · rename_i hg
    refine ⟨by omega, by decide, by decide, fun r r0 r1 => ?_⟩
    dsimp only
    split
    · refine ⟨⟨by decide, by decide, by decide⟩, by omega, by decide, by decide, fun r r0 r1 => k r _ r0 (by omega) (fun e => by rw [hg] at e; cases e) (by omega)⟩
    · exact ⟨by omega, by decide, by decide, fun r r0 r1 => k r _ r0 (by omega) (fun _ => by omega) (by omega)⟩
  · exact ⟨by omega, by decide, by decide, fun r r0 r1 => k r _ r0 (by omega) (fun _ => by omega) (by omega)⟩
def sp_l_count (K : PySem.W.Frag) : Sp := spS SMA K (fun (x : Bool) => [D.bl x]) D.int (fun n (x : Bool) P => S_count n x P)
theorem sc_l_count : FnScope ["_law_state", "_law_great"] ["_law_state", "_law_great"] (defScope s_l_count) := ⟨rfl, rfl, rfl, by decide +kernel, rfl, by decide +kernel, by decide +kernel⟩
theorem ok_l_count (T : Txt K mg a) : FnOk P w K mg base CX0 2 a.f_l_count a.d_l_count ["_law_state", "_law_great"] (sp_l_count K) := by
  refine T.F_l_count.ok sc_l_count (fun vs H Q E h => ?_) (fun cdv A outer s H vs Q E hr h => ?_)
  · obtain ⟨M0, st, Y, n, x, us, P, rfl, w0, ys, hS, hx, _⟩ := h
    exact congrArg Nat.succ hx.len
  · obtain ⟨M0, st, Y, n, x, us, P, rfl, w0, ys, hS, hx, hS0, kk⟩ := h
    obtain ⟨great, ex⟩ : ∃ z, z = x := ⟨_, rfl⟩
    subst ex
    have hx : rDs K (Fx M0 H) [D.bl great] us := hx
    obtain ⟨v, _, rfl, h2, rfl⟩ := hx
    have g : Gd M0 [] Y H H := Gd.start w0 ys
    cases (show v = (V.bl great) from h2)
    have hw := dW_l_count hS0
    unfold W_l_count at hw
    refine ⟨_, (pss_cons (ps_if (PW.pt (pw_and (pt_val (pv 1)) (pw_and1 (pt_cmpR op_eq (pe_call (ok_l_draw T) (hr.mono (by decide)) rfl T.m_l_draw T.k_l_draw T.a_l_draw .nil pass0 (pa_cons (pv 0) (pa_cons pe_int pa_nil))) pe_int (nomark _))))) (pss_cons (ps_ret (pe_call (ok_l_draw T) (hr.mono (by decide)) rfl T.m_l_draw T.k_l_draw T.a_l_draw .nil pass0 (pa_cons (pv 0) (pa_cons (pe_op op_add (pe_op op_pow pe_int pe_int) pe_int) pa_nil))))
      pss_nil) pss_nil)
      (pss_cons (ps_ret (pe_call (ok_l_draw T) (hr.mono (by decide)) rfl T.m_l_draw T.k_l_draw T.a_l_draw .nil pass0 (pa_cons (pv 0) (pa_cons pe_int pa_nil))))
      pss_nil)), ?_⟩
    refine st_if ?_
    refine x_and ?_
    refine EVT.go (b := great) (evt_b (K := K) (ev_vb (i := 1) rfl)) g.wd fun H2 wd s2 => ?_
    have g2 := g.same s2
    have hS := hS.same s2
    refine wite hw (fun hw => ?_) (fun hw => ?_)
    · skip
      refine x_test ?_
      refine x_op ?_
      refine x_call ?_
      refine x_cons ?_
      refine ⟨_, rfl, ?_⟩
      refine x_cons ?_
      refine EV.go (K := K) (d := (.im (D.int 3))) ev_int g2.wd fun v3 H4 wd3 s4 h4 => ?_
      have g3 := g2.same s4
      have hS2 := hS.same s4
      cases (show v3 = (V.int 3) from h4)
      refine x_nil ?_
      refine ⟨mxM M0 [], st, Y, n, 3, _, _, rfl, g3.wd, fun y hy => .inl (g3.ys y hy), hS2, ⟨_, _, rfl, rfl, rfl⟩, hw, fun r v4 n2 H5 hw wd4 b hS3 h5 => ?_⟩
      have g4 := g3.call wd4 b
      have l := Gd.lx_call g3 b
      cases (show v4 = (V.int r) from h5)
      refine EV.go (K := K) (d := (.im (D.int 0))) ev_int g4.wd fun v5 H6 wd5 s5 h6 => ?_
      have g5 := g4.same s5
      have hS4 := hS3.same s5
      cases (show v5 = (V.int 0) from h6)
      refine opd_go (K := K) (d := (.im (D.int r))) (e := (.im (D.int 0))) (f := .im (D.bl (decide (r = 0)))) od_eqI g5.wd rfl rfl fun v6 H7 wd6 s6 h7 => ?_
      have g6 := g5.same s6
      have hS5 := hS4.same s6
      cases (show v6 = (V.bl (decide (r = 0))) from h7)
      refine ⟨_, rfl, ?_⟩
      refine wite hw (fun hw => ?_) (fun hw => ?_)
      · skip
        refine st_ret ?_
        refine x_call ?_
        refine x_cons ?_
        refine ⟨_, rfl, ?_⟩
        refine x_cons ?_
        obtain ⟨c, hw⟩ := hw
        refine EV.go (K := K) (d := (.im (D.int (((10 : Int) ^ Int.toNat 30) + 1)))) (ev_op (ev_op ev_int ev_int (od_pow c)) ev_int od_add) g6.wd fun v8 H9 wd8 s8 h9 => ?_
        have g7 := g6.same s8
        have hS6 := hS5.same s8
        cases (show v8 = (V.int (((10 : Int) ^ Int.toNat 30) + 1)) from h9)
        refine x_nil ?_
        refine ⟨mxM M0 [], st, Y, n2, (((10 : Int) ^ Int.toNat 30) + 1), _, _, rfl, g7.wd, fun y hy => .inl (g7.ys y hy), hS6, ⟨_, _, rfl, rfl, rfl⟩, hw, fun r2 v9 n3 H10 hw wd9 b2 hS7 h10 => ?_⟩
        have g8 := g7.call wd9 b2
        have l2 := Gd.lx_call g7 b2
        cases (show v9 = (V.int r2) from h10)
        exact kk _ _ _ _ hw g8.w_end g8.bu hS7 rfl
      · skip
        refine Lf.st_next ?_
        refine st_ret ?_
        refine x_call ?_
        refine x_cons ?_
        refine ⟨_, rfl, ?_⟩
        refine x_cons ?_
        refine EV.go (K := K) (d := (.im (D.int 4))) ev_int g6.wd fun v11 H12 wd11 s10 h12 => ?_
        have g9 := g6.same s10
        have hS8 := hS5.same s10
        cases (show v11 = (V.int 4) from h12)
        refine x_nil ?_
        refine ⟨mxM M0 [], st, Y, n2, 4, _, _, rfl, g9.wd, fun y hy => .inl (g9.ys y hy), hS8, ⟨_, _, rfl, rfl, rfl⟩, hw, fun r3 v12 n4 H13 hw wd12 b3 hS9 h13 => ?_⟩
        have g10 := g9.call wd12 b3
        have l3 := Gd.lx_call g9 b3
        cases (show v12 = (V.int r3) from h13)
        exact kk _ _ _ _ hw g10.w_end g10.bu hS9 rfl
    · refine iteF ?_
      refine Lf.st_next ?_
      refine st_ret ?_
      refine x_call ?_
      refine x_cons ?_
      refine ⟨_, rfl, ?_⟩
      refine x_cons ?_
      refine EV.go (K := K) (d := (.im (D.int 4))) ev_int g2.wd fun v14 H15 wd14 s12 h15 => ?_
      have g11 := g2.same s12
      have hS10 := hS.same s12
      cases (show v14 = (V.int 4) from h15)
      refine x_nil ?_
      refine ⟨mxM M0 [], st, Y, n, 4, _, _, rfl, g11.wd, fun y hy => .inl (g11.ys y hy), hS10, ⟨_, _, rfl, rfl, rfl⟩, hw, fun r4 v15 n5 H16 hw wd15 b4 hS11 h16 => ?_⟩
      have g12 := g11.call wd15 b4
      have l4 := Gd.lx_call g11 b4
      cases (show v15 = (V.int r4) from h16)
      exact kk _ _ _ _ hw g12.w_end g12.bu hS11 rfl

end
end Toy

set_option Elab.async false
set_option linter.all false
set_option maxRecDepth 100000
set_option maxHeartbeats 4000000
set_option pp.maxSteps 1500
set_option pp.deepTerms false
namespace Toy
open PySem L2 Lf
section
variable {P : Program} {w : World} {K : PySem.W.Frag} {mg : Str → Option Value} {base : Heap} {a : Ad}

structure Hd where
  path : Str
  cols : List (Str × Bool)
  links : List (Str × Int × Int)
  kinds : List (List Int)
instance : Inhabited Hd := ⟨⟨"", [], [], []⟩⟩
def eHd (r : Hd) : D := .lst [.str r.path, eL (eH2 D.str D.bl) r.cols, eL (eH3 D.str D.int D.int) r.links, eL (eT D.int) r.kinds]
/-! paths differ -/
theorem WfR.uniq {rs : List Rc} (h : WfR rs) {i j : Nat} {a b : Rc} (hi : rs[i]? = some a) (hj : rs[j]? = some b) (e : a.path = b.path) : i = j := by
  have le := h.le
  have li := (List.getElem?_eq_some_iff.mp hi).1
  have lj := (List.getElem?_eq_some_iff.mp hj).1
  have nm0 : TL.tl (nameOf "") = [] := by decide +kernel
  have root : ∀ {i : Nat} {a : Rc}, rs[i]? = some a → a.path = "" → i = 0 := fun {i a} hi e => by
    rcases Nat.eq_zero_or_pos i with h0 | h0
    · exact h0
    · obtain ⟨c, t, _, ht⟩ := h.nm i a h0 hi
      rw [e, nm0] at ht
      cases ht
  obtain ⟨cs, h0⟩ := h.root
  rcases Nat.eq_zero_or_pos i with z | pi
  · subst z
    rw [h0] at hi
    cases hi
    exact (root hj e.symm).symm
  · rcases Nat.eq_zero_or_pos j with z | pj
    · subst z
      rw [h0] at hj
      cases hj
      exact root hi e
    · obtain ⟨c, t, hc, ht⟩ := h.nm i a pi hi
      obtain ⟨c', t', hc', ht'⟩ := h.nm j b pj hj
      rw [e, ht'] at ht
      cases ht
      have nd : klm.Nodup := by decide
      have := (List.getElem?_inj (List.getElem?_eq_some_iff.mp hc).1 nd).mp (hc.trans hc'.symm)
      omega
/-- what stands in the group of a head: paths of records at or behind it -/
theorem group_pos {rs : List Rc} (h : WfR rs) {hd : Str} {ih : Nat} {rh : Rc} (hh : rs[ih]? = some rh) (eh : rh.path = hd) : ∀ i ≤ rs.length, ∀ p ∈ (rs.take i).foldl (fun f r => if r.mark ∈ (["!", "?"] : List Str) ∧ above r.path ∈ f then f ++ [r.path] else f) [hd], ∃ ip rp, rs[ip]? = some rp ∧ rp.path = p ∧ ih ≤ ip := by
  intro i
  induction i with
  | zero => intro _ p hp; rw [List.take_zero] at hp; cases List.mem_singleton.mp hp; exact ⟨ih, rh, hh, eh, Nat.le_refl _⟩
  | succ i ih' =>
    intro hi p hp
    have hx : rs[i]? = some rs[i] := List.getElem?_eq_getElem (by omega)
    rw [take_fold _ _ rs hx] at hp
    by_cases c : rs[i].mark ∈ (["!", "?"] : List Str) ∧ above rs[i].path ∈ (rs.take i).foldl (fun f r => if r.mark ∈ (["!", "?"] : List Str) ∧ above r.path ∈ f then f ++ [r.path] else f) [hd]
    · rw [if_pos c] at hp
      rcases List.mem_append.mp hp with hp | hp
      · exact ih' (by omega) p hp
      · cases List.mem_singleton.mp hp
        obtain ⟨iu, ru, h1, h2, h3⟩ := ih' (by omega) _ c.2
        have i1 : 1 ≤ i := by
          rcases Nat.eq_zero_or_pos i with z | z
          · subst z
            obtain ⟨cs, h0⟩ := h.root
            rw [h0] at hx
            have e : rs[0] = ⟨"", "", cs⟩ := (Option.some.inj hx).symm
            rw [e] at c
            exact absurd c.1 (show ¬ (Str.ofString "") ∈ (["!", "?"] : List Str) by decide +kernel)
          · exact z
        obtain ⟨u, rcu, g1, g2, g3⟩ := h.up i _ i1 hx
        have := h.uniq h1 g2 (h2.trans g3)
        exact ⟨i, _, hx, rfl, by omega⟩
    · rw [if_neg c] at hp
      exact ih' (by omega) p hp
theorem group_up {rs : List Rc} {hd : Str} : ∀ i ≤ rs.length, ∀ (k : Nat) (p : Str), 1 ≤ k → ((rs.take i).foldl (fun f r => if r.mark ∈ (["!", "?"] : List Str) ∧ above r.path ∈ f then f ++ [r.path] else f) [hd])[k]? = some p →
    above p ∈ ((rs.take i).foldl (fun f r => if r.mark ∈ (["!", "?"] : List Str) ∧ above r.path ∈ f then f ++ [r.path] else f) [hd]).take k := by
  intro i
  induction i with
  | zero =>
    intro _ k p hk hp
    rw [List.take_zero] at hp
    have := (List.getElem?_eq_some_iff.mp hp).1
    simp at this
    omega
  | succ i ih =>
    intro hi k p hk hp
    have hx : rs[i]? = some rs[i] := List.getElem?_eq_getElem (by omega)
    rw [take_fold _ _ rs hx] at hp ⊢
    have ih := ih (by omega)
    generalize (rs.take i).foldl (fun f r => if r.mark ∈ (["!", "?"] : List Str) ∧ above r.path ∈ f then f ++ [r.path] else f) [hd] = f at ih hp ⊢
    by_cases c : rs[i].mark ∈ (["!", "?"] : List Str) ∧ above rs[i].path ∈ f
    · rw [if_pos c] at hp ⊢
      by_cases hk2 : k < f.length
      · rw [List.getElem?_append_left hk2] at hp
        rw [List.take_append_of_le_length (by omega)]
        exact ih k p hk hp
      · rw [List.getElem?_append_right (by omega)] at hp
        have hz := (List.getElem?_eq_some_iff.mp hp).1
        simp at hz
        have e : k = f.length := by omega
        subst e
        rw [Nat.sub_self] at hp
        cases hp
        rw [List.take_left]
        exact c.2
    · rw [if_neg c] at hp ⊢
      exact ih k p hk hp
theorem group_first {rs : List Rc} {hd : Str} : ∀ i, ((rs.take i).foldl (fun f r => if r.mark ∈ (["!", "?"] : List Str) ∧ above r.path ∈ f then f ++ [r.path] else f) [hd])[0]? = some hd ∧ ((rs.take i).foldl (fun f r => if r.mark ∈ (["!", "?"] : List Str) ∧ above r.path ∈ f then f ++ [r.path] else f) [hd]).length ≤ 1 + ((rs.take i).filter fun r => decide (r.mark ∈ (["!", "?"] : List Str))).length := by
  intro i
  induction i with
  | zero => exact ⟨rfl, by simp⟩
  | succ i ih =>
    cases hx : rs[i]? with
    | none =>
      have : rs.take (i + 1) = rs.take i := by rw [List.take_add_one, hx]; simp
      rw [this]
      exact ih
    | some r =>
      rw [take_fold _ _ rs hx]
      have ft : (rs.take (i + 1)).filter (fun r => decide (r.mark ∈ (["!", "?"] : List Str))) = (rs.take i).filter (fun r => decide (r.mark ∈ (["!", "?"] : List Str))) ++ [r].filter (fun r => decide (r.mark ∈ (["!", "?"] : List Str))) := by rw [List.take_add_one, hx, List.filter_append]; rfl
      rw [ft]
      generalize (rs.take i).foldl (fun f r => if r.mark ∈ (["!", "?"] : List Str) ∧ above r.path ∈ f then f ++ [r.path] else f) [hd] = f at ih ⊢
      obtain ⟨h1, h2⟩ := ih
      have f0 : 0 < f.length := (List.getElem?_eq_some_iff.mp h1).1
      split
      · rename_i c
        refine ⟨by rw [List.getElem?_append_left f0]; exact h1, ?_⟩
        rw [List.length_append, List.length_append, List.filter_cons_of_pos (by simpa using c.1)]
        simp only [List.length_cons, List.length_nil]
        omega
      · refine ⟨h1, ?_⟩
        rw [List.length_append]
        omega
theorem group_len {rs : List Rc} (h : WfR rs) (hd : Str) : (groupOf rs hd).length ≤ 6 := by
  have g := (group_first (rs := rs) (hd := hd) rs.length).2
  rw [List.take_length] at g
  have le := h.le
  obtain ⟨cs, h0⟩ := h.root
  cases rs with
  | nil => cases h0
  | cons r rs =>
    cases h0
    have z0 : ¬ (fun r : Rc => decide (r.mark ∈ (["!", "?"] : List Str))) ⟨"", "", cs⟩ = true := show ¬ decide ((Str.ofString "") ∈ (["!", "?"] : List Str)) = true by decide +kernel
    rw [List.filter_cons_of_neg (p := fun r : Rc => decide (r.mark ∈ (["!", "?"] : List Str))) (a := ⟨"", "", cs⟩) z0] at g
    have := List.length_filter_le (fun r : Rc => decide (r.mark ∈ (["!", "?"] : List Str))) rs
    simp only [List.length_cons] at le
    show (groupOf _ hd).length ≤ 6
    exact Nat.le_trans g (by omega)
def headPaths (rs : List Rc) : List Str := (rs.filter fun r => decide (r.mark ∈ (["", "*"] : List Str))).map (·.path)
theorem head_idx {rs : List Rc} (h : WfR rs) {a b : Nat} {ra rb : Rc} (ha : rs[a]? = some ra) (hb : rs[b]? = some rb) (ma : ra.mark ∈ (["", "*"] : List Str)) (mb : rb.mark ∈ (["", "*"] : List Str)) (hab : a < b) : (headPaths rs).idxOf ra.path < (headPaths rs).idxOf rb.path ∧ (headPaths rs).idxOf rb.path < (headPaths rs).length := by
  have lb := (List.getElem?_eq_some_iff.mp hb).1
  have sp : rs = rs.take b ++ rs.drop b := (List.take_append_drop b rs).symm
  have db : rs.drop b = rb :: rs.drop (b + 1) := by
    rw [List.drop_eq_getElem_cons lb]
    congr 1
    exact (List.getElem?_eq_some_iff.mp hb).2
  have hs : headPaths rs = headPaths (rs.take b) ++ rb.path :: headPaths (rs.drop (b + 1)) := by
    have : headPaths rs = headPaths (rs.take b) ++ headPaths (rs.drop b) := by
      unfold headPaths
      rw [← List.map_append, ← List.filter_append, List.take_append_drop]
    rw [this, db]
    unfold headPaths
    rw [List.filter_cons_of_pos (by simpa using mb)]
    rfl
  have am : ra.path ∈ headPaths (rs.take b) := by
    unfold headPaths
    refine List.mem_map.mpr ⟨ra, List.mem_filter.mpr ⟨?_, by simpa using ma⟩, rfl⟩
    refine List.mem_iff_getElem?.mpr ⟨a, ?_⟩
    rw [List.getElem?_take_of_lt hab]
    exact ha
  have bm : rb.path ∉ headPaths (rs.take b) := fun z => by
    unfold headPaths at z
    obtain ⟨r, hr, e⟩ := List.mem_map.mp z
    obtain ⟨j, hj⟩ := List.mem_iff_getElem?.mp (List.mem_filter.mp hr).1
    have jl := (List.getElem?_eq_some_iff.mp hj).1
    rw [List.length_take] at jl
    rw [List.getElem?_take_of_lt (by omega)] at hj
    have := h.uniq hj hb e
    omega
  rw [hs, List.idxOf_append, List.idxOf_append, if_pos am, if_neg bm, List.length_append, List.length_cons]
  have h1 := List.idxOf_lt_length_of_mem am
  have h2 : (rb.path :: headPaths (rs.drop (b + 1))).idxOf rb.path = 0 := by simp
  omega

end
end Toy

set_option Elab.async false
set_option linter.all false
set_option maxRecDepth 100000
set_option maxHeartbeats 4000000
set_option pp.maxSteps 1500
set_option pp.deepTerms false
namespace Toy
open PySem L2 Lf
section
variable {P : Program} {w : World} {K : PySem.W.Frag} {mg : Str → Option Value} {base : Heap} {a : Ad}

/-- columns, kinds, starts -/
structure Hs where
  cols : List (Str × Bool)
  kinds : List (List Int)
  starts : List (Str × Int)
def colsBy (h p : Str) (may : Bool) (cs : List (Str × Int)) : List (Str × Bool) := cs.map fun c => (if p ≠ h then seenOf h p ++ "_" ++ c.1 else c.1, may)
def lackOf (h p : Str) (st : List (Str × Int)) : Int := if p ≠ h then getA st (above p) else -1
def hrStep (rs : List Rc) (h : Str) (z : Hs) (p : Str) : Hs :=
  let st := putA z.starts p (z.cols.length : Int)
  let ks := moreKinds z.kinds (lackOf h p z.starts) (recOf rs p).cols ((!decide (p = h)) && decide ((recOf rs p).mark = "?"))
  ⟨z.cols ++ colsBy h p ((ks.map fun k => decide (ixD k (getA st p) < 0)).any id) (recOf rs p).cols, ks, st⟩
def hsAt (rs : List Rc) (h : Str) (i : Nat) : Hs := ((groupOf rs h).take i).foldl (hrStep rs h) ⟨[], [[]], []⟩
def linkOf (hs : List Str) (h : Str) (st : List (Str × Int)) (r : Rc) : List (Str × Int × Int) := if r.mark = "*" ∧ hasA st (above r.path) = true then [(seenOf h r.path, (hs.idxOf r.path : Int), getA st (above r.path))] else []
def headRow (rs : List Rc) (hs : List Str) (h : Str) : Hd :=
  let z := (groupOf rs h).foldl (hrStep rs h) ⟨[], [[]], []⟩
  ⟨h, z.cols, rs.flatMap (linkOf hs h z.starts), sortT z.kinds⟩
def pre_hrow (rs : List Rc) (hs : List Str) (h : Str) : Prop := WfR rs ∧ hs = headPaths rs ∧ ∃ r ∈ rs, r.path = h
theorem has_put {α : Type} {kvs : List (Str × α)} {k j : Str} {x : α} : hasA (putA kvs k x) j = (decide (j = k) || hasA kvs j) := by
  unfold putA
  split
  · rename_i h
    have e : hasA (kvs.map fun p => if p.1 = k then (p.1, x) else p) j = hasA kvs j := by
      unfold hasA
      rw [List.any_map]
      congr 1
      funext p
      show decide ((if p.1 = k then (p.1, x) else p).1 = j) = decide (p.1 = j)
      by_cases c : p.1 = k
      · rw [if_pos c]
      · rw [if_neg c]
    rw [e]
    by_cases c : j = k
    · subst c
      rw [h]
      simp
    · simp [c]
  · unfold hasA
    rw [List.any_append, List.any_cons, List.any_nil, Bool.or_false, Bool.or_comm]
    congr 1
    show decide (k = j) = decide (j = k)
    by_cases c : j = k
    · simp [c]
    · have : ¬ k = j := fun e => c e.symm
      simp [c, this]
theorem find_map {α : Type} {k j : Str} {x : α} : ∀ kvs : List (Str × α), ((kvs.map fun p => if p.1 = k then (p.1, x) else p).find? fun p => decide (p.1 = j)).map (·.2) = (kvs.find? fun p => decide (p.1 = j)).map fun p => if j = k then x else p.2
  | [] => rfl
  | p :: kvs => by
    have f1 : (if p.1 = k then (p.1, x) else p).1 = p.1 := by split <;> rfl
    rw [List.map_cons]
    by_cases c : p.1 = j
    · rw [List.find?_cons_of_pos (by rw [f1]; simpa using c), List.find?_cons_of_pos (by simpa using c)]
      show some (if p.1 = k then (p.1, x) else p).2 = some (if j = k then x else p.2)
      rw [c]
      split <;> rfl
    · rw [List.find?_cons_of_neg (by rw [f1]; simpa using c), List.find?_cons_of_neg (by simpa using c)]
      exact find_map kvs
theorem get_put {α : Type} [Inhabited α] {kvs : List (Str × α)} {k j : Str} {x : α} : getA (putA kvs k x) j = if j = k then x else getA kvs j := by
  unfold putA
  split
  · rename_i h
    unfold getA
    rw [find_map]
    by_cases c : j = k
    · subst c
      rw [if_pos rfl]
      obtain ⟨q, hq, z⟩ := List.any_eq_true.mp h
      cases e : kvs.find? fun p => decide (p.1 = j) with
      | none => exact absurd z (List.find?_eq_none.mp e q hq)
      | some p => simp
    · rw [if_neg c]
      simp only [if_neg c]
  · rename_i h
    unfold getA
    rw [List.find?_append]
    by_cases c : j = k
    · subst c
      have : kvs.find? (fun p => decide (p.1 = j)) = none := by
        rw [List.find?_eq_none]
        intro q hq z
        exact h (by unfold hasA; exact List.any_eq_true.mpr ⟨q, hq, z⟩)
      rw [this, if_pos rfl]
      simp
    · rw [if_neg c]
      have : [(k, x)].find? (fun p => decide (p.1 = j)) = none := by
        rw [List.find?_cons_of_neg (by simpa using fun e : k = j => c e.symm)]
        rfl
      rw [this, Option.or_none]
theorem put_len {α : Type} (kvs : List (Str × α)) (k : Str) (x : α) : (putA kvs k x).length ≤ kvs.length + 1 := by
  unfold putA
  split
  · rw [List.length_map]; omega
  · rw [List.length_append]; exact Nat.le_refl _
/-! what the steps keep -/
structure HsOk (g : List Str) (i : Nat) (z : Hs) : Prop where
  kl : ∀ k ∈ z.kinds, k.length = z.cols.length
  k0 : z.kinds ≠ []
  kn : z.kinds.length ≤ 5 ^ i
  st : ∀ p, hasA z.starts p = true ↔ p ∈ g.take i
  sv : ∀ p, hasA z.starts p = true → 0 ≤ getA z.starts p ∧ getA z.starts p < z.cols.length
  cl : z.cols.length ≤ 2 * i
  c0 : 1 ≤ i → 1 ≤ z.cols.length
  sn : z.starts.length ≤ i
theorem prod_len2 {cs : List (Str × Int)} (h : ColOk cs) : (prodV cs).length ≤ 4 ∧ prodV cs ≠ [] ∧ (∀ r ∈ prodV cs, r.length = cs.length) ∧ 1 ≤ cs.length ∧ cs.length ≤ 2 := by
  have PF := prod_facts cs (fun c hc => by have := h.2 c hc; omega) cs.length (Nat.le_refl _)
  rw [List.take_length] at PF
  obtain ⟨h1, h2⟩ := h
  have ne : ∀ (rows : List (List Int)) (t : Int), 1 ≤ t → rows ≠ [] → rowsBy rows t ≠ [] := fun rows t ht hr z => by
    cases rows with
    | nil => exact hr rfl
    | cons r rows =>
      unfold rowsBy at z
      rw [List.flatMap_cons] at z
      have z1 := (List.append_eq_nil_iff.mp z).1
      rw [List.map_eq_nil_iff] at z1
      have := rngI_len 0 (t + 1)
      rw [z1] at this
      simp at this
      omega
  rcases h1 with h1 | ⟨h1, h3⟩
  · match cs, h1 with
    | [c], _ =>
      have hc := h2 c (List.mem_cons_self ..)
      refine ⟨PF.1, ne [[]] c.2 hc.1 (by simp), PF.2, by simp, by simp⟩
  · match cs, h1 with
    | [c, d], _ =>
      have hc := h2 c (List.mem_cons_self ..)
      have hd := h2 d (List.mem_cons_of_mem _ (List.mem_cons_self ..))
      have ec : c.2 = 1 := h3 c (List.mem_cons_self ..)
      have ed : d.2 = 1 := h3 d (List.mem_cons_of_mem _ (List.mem_cons_self ..))
      have e : prodV [c, d] = rowsBy (rowsBy [[]] c.2) d.2 := rfl
      refine ⟨?_, ?_, PF.2, by simp, by simp⟩
      · rw [e, ec, ed]
        decide
      · rw [e]
        exact ne _ _ hd.1 (ne _ _ hc.1 (by simp))
theorem HsOk.start (g : List Str) : HsOk g 0 ⟨[], [[]], []⟩ where
  kl := fun k hk => by rw [List.mem_singleton.mp hk]; rfl
  k0 := by simp
  kn := Nat.le_refl _
  st := fun p => by simp [hasA]
  sv := fun p h => by cases h
  cl := Nat.le_refl _
  c0 := fun h => absurd h (by decide)
  sn := Nat.le_refl _
theorem HsOk.step {rs : List Rc} {h : Str} {g : List Str} {i : Nat} {z : Hs} {p : Str} (W : WfR rs) (hz : HsOk g i z) (hp : g[i]? = some p) : HsOk g (i + 1) (hrStep rs h z p) := by
  have rne : rs ≠ [] := fun e => by obtain ⟨cs, h0⟩ := W.root; rw [e] at h0; cases h0
  obtain ⟨p4, pne, pl, c1, c2⟩ := prod_len2 (W.co _ (recOf_mem (p := p) rne))
  have tk : g.take (i + 1) = g.take i ++ [p] := by rw [List.take_add_one, hp]; rfl
  have rl : (repL [(-1 : Int)] ((recOf rs p).cols.length : Int)).length = (recOf rs p).cols.length := by
    unfold repL
    rw [flat1, List.length_replicate]
    rfl
  have ml : ∀ lack may k, (moreOf lack (recOf rs p).cols may k).length ≤ 5 ∧ moreOf lack (recOf rs p).cols may k ≠ [] := fun lack may k => by
    unfold moreOf
    rw [List.length_append]
    cases hg : goneK lack k with
    | true => simp
    | false =>
      have a1 : (if (false || may) = true then [k ++ repL [-1] ((recOf rs p).cols.length : Int)] else []).length ≤ 1 := by split <;> simp
      have a2 : (if (!false) = true then (prodV (recOf rs p).cols).map fun r => k ++ r else []).length ≤ 4 := by simpa using p4
      refine ⟨by omega, fun e => ?_⟩
      have e2 := (List.append_eq_nil_iff.mp e).2
      rw [if_pos (show (!false) = true from rfl), List.map_eq_nil_iff] at e2
      exact pne e2
  have mk : ∀ lack may k, ∀ x ∈ moreOf lack (recOf rs p).cols may k, x.length = k.length + (recOf rs p).cols.length := fun lack may k x hx => by
    unfold moreOf at hx
    rcases List.mem_append.mp hx with hx | hx
    · split at hx
      · rw [List.mem_singleton.mp hx, List.length_append, rl]
      · cases hx
    · split at hx
      · obtain ⟨r, hr, rfl⟩ := List.mem_map.mp hx
        rw [List.length_append, pl r hr]
      · cases hx
  have cb : ∀ may, (colsBy h p may (recOf rs p).cols).length = (recOf rs p).cols.length := fun may => by unfold colsBy; rw [List.length_map]
  refine ⟨fun k hk => ?_, fun e => ?_, ?_, fun q => ?_, fun q hq => ?_, ?_, fun _ => ?_, Nat.le_trans (put_len ..) (by have := hz.sn; omega)⟩
  · have hk : k ∈ moreKinds z.kinds (lackOf h p z.starts) (recOf rs p).cols ((!decide (p = h)) && decide ((recOf rs p).mark = "?")) := hk
    obtain ⟨k', hk', hx⟩ := List.mem_flatMap.mp hk
    rw [mk _ _ _ k hx, hz.kl k' hk']
    show _ = (z.cols ++ colsBy h p _ (recOf rs p).cols).length
    rw [List.length_append, cb]
  · have e : moreKinds z.kinds (lackOf h p z.starts) (recOf rs p).cols ((!decide (p = h)) && decide ((recOf rs p).mark = "?")) = [] := e
    unfold moreKinds at e
    rw [List.flatMap_eq_nil_iff] at e
    cases hk : z.kinds with
    | nil => exact hz.k0 hk
    | cons k ks => exact (ml _ _ k).2 (e k (by rw [hk]; exact List.mem_cons_self ..))
  · show (moreKinds z.kinds _ _ _).length ≤ _
    have := flat_len (moreOf (lackOf h p z.starts) (recOf rs p).cols ((!decide (p = h)) && decide ((recOf rs p).mark = "?"))) 5 z.kinds fun k _ => (ml _ _ k).1
    have h2 := hz.kn
    unfold moreKinds
    rw [Nat.pow_succ]
    exact Nat.le_trans this (Nat.mul_le_mul_right 5 h2)
  · show hasA (putA z.starts p _) q = true ↔ _
    rw [has_put, tk, List.mem_append, List.mem_singleton, Bool.or_eq_true, decide_eq_true_eq, hz.st q, or_comm]
  · show 0 ≤ getA (putA z.starts p (z.cols.length : Int)) q ∧ getA (putA z.starts p (z.cols.length : Int)) q < ((z.cols ++ colsBy h p _ (recOf rs p).cols).length : Int)
    have hq : hasA (putA z.starts p (z.cols.length : Int)) q = true := hq
    rw [get_put, List.length_append, cb]
    rw [has_put] at hq
    by_cases c : q = p
    · rw [if_pos c]
      omega
    · rw [if_neg c]
      have := hz.sv q (by simpa [c] using hq)
      omega
  · show (z.cols ++ colsBy h p _ (recOf rs p).cols).length ≤ _
    rw [List.length_append, cb]
    have := hz.cl
    omega
  · show 1 ≤ (z.cols ++ colsBy h p _ (recOf rs p).cols).length
    rw [List.length_append, cb]
    omega
theorem HsOk.at {rs : List Rc} (W : WfR rs) (h : Str) : ∀ i ≤ (groupOf rs h).length, HsOk (groupOf rs h) i (hsAt rs h i) := by
  intro i
  induction i with
  | zero => intro _; exact HsOk.start _
  | succ i ih =>
    intro hi
    have hx : (groupOf rs h)[i]? = some (groupOf rs h)[i] := List.getElem?_eq_getElem (by omega)
    have := (ih (by omega)).step (h := h) W hx
    unfold hsAt
    rw [take_fold _ _ _ hx]
    exact this
def W_l_head_row_k4 (records_here : (List Rc)) (heads_here : (List Str)) (head_here : Str) (columns2 : (List (Str × Bool))) (kinds3 : (List (List Int))) (starts2 : (List (Str × Int))) (path : Str) (may : Bool) (name2 : Str) (P : Hd → Prop) (nx : (List (Str × Bool)) → (List (List Int)) → (List (Str × Int)) → Prop) (nx2 : (List (Str × Bool)) → Prop) : Prop :=
  ∀ d : (Str × Bool), d = (name2, may) → (columns2.length < sizeLine) ∧ ∀ columns3 : (List (Str × Bool)), columns3 = (columns2 ++ [d]) → nx2 columns3
def W_l_head_row_b3 (records_here : (List Rc)) (heads_here : (List Str)) (head_here : Str) (columns2 : (List (Str × Bool))) (kinds3 : (List (List Int))) (starts2 : (List (Str × Int))) (path : Str) (may : Bool) (column : (Str × Int)) (P : Hd → Prop) (nx : (List (Str × Bool)) → (List (List Int)) → (List (Str × Int)) → Prop) (nx2 : (List (Str × Bool)) → Prop) : Prop :=
  ∀ name : Str, name = column.1 → (if (!decide (path = head_here)) = true then ((pre_seen head_here path) ∧ (((seenOf head_here path) : Str).length + ("_" : Str).length ≤ sizeLine) ∧ ((((seenOf head_here path) ++ "_") : Str).length + (name : Str).length ≤ sizeLine) ∧ ∀ name3 : Str, name3 = (((seenOf head_here path) ++ "_") ++ name) → W_l_head_row_k4 records_here heads_here head_here columns2 kinds3 starts2 path may name3 P nx nx2) else (W_l_head_row_k4 records_here heads_here head_here columns2 kinds3 starts2 path may name P nx nx2))
def W_l_head_row_k3 (records_here : (List Rc)) (heads_here : (List Str)) (head_here : Str) (columns2 : (List (Str × Bool))) (kinds3 : (List (List Int))) (starts2 : (List (Str × Int))) (P : Hd → Prop) (nx : (List (Str × Bool)) → (List (List Int)) → (List (Str × Int)) → Prop) : Prop :=
  nx columns2 kinds3 starts2
def W_l_head_row_k2 (records_here : (List Rc)) (heads_here : (List Str)) (head_here : Str) (columns : (List (Str × Bool))) (kinds2 : (List (List Int))) (starts : (List (Str × Int))) (path : Str) (record_here : Rc) (lack2 : Int) (P : Hd → Prop) (nx : (List (Str × Bool)) → (List (List Int)) → (List (Str × Int)) → Prop) : Prop :=
  (starts.length < sizeLine) ∧ ∀ starts2 : (List (Str × Int)), starts2 = (putA starts path (columns.length : Int)) → (pre_more kinds2 lack2 record_here.cols ((!decide (path = head_here)) && (decide (record_here.mark = "?")))) ∧ ∀ kinds3 : (List (List Int)), kinds3 = (moreKinds kinds2 lack2 record_here.cols ((!decide (path = head_here)) && (decide (record_here.mark = "?")))) → (kinds3.length ≤ sizeLine) ∧ (∀ kind ∈ kinds3, hasA starts2 path = true) ∧ (∀ kind ∈ kinds3, InB kind (getA starts2 path)) ∧ ∀ may : Bool, may = ((kinds3.map fun (kind : (List Int)) => (decide ((ixD kind (getA starts2 path)) < 0))).any id) → ∃ Inv2 : Nat → (List (Str × Bool)) → Prop, Inv2 0 columns ∧ (∀ (i : Nat) (column : (Str × Int)) (columns2 : (List (Str × Bool))), record_here.cols[i]? = some column → Inv2 i columns2 → W_l_head_row_b3 records_here heads_here head_here columns2 kinds3 starts2 path may column P nx (Inv2 (i + 1))) ∧ (∀ (columns2 : (List (Str × Bool))), Inv2 record_here.cols.length columns2 → W_l_head_row_k3 records_here heads_here head_here columns2 kinds3 starts2 P nx)
def W_l_head_row_b1 (records_here : (List Rc)) (heads_here : (List Str)) (head_here : Str) (columns : (List (Str × Bool))) (kinds2 : (List (List Int))) (starts : (List (Str × Int))) (path : Str) (P : Hd → Prop) (nx : (List (Str × Bool)) → (List (List Int)) → (List (Str × Int)) → Prop) : Prop :=
  (pre_rec records_here path) ∧ ∀ record_here : Rc, record_here = (recOf records_here path) → ∀ lack : Int, lack = (-1 : Int) → (if (!decide (path = head_here)) = true then (((path : Str).length ≤ sizeLine) ∧ (hasA starts ((Txt.rpartition path "_").1) = true) ∧ ∀ lack3 : Int, lack3 = (getA starts ((Txt.rpartition path "_").1)) → W_l_head_row_k2 records_here heads_here head_here columns kinds2 starts path record_here lack3 P nx) else (W_l_head_row_k2 records_here heads_here head_here columns kinds2 starts path record_here lack P nx))
def W_l_head_row_k6 (heads_here : (List Str)) (head_here : Str) (columns : (List (Str × Bool))) (kinds2 : (List (List Int))) (starts : (List (Str × Int))) (links2 : (List (Str × Int × Int))) (P : Hd → Prop) (nx3 : (List (Str × Int × Int)) → Prop) : Prop :=
  nx3 links2
def W_l_head_row_b5 (heads_here : (List Str)) (head_here : Str) (columns : (List (Str × Bool))) (kinds2 : (List (List Int))) (starts : (List (Str × Int))) (links : (List (Str × Int × Int))) (record_here2 : Rc) (P : Hd → Prop) (nx3 : (List (Str × Int × Int)) → Prop) : Prop :=
  ((record_here2.path : Str).length ≤ sizeLine) ∧ ∀ upper : Str, upper = (Txt.rpartition record_here2.path "_").1 → (if ((decide (record_here2.mark = "*")) && (hasA starts upper)) = true then ((pre_seen head_here record_here2.path) ∧ (record_here2.path ∈ heads_here) ∧ (hasA starts upper = true) ∧ ∀ d2 : (Str × Int × Int), d2 = ((seenOf head_here record_here2.path), (heads_here.idxOf record_here2.path : Int), (getA starts upper)) → (links.length < sizeLine) ∧ ∀ links3 : (List (Str × Int × Int)), links3 = (links ++ [d2]) → W_l_head_row_k6 heads_here head_here columns kinds2 starts links3 P nx3) else (W_l_head_row_k6 heads_here head_here columns kinds2 starts links P nx3))
def W_l_head_row_k5 (head_here : Str) (columns : (List (Str × Bool))) (kinds2 : (List (List Int))) (links : (List (Str × Int × Int))) (P : Hd → Prop) : Prop :=
  (kinds2.length ≤ sizeLine) ∧ (∀ z ∈ (kinds2.map fun (kind2 : (List Int)) => kind2), z ≠ []) ∧ P (Hd.mk head_here columns links (sortT (kinds2.map fun (kind2 : (List Int)) => kind2)))
def W_l_head_row_k1 (records_here : (List Rc)) (heads_here : (List Str)) (head_here : Str) (columns : (List (Str × Bool))) (kinds2 : (List (List Int))) (starts : (List (Str × Int))) (P : Hd → Prop) : Prop :=
  ∃ Inv3 : Nat → (List (Str × Int × Int)) → Prop, Inv3 0 ([] : (List (Str × Int × Int))) ∧ (∀ (i : Nat) (record_here2 : Rc) (links : (List (Str × Int × Int))), records_here[i]? = some record_here2 → Inv3 i links → W_l_head_row_b5 heads_here head_here columns kinds2 starts links record_here2 P (Inv3 (i + 1))) ∧ (∀ (links : (List (Str × Int × Int))), Inv3 records_here.length links → W_l_head_row_k5 head_here columns kinds2 links P)
def W_l_head_row (records_here : (List Rc)) (heads_here : (List Str)) (head_here : Str) (P : Hd → Prop) : Prop :=
  ∀ kinds : (List (List Int)), kinds = ([([] : (List Int))] : (List (List Int))) → (pre_group records_here head_here) ∧ ∃ Inv : Nat → (List (Str × Bool)) → (List (List Int)) → (List (Str × Int)) → Prop, Inv 0 ([] : (List (Str × Bool))) kinds ([] : (List (Str × Int))) ∧ (∀ (i : Nat) (path : Str) (columns : (List (Str × Bool))) (kinds2 : (List (List Int))) (starts : (List (Str × Int))), (groupOf records_here head_here)[i]? = some path → Inv i columns kinds2 starts → W_l_head_row_b1 records_here heads_here head_here columns kinds2 starts path P (Inv (i + 1))) ∧ (∀ (columns : (List (Str × Bool))) (kinds2 : (List (List Int))) (starts : (List (Str × Int))), Inv (groupOf records_here head_here).length columns kinds2 starts → W_l_head_row_k1 records_here heads_here head_here columns kinds2 starts P)
theorem cutS_len (z : Str) (lo hi : Option Int) : (cutS z lo hi).length ≤ z.length := by
  unfold cutS
  rw [TL.len_tl]
  show ((z.cps.toList.drop _).take _).toArray.toList.length ≤ _
  rw [List.toList_toArray, List.length_take, List.length_drop]
  have : z.cps.toList.length = z.length := (TL.len_tl z).symm
  omega
theorem seen_len (h p : Str) : (seenOf h p).length ≤ p.length := by
  unfold seenOf
  split
  · exact Nat.le_refl _
  · exact cutS_len _ _ _
theorem dW_l_head_row {rs : List Rc} {hs : List Str} {h : Str} (hp : pre_hrow rs hs h) (P : Hd → Prop) (hP : P (headRow rs hs h)) : W_l_head_row rs hs h P := by
  obtain ⟨W, rfl, rh, hrh, eh⟩ := hp
  have rne : rs ≠ [] := fun e => by rw [e] at hrh; cases hrh
  obtain ⟨ih, hih⟩ := List.mem_iff_getElem?.mp hrh
  have le := W.le
  have lu := len1.2.2.2
  have GP := group_pos W hih eh rs.length (Nat.le_refl _)
  rw [List.take_length] at GP
  have GP : ∀ p ∈ groupOf rs h, ∃ ip rp, rs[ip]? = some rp ∧ rp.path = p ∧ ih ≤ ip := GP
  have GU := group_up (rs := rs) (hd := h) rs.length (Nat.le_refl _)
  rw [List.take_length] at GU
  have GU : ∀ (k : Nat) (p : Str), 1 ≤ k → (groupOf rs h)[k]? = some p → above p ∈ (groupOf rs h).take k := GU
  have GF := (group_first (rs := rs) (hd := h) rs.length).1
  rw [List.take_length] at GF
  have GF : (groupOf rs h)[0]? = some h := GF
  have GL := group_len W h
  have sm : ∀ p ∈ groupOf rs h, p.length ≤ 30 := fun p hp => by
    obtain ⟨ip, rp, h1, h2, _⟩ := GP p hp
    rw [← h2]
    exact W.small (List.mem_of_getElem? h1)
  have hl : h.length ≤ 30 := by rw [← eh]; exact W.small hrh
  have AT := HsOk.at W h
  have p5 : ∀ i ≤ 6, 5 ^ i ≤ 15625 := fun i hi => Nat.pow_le_pow_right (by decide) hi
  rintro _ rfl
  refine ⟨⟨by omega, fun r hr => sz_of (by have := W.small hr; omega)⟩, fun i c k s => (⟨c, k, s⟩ : Hs) = hsAt rs h i, rfl, ?_, ?_⟩
  · rintro i p c k s hi e
    have hi' := (List.getElem?_eq_some_iff.mp hi).1
    have ok := AT i (by omega)
    have ok' := AT (i + 1) (by omega)
    have stp : hsAt rs h (i + 1) = hrStep rs h (hsAt rs h i) p := take_fold _ _ _ hi
    rw [stp, ← e] at ok'
    rw [← e] at ok stp
    have pm : p ∈ groupOf rs h := List.mem_of_getElem? hi
    have pl := sm p pm
    have rm := recOf_mem (p := p) rne
    have co := W.co _ rm
    obtain ⟨p4, pne, prl, c1, c2⟩ := prod_len2 co
    -- the place of what is above
    have up : p ≠ h → hasA s (above p) = true := fun hne => by
      have i1 : 1 ≤ i := by
        rcases Nat.eq_zero_or_pos i with z | z
        · subst z; rw [GF] at hi; cases hi; exact absurd rfl hne
        · exact z
      exact (ok.st (above p)).mpr (GU i p i1 hi)
    have K2 : W_l_head_row_k2 rs (headPaths rs) h c k s p (recOf rs p) (lackOf h p s) P (fun c k s => (⟨c, k, s⟩ : Hs) = hsAt rs h (i + 1)) := by
      have sl : s.length < sizeLine := sz_lt (by have : s.length ≤ i := ok.sn; omega)
      refine ⟨sl, ?_⟩
      rintro _ rfl
      refine ⟨⟨Nat.le_trans ok.kn (Nat.le_trans (p5 i (by omega)) (by decide)), c2, fun x hx => by have := co.2 x hx; omega, fun x hx => ?_⟩, ?_⟩
      · have xl : x.length = c.length := ok.kl x hx
        have xc : c.length ≤ 2 * i := ok.cl
        refine ⟨by omega, fun l0 => ?_⟩
        unfold lackOf at l0 ⊢
        by_cases e : p ≠ h
        · rw [if_pos e] at l0 ⊢
          have := ok.sv _ (up e)
          exact ⟨by omega, by rw [xl]; exact this.2⟩
        · rw [if_neg e] at l0
          exact absurd l0 (by decide)
      · rintro ks eks
        have kok : ∀ x ∈ ks, x.length = (hrStep rs h ⟨c, k, s⟩ p).cols.length := by rw [eks]; exact ok'.kl
        have kn : ks.length ≤ 5 ^ (i + 1) := by rw [eks]; exact ok'.kn
        have hst : hasA (putA s p (c.length : Int)) p = true := by rw [has_put]; simp
        have gst : getA (putA s p (c.length : Int)) p = c.length := by rw [get_put, if_pos rfl]
        have cl' : (hrStep rs h ⟨c, k, s⟩ p).cols.length = c.length + (recOf rs p).cols.length := by
          show (c ++ colsBy h p _ (recOf rs p).cols).length = _
          rw [List.length_append]
          unfold colsBy
          rw [List.length_map]
        refine ⟨sz_of' (by have := p5 (i + 1) (by omega); omega), fun _ _ => hst, fun x hx => ?_, ?_⟩
        · rw [gst]
          have := kok x hx
          rw [cl'] at this
          exact ⟨by omega, by omega⟩
        · rintro may emay
          refine ⟨fun j cs => cs = c ++ colsBy h p may ((recOf rs p).cols.take j), by simp [colsBy], ?_, ?_⟩
          · rintro j col cs hj rfl
            have jl := (List.getElem?_eq_some_iff.mp hj).1
            have tk : (recOf rs p).cols.take (j + 1) = (recOf rs p).cols.take j ++ [col] := by rw [List.take_add_one, hj]; rfl
            have cc : c.length ≤ 2 * i := ok.cl
            have cl2 : (c ++ colsBy h p may ((recOf rs p).cols.take j)).length ≤ 100 := by
              rw [List.length_append]
              unfold colsBy
              rw [List.length_map, List.length_take]
              omega
            have coln := (co.2 col (List.mem_of_getElem? hj)).2.2
            have fin : ∀ nm : Str, nm = (if p ≠ h then seenOf h p ++ "_" ++ col.1 else col.1) → W_l_head_row_k4 rs (headPaths rs) h (c ++ colsBy h p may ((recOf rs p).cols.take j)) ks (putA s p (c.length : Int)) p may nm P (fun c k s => (⟨c, k, s⟩ : Hs) = hsAt rs h (i + 1)) (fun cs => cs = c ++ colsBy h p may ((recOf rs p).cols.take (j + 1))) := by
              rintro nm rfl
              rintro _ rfl
              refine ⟨sz_lt (by omega), ?_⟩
              rintro _ rfl
              show _ = _
              rw [tk]
              unfold colsBy
              rw [List.map_append, List.append_assoc]
              rfl
            rintro _ rfl
            by_cases e : p = h
            · rw [if_neg (by rw [decide_eq_true e]; exact fun z => nomatch z)]
              exact fin _ (by rw [if_neg (fun z => z e)])
            · rw [if_pos (by rw [decide_eq_false e]; rfl)]
              have sn := seen_len h p
              have e2 : (seenOf h p ++ "_").length = (seenOf h p).length + 1 := by rw [TL.len_tl, TL.tl_append, List.length_append, ← TL.len_tl, ← TL.len_tl, lu]
              refine ⟨⟨sz_of (by omega), sz_of (by omega)⟩, sz_of (by rw [lu]; omega), sz_of (by rw [e2]; omega), ?_⟩
              rintro _ rfl
              exact fin _ (by rw [if_pos e])
          · rintro cs rfl
            show _ = _
            rw [stp, List.take_length]
            have e1 : (hrStep rs h ⟨c, k, s⟩ p) = ⟨c ++ colsBy h p may (recOf rs p).cols, ks, putA s p (c.length : Int)⟩ := by
              rw [emay, eks]
              rfl
            rw [e1]
    refine ⟨rne, ?_⟩
    rintro _ rfl
    rintro _ rfl
    unfold lackOf at K2
    by_cases e : p = h
    · rw [if_neg (by rw [decide_eq_true e]; exact fun z => nomatch z)]
      rw [if_neg (fun z => z e)] at K2
      exact K2
    · rw [if_pos (by rw [decide_eq_false e]; rfl)]
      rw [if_pos e] at K2
      refine ⟨sz_of (by omega), up e, ?_⟩
      rintro _ rfl
      exact K2
  · rintro c k s e
    have ok := AT (groupOf rs h).length (Nat.le_refl _)
    rw [← e] at ok
    have ez : (groupOf rs h).foldl (hrStep rs h) ⟨[], [[]], []⟩ = ⟨c, k, s⟩ := by
      rw [e]
      unfold hsAt
      rw [List.take_length]
    have g1 : 1 ≤ (groupOf rs h).length := (List.getElem?_eq_some_iff.mp GF).1
    refine ⟨fun i l => l = (rs.take i).flatMap (linkOf (headPaths rs) h s), by simp, ?_, ?_⟩
    · rintro i r l hi rfl
      have hi' := (List.getElem?_eq_some_iff.mp hi).1
      have tf := take_flat (linkOf (headPaths rs) h s) rs hi
      have ll : ((rs.take i).flatMap (linkOf (headPaths rs) h s)).length ≤ i * 1 := by
        have := flat_len (linkOf (headPaths rs) h s) 1 (rs.take i) fun r _ => by unfold linkOf; split <;> simp
        rw [List.length_take] at this
        exact Nat.le_trans this (Nat.mul_le_mul_right 1 (Nat.min_le_left ..))
      have rl := W.small (List.mem_of_getElem? hi)
      refine ⟨sz_of (by omega), ?_⟩
      rintro _ rfl
      unfold W_l_head_row_k6
      by_cases cnd : r.mark = "*" ∧ hasA s (above r.path) = true
      · rw [if_pos (by rw [decide_eq_true cnd.1, show hasA s (Txt.rpartition r.path "_").1 = true from cnd.2]; rfl)]
        refine ⟨⟨sz_of (by omega), sz_of (by omega)⟩, List.mem_map.mpr ⟨r, List.mem_filter.mpr ⟨List.mem_of_getElem? hi, by rw [cnd.1]; decide +kernel⟩, rfl⟩, cnd.2, ?_⟩
        rintro _ rfl
        refine ⟨sz_lt (by omega), ?_⟩
        rintro _ rfl
        show _ = _
        rw [tf]
        congr 1
        unfold linkOf
        rw [if_pos cnd]
        rfl
      · rw [if_neg (fun z => cnd (by
          rw [Bool.and_eq_true] at z
          exact ⟨of_decide_eq_true z.1, z.2⟩))]
        show _ = _
        rw [tf]
        have : linkOf (headPaths rs) h s r = [] := by unfold linkOf; rw [if_neg cnd]
        rw [this, List.append_nil]
    · rintro l rfl
      rw [List.take_length]
      have kn : k.length ≤ 5 ^ (groupOf rs h).length := ok.kn
      refine ⟨sz_of' (by have := p5 _ GL; omega), fun x hx => ?_, ?_⟩
      · rw [List.map_id'] at hx
        have xl : x.length = c.length := ok.kl x hx
        have c0 : 1 ≤ c.length := ok.c0 g1
        intro z
        rw [z] at xl
        simp at xl
        omega
      · rw [List.map_id']
        unfold headRow at hP
        rw [ez] at hP
        exact hP
def sp_l_head_row (K : PySem.W.Frag) : Sp := spF K (fun (x : (List Rc) × (List Str) × Str) => [(eL eRc) x.1, (eL D.str) x.2.1, D.str x.2.2]) eHd (fun (x : (List Rc) × (List Str) × Str) => pre_hrow x.1 x.2.1 x.2.2) (fun (x : (List Rc) × (List Str) × Str) => headRow x.1 x.2.1 x.2.2)
theorem cd_l_head_row {E : XK} (records_here : (List Rc)) (heads_here : (List Str)) (head_here : Str) (hp : pre_hrow records_here heads_here head_here) : CaD K (fun vs H Q => sp_l_head_row K vs H Q E) [.im ((eL eRc) records_here), .im ((eL D.str) heads_here), .im (D.str head_here)] (.im (eHd (headRow records_here heads_here head_here))) := cd_fn (ens := (fun (x : (List Rc) × (List Str) × Str) => [(eL eRc) x.1, (eL D.str) x.2.1, D.str x.2.2])) (er := eHd) (records_here, heads_here, head_here) hp
theorem sc_l_head_row : FnScope ["_law_records_here", "_law_heads_here", "_law_head_here", "_law_columns", "_law_kinds", "_law_starts", "_law_links", "_law_path", "_law_record_here", "_law_lack", "_law_may", "_law_kind", "_law_column", "_law_name", "_law_upper"] ["_law_records_here", "_law_heads_here", "_law_head_here"] (defScope s_l_head_row) := ⟨rfl, rfl, rfl, by decide +kernel, rfl, by decide +kernel, by decide +kernel⟩
theorem ok_l_head_row (T : Txt K mg a) : FnOk P w K mg base CX0 2 a.f_l_head_row a.d_l_head_row ["_law_records_here", "_law_heads_here", "_law_head_here"] (sp_l_head_row K) := by
  refine T.F_l_head_row.ok sc_l_head_row (fun vs H Q E h => ?_) (fun cdv A outer s H vs Q E hr h => ?_)
  · obtain ⟨M0, x, w0, hx, _⟩ := h
    exact hx.len
  · obtain ⟨M0, x, w0, hx, hp, kq⟩ := h
    obtain ⟨records_here, heads_here, head_here⟩ := x
    have hx : rDs K (Fx M0 H) [(eL eRc) records_here, (eL D.str) heads_here, D.str head_here] vs := hx
    obtain ⟨v3, _, rfl, h4, v2, _, rfl, h3, v, _, rfl, h2, rfl⟩ := hx
    obtain ⟨Y, eY⟩ : ∃ Y : List Addr, Y = [] := ⟨_, rfl⟩
    have g : Gd M0 [] Y H H := Gd.start w0 (by rw [eY]; exact fun y h => nomatch h)
    have h4 : rV K (mxM M0 []) H (.im ((eL eRc) records_here)) v3 := rV.lx Gd.lx0 (show rV K M0 H (.im ((eL eRc) records_here)) v3 from h4)
    have h3 : rV K (mxM M0 []) H (.im ((eL D.str) heads_here)) v2 := rV.lx Gd.lx0 (show rV K M0 H (.im ((eL D.str) heads_here)) v2 from h3)
    cases (show v = (V.str head_here) from h2)
    obtain ⟨P, eP⟩ : ∃ P : Hd → Prop, P = fun r => r = headRow records_here heads_here head_here := ⟨_, rfl⟩
    have kk : ∀ r v H2, P r → Wd M0 H2 → Same H H2 → rD K (Fx M0 H2) (eHd r) v → Q v H2 := fun r v H2 e => by rw [eP] at e; rw [show r = headRow records_here heads_here head_here from e]; exact kq v H2
    have hw : W_l_head_row records_here heads_here head_here P := dW_l_head_row hp P (by rw [eP])
    unfold W_l_head_row at hw
    have hu := hu_of hr
    refine ⟨_, (pss_cons (ps_asg (pe_tupS (pa_cons (pe_lstS pa_nil) (pa_cons (pe_lstS (pa_cons (pe_lstS pa_nil) pa_nil)) (pa_cons pe_dnewK (pa_cons (pe_lstS pa_nil) pa_nil))))) (pg_tup rfl (pgs_cons (pg_name (i := 3) sc_l_head_row.nd rfl (.inl rfl)) (pgs_cons (pg_name (i := 4) sc_l_head_row.nd rfl (.inl rfl)) (pgs_cons (pg_name (i := 5) sc_l_head_row.nd rfl (.inr rfl)) (pgs_cons (pg_name (i := 6) sc_l_head_row.nd rfl (.inl rfl)) pgs_nil))))))
      (pss_cons (ps_for PassesOwn.never rfl (pi_list (pe_call (ok_l_group T) (hr.mono (by decide)) rfl T.m_l_group T.k_l_group T.a_l_group .nil pass0 (pa_cons (pv 0) (pa_cons (pv 2) pa_nil)))) (pg_name (i := 7) sc_l_head_row.nd rfl (.inr rfl))
      (pss_cons (ps_set (i := 8) sc_l_head_row.nd rfl (.inl rfl) (pe_call (ok_l_record T) (hr.mono (by decide)) rfl T.m_l_record T.k_l_record T.a_l_record .nil pass0 (pa_cons (pv 0) (pa_cons (pv 7) pa_nil))))
      (pss_cons (ps_set (i := 9) sc_l_head_row.nd rfl (.inl rfl) (pe_un un_neg pe_int))
      (pss_cons (ps_if (pt_cmpR op_ne (pv 7) (pv 2) (nomark _)) (pss_cons (ps_set (i := 9) sc_l_head_row.nd rfl (.inl rfl) (pe_dget hu (pv 5) (pe_ix ix_tup (pe_rpart (pv 7) pe_str) pe_int (fun _ _ => rfl)) (fun _ _ => rfl)))
      pss_nil) pss_nil)
      (pss_cons (ps_dput hu (pv 5) (pv 7) (pe_callB call_len_seq (by rfl) T.b_len PySem.boot_len (pa_cons (pv 3) pa_nil)) rfl)
      (pss_cons (ps_set (i := 4) sc_l_head_row.nd rfl (.inl rfl) (pe_call (ok_l_more_kinds T) (hr.mono (by decide)) rfl T.m_l_more_kinds T.k_l_more_kinds T.a_l_more_kinds .nil pass0 (pa_cons (pv 4) (pa_cons (pv 9) (pa_cons (pe_ix ix_list (pv 8) pe_int (fun _ _ => rfl)) (pa_cons (pe_and (pe_cmpR op_ne (pv 7) (pv 2) (nomark _)) (pe_one (pe_cmpR op_eq (pe_ix ix_list (pv 8) pe_int (fun _ _ => rfl)) pe_str (nomark _)))) pa_nil))))))
      (pss_cons (ps_set (i := 10) sc_l_head_row.nd rfl (.inl rfl) (pe_callB (cr_any rfl) (by rfl) T.b_any (by decide +kernel) (pa_cons (pe_lc (own := [("_law_kind", 11)]) (g := gName 11) (tt := tYes) (te := (tOp rLtI (tOp (rIxL K) (tVar 11) (tDGet (tVar 5) (tVar 7))) (tC (.int 0)))) rfl sc_l_head_row.nd (pi_list (pv 4)) (blkOk_by (own := [("_law_kind", 11)]) (N := ["_law_records_here", "_law_heads_here", "_law_head_here", "_law_columns", "_law_kinds", "_law_starts", "_law_links", "_law_path", "_law_record_here", "_law_lack", "_law_may", "_law_kind", "_law_column", "_law_name", "_law_upper"]) (sc := defScope s_l_head_row) (by decide +kernel)) (fun _ _ _ _ _ => (pg_name (i := 11) sc_l_head_row.nd rfl (.inl rfl))) (fun _ _ _ _ _ => pts_nil) (fun _ _ _ _ _ => (pe_cmpR op_lt (pe_ix ix_list (pv 11) (pe_dget hu (pv 5) (pv 7) (fun _ _ => rfl)) (fun _ _ => rfl)) pe_int (nomark _)))) pa_nil)))
      (pss_cons (ps_for PassesOwn.never rfl (pi_list (pe_ix ix_list (pv 8) pe_int (fun _ _ => rfl))) (pg_name (i := 12) sc_l_head_row.nd rfl (.inl rfl))
      (pss_cons (ps_set (i := 13) sc_l_head_row.nd rfl (.inl rfl) (pe_ix ix_list (pv 12) pe_int (fun _ _ => rfl)))
      (pss_cons (ps_if (pt_cmpR op_ne (pv 7) (pv 2) (nomark _)) (pss_cons (ps_set (i := 13) sc_l_head_row.nd rfl (.inl rfl) (pe_op op_add_str (pe_op op_add_str (pe_call (ok_l_seen T) (hr.mono (by decide)) rfl T.m_l_seen T.k_l_seen T.a_l_seen .nil pass0 (pa_cons (pv 2) (pa_cons (pv 7) pa_nil))) pe_str) (pv 13)))
      pss_nil) pss_nil)
      (pss_cons (ps_expr (pe_bm PySem.F.plainAttrs_list PySem.F.slot_list_append PySem.F.type_list_append mt_append (pv 3) (pa_cons (pe_lstS (pa_cons (pv 13) (pa_cons (pv 10) pa_nil))) pa_nil)))
      pss_nil))))
      pss_nil))))))))
      (pss_cons (ps_for PassesOwn.never rfl (pi_list (pv 0)) (pg_name (i := 8) sc_l_head_row.nd rfl (.inl rfl))
      (pss_cons (ps_set (i := 14) sc_l_head_row.nd rfl (.inl rfl) (pe_ix ix_tup (pe_rpart (pe_ix ix_list (pv 8) pe_int (fun _ _ => rfl)) pe_str) pe_int (fun _ _ => rfl)))
      (pss_cons (ps_if (PW.pt (pw_and (pt_cmpR op_eq (pe_ix ix_list (pv 8) pe_int (fun _ _ => rfl)) pe_str (nomark _)) (pw_and1 (pt_cmp (pc_din hu (pv 14) (pv 5)))))) (pss_cons (ps_expr (pe_bm PySem.F.plainAttrs_list PySem.F.slot_list_append PySem.F.type_list_append mt_append (pv 6) (pa_cons (pe_lstS (pa_cons (pe_call (ok_l_seen T) (hr.mono (by decide)) rfl T.m_l_seen T.k_l_seen T.a_l_seen .nil pass0 (pa_cons (pv 2) (pa_cons (pe_ix ix_list (pv 8) pe_int (fun _ _ => rfl)) pa_nil))) (pa_cons (pe_bm PySem.F.plainAttrs_list PySem.F.slot_list_index PySem.F.type_list_index mt_index (pv 1) (pa_cons (pe_ix ix_list (pv 8) pe_int (fun _ _ => rfl)) pa_nil)) (pa_cons (pe_dget hu (pv 5) (pv 14) (fun _ _ => rfl)) pa_nil)))) pa_nil)))
      pss_nil) pss_nil)
      pss_nil)))
      (pss_cons (ps_ret (pe_lstS (pa_cons (pv 2) (pa_cons (pv 3) (pa_cons (pv 6) (pa_cons (pe_callB cr_sortedTI (by rfl) T.b_sorted (by decide +kernel) (pa_cons (pe_lc (own := [("_law_kind", 11)]) (g := gName 11) (tt := tYes) (te := (tCB (rTupleD K) (tCons (tVar 11) tNil))) rfl sc_l_head_row.nd (pi_list (pv 4)) (blkOk_by (own := [("_law_kind", 11)]) (N := ["_law_records_here", "_law_heads_here", "_law_head_here", "_law_columns", "_law_kinds", "_law_starts", "_law_links", "_law_path", "_law_record_here", "_law_lack", "_law_may", "_law_kind", "_law_column", "_law_name", "_law_upper"]) (sc := defScope s_l_head_row) (by decide +kernel)) (fun _ _ _ _ _ => (pg_name (i := 11) sc_l_head_row.nd rfl (.inl rfl))) (fun _ _ _ _ _ => pts_nil) (fun _ _ _ _ _ => (pe_callTy call_tupleD (by rfl) T.b_tuple (by decide +kernel) (pa_cons (pv 11) pa_nil)))) pa_nil)) pa_nil))))))
      pss_nil)))), ?_⟩
    refine st_asgT ?_
    refine x_tup ?_
    refine x_cons ?_
    refine EVN.go (K := K) (evn_lst (ds := []) eva_nil (Nat.le_of_ble_eq_true rfl)) g.wd fun p H2 H3 wd s2 np s3 vs2 hp2 hv => ?_
    have g2 := g.same s2
    have ex := Gd.ex_new (M0 := M0) (Ls := []) s3 np
    have g3 := g2.new s3 np hp2
    have h5 : rV K (mxM M0 [p]) H3 (.mu p (List.map (eH2 D.str D.bl) ([] : (List (Str × Bool))))) (V.ref p) := ⟨rfl, vs2, hp2, rDs.mono ex.lx _ _ hv⟩
    refine x_cons ?_
    refine EV.goA (K := K) (en := (eL (eL D.int))) (x0 := ([([] : (List Int))] : (List (List Int)))) (ev_lst (ds := [(eL D.int) ([] : (List Int))]) (eva_cons (ev_lst (ds := []) eva_nil (Nat.le_of_ble_eq_true rfl)) eva_nil) (Nat.le_of_ble_eq_true rfl)) g3.wd fun kinds e v4 H4 wd2 s4 h6 => ?_
    have hw := hw kinds e
    have g4 := g3.same s4
    have h7 := rV.same s4 h5
    refine x_cons ?_
    refine x_dnew g4.wd fun p2 H5 np2 s5 hp3 => ?_
    have ex2 := Gd.ex_new (M0 := M0) (Ls := [p]) s5 np2
    have g5 := g4.new s5 np2 hp3
    have h9 := rV.ex ex2 h7
    have h8 : rV K (mxM M0 [p2, p]) H5 (.md p2 (List.map (enA D.int) ([] : (List (Str × Int))))) (V.ref p2) := ⟨rfl, [], hp3, rfl, rfl⟩
    refine x_cons ?_
    refine EVN.go (K := K) (evn_lst (ds := []) eva_nil (Nat.le_of_ble_eq_true rfl)) g5.wd fun p3 H6 H7 wd3 s6 np3 s7 vs3 hp4 hv2 => ?_
    have g6 := g5.same s6
    have h10 := rV.same s6 h9
    have h11 := rV.same s6 h8
    have ex3 := Gd.ex_new (M0 := M0) (Ls := [p2, p]) s7 np3
    have g7 := g6.new s7 np3 hp4
    have h12 := rV.ex ex3 h10
    have h13 := rV.ex ex3 h11
    have h14 : rV K (mxM M0 [p3, p2, p]) H7 (.mu p3 (List.map (eH3 D.str D.int D.int) ([] : (List (Str × Int × Int))))) (V.ref p3) := ⟨rfl, vs3, hp4, rDs.mono ex3.lx _ _ hv2⟩
    refine x_nil ?_
    refine ⟨(by show 4 ≤ sizeLine; decide), fun p4 H8 np4 s8 hp5 => ?_⟩
    have g8 := g7.same s8
    have h15 := rV.same s8 h12
    have h16 := rV.same s8 h13
    have h17 := rV.same s8 h14
    refine ⟨p4, _, rfl, SqT.of hp5, rfl, _, _, rfl, _, _, rfl, _, _, rfl, _, _, rfl, rfl, ?_⟩
    try dsimp only [gName]
    refine st_norm (σ' := [some v3, some v2, some (V.str head_here), some (V.ref p), some v4, some (V.ref p2), some (V.ref p3), none, none, none, none, none, none, none, none]) rfl ?_
    have g9 := g8.pick [2, 1, 0] (Ls' := [p, p2, p3]) (by decide) rfl
    have l : Lx (mxM M0 [p3, p2, p]) (mxM M0 [p, p2, p3]) H8 H8 := Gd.lx_pick [2, 1, 0] rfl
    have h18 := mu_pick h15 [2, 1, 0] (Ls' := [p, p2, p3]) rfl
    have h19 := mu_pick h16 [2, 1, 0] (Ls' := [p, p2, p3]) rfl
    have h20 := mu_pick h17 [2, 1, 0] (Ls' := [p, p2, p3]) rfl
    refine st_for ?_
    have h21 : rV K (mxM M0 [p, p2, p3]) H8 (.im ((eL eRc) records_here)) v3 := (rV.lx l (((((((h4.same s2).ex ex).same s4).ex ex2).same s6).ex ex3).same s8))
    obtain ⟨c2, hw⟩ := hw
    refine EVI.gom (K := K) (en := D.str) (xs := (groupOf records_here head_here)) (evi_list (es := List.map D.str (groupOf records_here head_here)) (ev_call (eva_cons (ev_var (d := (.im ((eL eRc) records_here))) (i := 0) rfl h21) (eva_cons (ev_vs (i := 2) rfl) eva_nil)) (cd_l_group records_here head_here c2))) g9.wd fun J H9 wd4 s9 wk => ?_
    have g10 := g9.same s9
    have h22 := rV.same s9 h18
    have h23 := rV.same s9 h19
    have h24 := rV.same s9 h20
    obtain ⟨Inv, hI, hI2, hI3⟩ := hw
    have h28 : rV K (mxM M0 [p, p2, p3]) H9 (.im ((eL (eL D.int)) kinds)) v4 := ((rV.lx l ((((h6.ex ex2).same s6).ex ex3).same s8)).same s9)
    refine st_forit wk (fun i σ' H' => ∃ (columns : (List (Str × Bool))) (v5 : V) (kinds2 : (List (List Int))) (starts : (List (Str × Int))) (o : Option V) (o2 : Option V) (o3 : Option V) (o4 : Option V) (o5 : Option V) (o6 : Option V), σ' = [some v3, some v2, some (V.str head_here), some (V.ref p), some v5, some (V.ref p2), some (V.ref p3), o, o2, o3, o4, none, o5, o6, none] ∧ Gd M0 [p, p2, p3] Y H H' ∧ Lx (mxM M0 [p, p2, p3]) (mxM M0 [p, p2, p3]) H9 H' ∧ rV K (mxM M0 [p, p2, p3]) H' (.im ((eL (eL D.int)) kinds2)) v5 ∧ rV K (mxM M0 [p, p2, p3]) H' (.mu p (List.map (eH2 D.str D.bl) columns)) (V.ref p) ∧ rV K (mxM M0 [p, p2, p3]) H' (.md p2 (List.map (enA D.int) starts)) (V.ref p2) ∧ rV K (mxM M0 [p, p2, p3]) H' (.mu p3 (List.map (eH3 D.str D.int D.int) ([] : (List (Str × Int × Int))))) (V.ref p3) ∧ Inv i columns kinds2 starts) ⟨([] : (List (Str × Bool))), _, kinds, ([] : (List (Str × Int))), _, _, _, _, _, _, rfl, g10, Lx.refl, h28, h22, h23, h24, hI⟩ (fun i σ' H' _ ⟨_, _, _, _, _, _, _, _, _, _, _, _, hl, _⟩ => ⟨_, hl⟩) ?_ ?_
    · rintro i x2 σ' H10 H11 hi ⟨columns, v5, kinds2, starts, o, o2, o3, o4, o5, o6, rfl, g11, l2, h26, h25, h27, h29, hI4⟩ yd
      obtain ⟨path, hy, s10, hr2⟩ := yd_map yd
      have hw := hI2 i path  columns kinds2 starts hy hI4
      have hr2 := hr2 _ g11.wd l2
      have g12 := g11.same s10
      have h30 := rV.same s10 h25
      have h31 := rV.same s10 h27
      have h32 := rV.same s10 h29
      cases (show x2 = (V.str path) from hr2)
      unfold W_l_head_row_b1 at hw
      try dsimp only [gName]
      refine st_norm (σ' := [some v3, some v2, some (V.str head_here), some (V.ref p), some v5, some (V.ref p2), some (V.ref p3), some (V.str path), o2, o3, o4, none, o5, o6, none]) rfl ?_
      refine st_set ?_
      have h33 : rV K (mxM M0 [p, p2, p3]) H11 (.im ((eL eRc) records_here)) v3 := ((rV.lx l2 (h21.same s9)).same s10)
      obtain ⟨c3, hw⟩ := hw
      refine EV.goA (K := K) (en := eRc) (x0 := (recOf records_here path)) (ev_call (eva_cons (ev_var (d := (.im ((eL eRc) records_here))) (i := 0) rfl h33) (eva_cons (ev_vs (i := 7) rfl) eva_nil)) (cd_l_record records_here path c3)) g12.wd fun record_here e2 v6 H12 wd5 s11 h34 => ?_
      have hw := hw record_here e2
      have g13 := g12.same s11
      have h35 := rV.same s11 h30
      have h36 := rV.same s11 h31
      have h37 := rV.same s11 h32
      try dsimp only [gName]
      refine st_norm (σ' := [some v3, some v2, some (V.str head_here), some (V.ref p), some v5, some (V.ref p2), some (V.ref p3), some (V.str path), some v6, o3, o4, none, o5, o6, none]) rfl ?_
      refine st_set ?_
      refine EV.goA (K := K) (en := D.int) (x0 := (-1 : Int)) (ev_un ev_int ud_neg) g13.wd fun lack e3 v7 H13 wd6 s12 h38 => ?_
      have hw := hw lack e3
      have g14 := g13.same s12
      have h39 := rV.same s12 h35
      have h40 := rV.same s12 h36
      have h41 := rV.same s12 h37
      cases (show v7 = (V.int lack) from h38)
      try dsimp only [gName]
      refine st_norm (σ' := [some v3, some v2, some (V.str head_here), some (V.ref p), some v5, some (V.ref p2), some (V.ref p3), some (V.str path), some v6, some (V.int lack), o4, none, o5, o6, none]) rfl ?_
      try dsimp only [gName]
      refine if_cut (fun σ' H' => ∃ (lack2 : Int), σ' = [some v3, some v2, some (V.str head_here), some (V.ref p), some v5, some (V.ref p2), some (V.ref p3), some (V.str path), some v6, some (V.int lack2), o4, none, o5, o6, none] ∧ Gd M0 [p, p2, p3] Y H H' ∧ Lx (mxM M0 [p, p2, p3]) (mxM M0 [p, p2, p3]) H13 H' ∧ rV K (mxM M0 [p, p2, p3]) H' (.mu p (List.map (eH2 D.str D.bl) columns)) (V.ref p) ∧ rV K (mxM M0 [p, p2, p3]) H' (.md p2 (List.map (enA D.int) starts)) (V.ref p2) ∧ rV K (mxM M0 [p, p2, p3]) H' (.mu p3 (List.map (eH3 D.str D.int D.int) ([] : (List (Str × Int × Int))))) (V.ref p3) ∧ W_l_head_row_k2 records_here heads_here head_here columns kinds2 starts path record_here lack2 P (Inv (i + 1))) (fun nx hnx => ?_) ?_
      · refine EVT.go (b := (!decide (path = head_here))) (evt_test (K := K) (ev_op (ev_vs (i := 7) rfl) (ev_vs (i := 2) rfl) od_neS)) g14.wd fun H14 wd7 s13 => ?_
        have g15 := g14.same s13
        have h42 := rV.same s13 h39
        have h43 := rV.same s13 h40
        have h44 := rV.same s13 h41
        refine wite hw (fun hw => ?_) (fun hw => ?_)
        · skip
          refine st_set ?_
          obtain ⟨c5, c6, hw⟩ := hw
          refine EV.goA (K := K) (en := D.int) (x0 := (getA starts ((Txt.rpartition path "_").1))) (ev_dget (en := D.int) (kvs := starts) (k := (Txt.rpartition path "_").1) (ev_var (d := (.md p2 (List.map (enA D.int) starts))) (i := 5) rfl h43) (ev_op (ev_m1 (ev_vs (i := 7) rfl) ev_str (md_rpart rfl c5)) ev_int (od_ixT (es := [D.str ((Txt.rpartition path "_").1), D.str ((Txt.rpartition path "_").2.1), D.str ((Txt.rpartition path "_").2.2)]) rfl)) c6) g15.wd fun lack3 e4 v8 H15 wd8 s14 h45 => ?_
          have hw := hw lack3 e4
          have g16 := g15.same s14
          have h46 := rV.same s14 h42
          have h47 := rV.same s14 h43
          have h48 := rV.same s14 h44
          cases (show v8 = (V.int lack3) from h45)
          exact hnx _ _ ⟨lack3, rfl, g16, ((Lx.same s13).trans (Lx.same s14)), h46, h47, h48, hw⟩
        · skip
          exact hnx _ _ ⟨lack, rfl, g15, (Lx.same s13), h42, h43, h44, hw⟩
      rintro σ' H16 ⟨lack2, rfl, g17, l3, h49, h50, h51, hw⟩
      try dsimp only [gName]
      refine st_norm (σ' := [some v3, some v2, some (V.str head_here), some (V.ref p), some v5, some (V.ref p2), some (V.ref p3), some (V.str path), some v6, some (V.int lack2), o4, none, o5, o6, none]) rfl ?_
      refine st_dput ?_
      refine EV.go (K := K) (d := (.im (D.int (columns.length : Int)))) (ev_cb (eva_cons (ev_var (d := (.mu p (List.map (eH2 D.str D.bl) columns))) (i := 3) rfl h49) eva_nil) (cd_lenm (en := (eH2 D.str D.bl)) (xs := columns) (.inl LsOf.mu))) g17.wd fun v9 H17 wd9 s15 h52 => ?_
      have g18 := g17.same s15
      have h53 := rV.same s15 h49
      have h54 := rV.same s15 h50
      have h55 := rV.same s15 h51
      cases (show v9 = (V.int (columns.length : Int)) from h52)
      refine EV.go (K := K) (d := (.md p2 (List.map (enA D.int) starts))) (ev_var (d := (.md p2 (List.map (enA D.int) starts))) (i := 5) rfl h54) g18.wd fun v10 H18 wd10 s16 h56 => ?_
      have g19 := g18.same s16
      have h57 := rV.same s16 h53
      have h58 := rV.same s16 h54
      have h59 := rV.same s16 h55
      cases h56.1
      refine EV.go (K := K) (d := (.im (D.str path))) (ev_vs (i := 7) rfl) g19.wd fun v11 H19 wd11 s17 h60 => ?_
      have g20 := g19.same s17
      have h61 := rV.same s17 h57
      have h62 := rV.same s17 h58
      have h63 := rV.same s17 h59
      cases (show v11 = (V.str path) from h60)
      obtain ⟨c7, hw⟩ := hw
      refine x_dput (en := D.int) (x := (columns.length : Int)) (k := path) h62 rfl (by simp) c7 fun H20 ⟨ws, eu⟩ h64 => ?_
      obtain ⟨starts2, estarts2⟩ : ∃ z_ : (List (Str × Int)), z_ = (putA starts path (columns.length : Int)) := ⟨_, rfl⟩
      have hw := hw starts2 estarts2
      rw [← estarts2] at h64
      subst eu
      have g21 : Gd M0 [p, p2, p3] Y H (upd H19 p2 (.dK ws)) := g20.upd (by simp)
      have l4 : Lx (mxM M0 [p, p2, p3]) (mxM M0 [p, p2, p3]) H19 (upd H19 p2 (.dK ws)) := Gd.lx_upd (by simp)
      have h65 : rV K (mxM M0 [p, p2, p3]) (upd H19 p2 (.dK ws)) (.mu p (List.map (eH2 D.str D.bl) columns)) (V.ref p) := mu_upd h61 rfl (nd_ne g20.nd 0 1 rfl rfl (by decide)) (by simp)
      have h66 : rV K (mxM M0 [p, p2, p3]) (upd H19 p2 (.dK ws)) (.mu p3 (List.map (eH3 D.str D.int D.int) ([] : (List (Str × Int × Int))))) (V.ref p3) := mu_upd h63 rfl (nd_ne g20.nd 2 1 rfl rfl (by decide)) (by simp)
      refine st_set ?_
      have h67 : rV K (mxM M0 [p, p2, p3]) (upd H19 p2 (.dK ws)) (.im ((eL (eL D.int)) kinds2)) v5 := (rV.lx l4 ((((rV.lx l3 (((h26.same s10).same s11).same s12)).same s15).same s16).same s17))
      have h68 : rV K (mxM M0 [p, p2, p3]) (upd H19 p2 (.dK ws)) (.im (eRc record_here)) v6 := (rV.lx l4 ((((rV.lx l3 (h34.same s12)).same s15).same s16).same s17))
      obtain ⟨c8, hw⟩ := hw
      refine EV.goA (K := K) (en := (eL (eL D.int))) (x0 := (moreKinds kinds2 lack2 record_here.cols ((!decide (path = head_here)) && (decide (record_here.mark = "?"))))) (ev_call (eva_cons (ev_var (d := (.im ((eL (eL D.int)) kinds2))) (i := 4) rfl h67) (eva_cons (ev_vi (i := 9) rfl) (eva_cons (ev_op (ev_var (d := (.im (eRc record_here))) (i := 8) rfl h68) ev_int (od_ixL (es := [D.str record_here.path, D.str record_here.mark, (eL (eH2 D.str D.int)) record_here.cols]) LsOf.im rfl)) (eva_cons (ev_and (ev_op (ev_vs (i := 7) rfl) (ev_vs (i := 2) rfl) od_neS) fun hb => (ev_op (ev_op (ev_var (d := (.im (eRc record_here))) (i := 8) rfl h68) ev_int (od_ixL (es := [D.str record_here.path, D.str record_here.mark, (eL (eH2 D.str D.int)) record_here.cols]) LsOf.im rfl)) ev_str od_eqS)) eva_nil)))) (cd_l_more_kinds kinds2 lack2 record_here.cols ((!decide (path = head_here)) && (decide (record_here.mark = "?"))) c8)) g21.wd fun kinds3 e5 v12 H21 wd12 s18 h69 => ?_
      have hw := hw kinds3 e5
      have g22 := g21.same s18
      have h70 := rV.same s18 h65
      have h71 := rV.same s18 h64
      have h72 := rV.same s18 h66
      try dsimp only [gName]
      refine st_norm (σ' := [some v3, some v2, some (V.str head_here), some (V.ref p), some v12, some (V.ref p2), some (V.ref p3), some (V.str path), some v6, some (V.int lack2), o4, none, o5, o6, none]) rfl ?_
      refine st_set ?_
      obtain ⟨c9, c10, c11, hw⟩ := hw
      refine EV.goA (K := K) (en := D.bl) (x0 := ((kinds3.map fun (kind : (List Int)) => (decide ((ixD kind (getA starts2 path)) < 0))).any id)) (ev_cb (eva_cons (ev_lcmm (fd := fun (kind : (List Int)) => (decide ((ixD kind (getA starts2 path)) < 0))) (en2 := D.bl) (xs := kinds3) (en := (eL D.int)) (evi_list (es := List.map (eL D.int) kinds3) (ev_var (d := (.im ((eL (eL D.int)) kinds3))) (i := 4) rfl h69)) GI.ex gm_name c9 (fun kind hy2 M H22 v13 wd13 ex4 h73 => ⟨rfl, rfl, (ev_op (ev_op (ev_var (d := (.im ((eL D.int) kind))) (i := 11) rfl h73) (ev_dget (en := D.int) (kvs := starts2) (k := path) (ev_var (d := (.md p2 (List.map (enA D.int) starts2))) (i := 5) rfl (rV.ex (d := (.md p2 (List.map (enA D.int) starts2))) ex4 h71)) (ev_vs (i := 7) rfl) (c10 kind hy2)) (od_ixLm (en := D.int) (xs := kind) LsOf.im (c11 kind hy2))) ev_int od_lt)⟩)) eva_nil) (cd_any (bs := (kinds3.map fun (kind : (List Int)) => (decide ((ixD kind (getA starts2 path)) < 0)))) LsOf.im)) g22.wd fun may e6 v14 H23 wd14 s19 h74 => ?_
      have hw := hw may e6
      have g23 := g22.same s19
      have h75 := rV.same s19 h70
      have h76 := rV.same s19 h71
      have h77 := rV.same s19 h72
      cases (show v14 = (V.bl may) from h74)
      try dsimp only [gName]
      refine st_norm (σ' := [some v3, some v2, some (V.str head_here), some (V.ref p), some v12, some (V.ref p2), some (V.ref p3), some (V.str path), some v6, some (V.int lack2), some (V.bl may), none, o5, o6, none]) rfl ?_
      refine st_for ?_
      have h78 : rV K (mxM M0 [p, p2, p3]) H23 (.im (eRc record_here)) v6 := ((h68.same s18).same s19)
      refine EVI.gom (K := K) (en := (eH2 D.str D.int)) (xs := record_here.cols) (evi_list (es := List.map (eH2 D.str D.int) record_here.cols) (ev_op (ev_var (d := (.im (eRc record_here))) (i := 8) rfl h78) ev_int (od_ixL (es := [D.str record_here.path, D.str record_here.mark, (eL (eH2 D.str D.int)) record_here.cols]) LsOf.im rfl))) g23.wd fun J2 H24 wd15 s20 wk2 => ?_
      have g24 := g23.same s20
      have h79 := rV.same s20 h75
      have h80 := rV.same s20 h76
      have h81 := rV.same s20 h77
      obtain ⟨Inv2, hI5, hI6, hI7⟩ := hw
      refine st_forit wk2 (fun i σ' H' => ∃ (columns2 : (List (Str × Bool))) (o7 : Option V) (o8 : Option V), σ' = [some v3, some v2, some (V.str head_here), some (V.ref p), some v12, some (V.ref p2), some (V.ref p3), some (V.str path), some v6, some (V.int lack2), some (V.bl may), none, o7, o8, none] ∧ Gd M0 [p, p2, p3] Y H H' ∧ Lx (mxM M0 [p, p2, p3]) (mxM M0 [p, p2, p3]) H24 H' ∧ rV K (mxM M0 [p, p2, p3]) H' (.mu p (List.map (eH2 D.str D.bl) columns2)) (V.ref p) ∧ rV K (mxM M0 [p, p2, p3]) H' (.md p2 (List.map (enA D.int) starts2)) (V.ref p2) ∧ rV K (mxM M0 [p, p2, p3]) H' (.mu p3 (List.map (eH3 D.str D.int D.int) ([] : (List (Str × Int × Int))))) (V.ref p3) ∧ Inv2 i columns2) ⟨columns, _, _, rfl, g24, Lx.refl, h79, h80, h81, hI5⟩ (fun i σ' H' _ ⟨_, _, _, _, _, hl, _⟩ => ⟨_, hl⟩) ?_ ?_
      · rintro i2 x3 σ' H25 H26 hi2 ⟨columns2, o7, o8, rfl, g25, l5, h82, h83, h84, hI8⟩ yd2
        obtain ⟨column, hy3, s21, hr3⟩ := yd_map yd2
        have hw := hI6 i2 column  columns2 hy3 hI8
        have hr3 := hr3 _ g25.wd l5
        have g26 := g25.same s21
        have h85 := rV.same s21 h82
        have h86 := rV.same s21 h83
        have h87 := rV.same s21 h84
        have hr3 : rV K (mxM M0 [p, p2, p3]) H26 (.im ((eH2 D.str D.int) column)) x3 := hr3
        unfold W_l_head_row_b3 at hw
        try dsimp only [gName]
        refine st_norm (σ' := [some v3, some v2, some (V.str head_here), some (V.ref p), some v12, some (V.ref p2), some (V.ref p3), some (V.str path), some v6, some (V.int lack2), some (V.bl may), none, some x3, o8, none]) rfl ?_
        refine st_set ?_
        refine EV.goA (K := K) (en := D.str) (x0 := column.1) (ev_op (ev_var (d := (.im ((eH2 D.str D.int) column))) (i := 12) rfl hr3) ev_int (od_ixL (es := [D.str column.1, D.int column.2]) LsOf.im rfl)) g26.wd fun name e7 v15 H27 wd16 s22 h88 => ?_
        have hw := hw name e7
        have g27 := g26.same s22
        have h89 := rV.same s22 h85
        have h90 := rV.same s22 h86
        have h91 := rV.same s22 h87
        cases (show v15 = (V.str name) from h88)
        try dsimp only [gName]
        refine st_norm (σ' := [some v3, some v2, some (V.str head_here), some (V.ref p), some v12, some (V.ref p2), some (V.ref p3), some (V.str path), some v6, some (V.int lack2), some (V.bl may), none, some x3, some (V.str name), none]) rfl ?_
        try dsimp only [gName]
        refine if_cut (fun σ' H' => ∃ (name2 : Str), σ' = [some v3, some v2, some (V.str head_here), some (V.ref p), some v12, some (V.ref p2), some (V.ref p3), some (V.str path), some v6, some (V.int lack2), some (V.bl may), none, some x3, some (V.str name2), none] ∧ Gd M0 [p, p2, p3] Y H H' ∧ Lx (mxM M0 [p, p2, p3]) (mxM M0 [p, p2, p3]) H27 H' ∧ rV K (mxM M0 [p, p2, p3]) H' (.mu p (List.map (eH2 D.str D.bl) columns2)) (V.ref p) ∧ rV K (mxM M0 [p, p2, p3]) H' (.md p2 (List.map (enA D.int) starts2)) (V.ref p2) ∧ rV K (mxM M0 [p, p2, p3]) H' (.mu p3 (List.map (eH3 D.str D.int D.int) ([] : (List (Str × Int × Int))))) (V.ref p3) ∧ W_l_head_row_k4 records_here heads_here head_here columns2 kinds3 starts2 path may name2 P (Inv (i + 1)) (Inv2 (i2 + 1))) (fun nx hnx => ?_) ?_
        · refine EVT.go (b := (!decide (path = head_here))) (evt_test (K := K) (ev_op (ev_vs (i := 7) rfl) (ev_vs (i := 2) rfl) od_neS)) g27.wd fun H28 wd17 s23 => ?_
          have g28 := g27.same s23
          have h92 := rV.same s23 h89
          have h93 := rV.same s23 h90
          have h94 := rV.same s23 h91
          refine wite hw (fun hw => ?_) (fun hw => ?_)
          · skip
            refine st_set ?_
            obtain ⟨c12, c13, c14, hw⟩ := hw
            refine EV.goA (K := K) (en := D.str) (x0 := (((seenOf head_here path) ++ "_") ++ name)) (ev_op (ev_op (ev_call (eva_cons (ev_vs (i := 2) rfl) (eva_cons (ev_vs (i := 7) rfl) eva_nil)) (cd_l_seen head_here path c12)) ev_str (od_addS c13)) (ev_vs (i := 13) rfl) (od_addS c14)) g28.wd fun name3 e8 v16 H29 wd18 s24 h95 => ?_
            have hw := hw name3 e8
            have g29 := g28.same s24
            have h96 := rV.same s24 h92
            have h97 := rV.same s24 h93
            have h98 := rV.same s24 h94
            cases (show v16 = (V.str name3) from h95)
            exact hnx _ _ ⟨name3, rfl, g29, ((Lx.same s23).trans (Lx.same s24)), h96, h97, h98, hw⟩
          · skip
            exact hnx _ _ ⟨name, rfl, g28, (Lx.same s23), h92, h93, h94, hw⟩
        rintro σ' H30 ⟨name2, rfl, g30, l6, h99, h100, h101, hw⟩
        try dsimp only [gName]
        refine st_norm (σ' := [some v3, some v2, some (V.str head_here), some (V.ref p), some v12, some (V.ref p2), some (V.ref p3), some (V.str path), some v6, some (V.int lack2), some (V.bl may), none, some x3, some (V.str name2), none]) rfl ?_
        refine st_expr ?_
        refine x_bm (ev_var (d := (.mu p (List.map (eH2 D.str D.bl) columns2))) (i := 3) rfl h99) LsOf.mu g30.wd fun v17 H31 wd19 s25 h102 => ?_
        have g31 := g30.same s25
        have h103 := rV.same s25 h99
        have h104 := rV.same s25 h100
        have h105 := rV.same s25 h101
        cases h102.1
        refine x_cons ?_
        refine EV.goA (K := K) (en := (eH2 D.str D.bl)) (x0 := (name2, may)) (ev_lst (ds := [D.str name2, D.bl may]) (eva_cons (ev_vs (i := 13) rfl) (eva_cons (ev_vb (i := 10) rfl) eva_nil)) (Nat.le_of_ble_eq_true rfl)) g31.wd fun d e9 v18 H32 wd20 s26 h106 => ?_
        have hw := hw d e9
        have g32 := g31.same s26
        have h107 := rV.same s26 h103
        have h108 := rV.same s26 h104
        have h109 := rV.same s26 h105
        refine x_nil ?_
        obtain ⟨c15, hw⟩ := hw
        refine x_append (d := (eH2 D.str D.bl) d) h107 h106 (by simp) (by rw [List.length_map]; exact c15) fun H33 ⟨vs4, eu2⟩ h110 => ?_
        obtain ⟨columns3, ecolumns3⟩ : ∃ z_ : (List (Str × Bool)), z_ = (columns2 ++ [d]) := ⟨_, rfl⟩
        have hw := hw columns3 ecolumns3
        have h110 : rV K (mxM M0 [p, p2, p3]) H33 (.mu p (List.map (eH2 D.str D.bl) columns3)) (V.ref p) := by rw [ecolumns3, List.map_append]; exact h110
        subst eu2
        have g33 : Gd M0 [p, p2, p3] Y H (upd H32 p (.lst vs4)) := g32.upd (by simp)
        have l7 : Lx (mxM M0 [p, p2, p3]) (mxM M0 [p, p2, p3]) H32 (upd H32 p (.lst vs4)) := Gd.lx_upd (by simp)
        have h111 : rV K (mxM M0 [p, p2, p3]) (upd H32 p (.lst vs4)) (.md p2 (List.map (enA D.int) starts2)) (V.ref p2) := mu_upd h108 rfl (nd_ne g32.nd 1 0 rfl rfl (by decide)) (by simp)
        have h112 : rV K (mxM M0 [p, p2, p3]) (upd H32 p (.lst vs4)) (.mu p3 (List.map (eH3 D.str D.int D.int) ([] : (List (Str × Int × Int))))) (V.ref p3) := mu_upd h109 rfl (nd_ne g32.nd 2 0 rfl rfl (by decide)) (by simp)
        exact ⟨columns3, _, _, rfl, g33, ((((((l5.trans (Lx.same s21)).trans (Lx.same s22)).trans l6).trans (Lx.same s25)).trans (Lx.same s26)).trans l7), h110, h111, h112, hw⟩
      · rintro σ' H34 ⟨columns2, o7, o8, rfl, g34, l8, h82, h83, h84, hI9⟩
        have hw := hI7 columns2 hI9
        unfold W_l_head_row_k3 at hw
        have h113 : rV K (mxM M0 [p, p2, p3]) H34 (.im ((eL (eL D.int)) kinds3)) v12 := (rV.lx l8 ((h69.same s19).same s20))
        exact ⟨columns2, _, kinds3, starts2, _, _, _, _, _, _, rfl, g34, ((((((((((((l2.trans (Lx.same s10)).trans (Lx.same s11)).trans (Lx.same s12)).trans l3).trans (Lx.same s15)).trans (Lx.same s16)).trans (Lx.same s17)).trans l4).trans (Lx.same s18)).trans (Lx.same s19)).trans (Lx.same s20)).trans l8), h113, h82, h83, h84, hw⟩
    · rintro σ' H35 ⟨columns, v5, kinds2, starts, o, o2, o3, o4, o5, o6, rfl, g35, l9, h26, h25, h27, h29, hI10⟩
      have hw := hI3 columns kinds2 starts hI10
      unfold W_l_head_row_k1 at hw
      try dsimp only [gName]
      refine st_norm (σ' := [some v3, some v2, some (V.str head_here), some (V.ref p), some v5, some (V.ref p2), some (V.ref p3), o, o2, o3, o4, none, o5, o6, none]) rfl ?_
      refine st_for ?_
      have h114 : rV K (mxM M0 [p, p2, p3]) H35 (.im ((eL eRc) records_here)) v3 := (rV.lx l9 (h21.same s9))
      refine EVI.gom (K := K) (en := eRc) (xs := records_here) (evi_list (es := List.map eRc records_here) (ev_var (d := (.im ((eL eRc) records_here))) (i := 0) rfl h114)) g35.wd fun J3 H36 wd21 s27 wk3 => ?_
      have g36 := g35.same s27
      have h115 := rV.same s27 h25
      have h116 := rV.same s27 h27
      have h117 := rV.same s27 h29
      obtain ⟨Inv3, hI11, hI12, hI13⟩ := hw
      refine st_forit wk3 (fun i σ' H' => ∃ (links : (List (Str × Int × Int))) (o9 : Option V) (o10 : Option V), σ' = [some v3, some v2, some (V.str head_here), some (V.ref p), some v5, some (V.ref p2), some (V.ref p3), o, o9, o3, o4, none, o5, o6, o10] ∧ Gd M0 [p, p2, p3] Y H H' ∧ Lx (mxM M0 [p, p2, p3]) (mxM M0 [p, p2, p3]) H36 H' ∧ rV K (mxM M0 [p, p2, p3]) H' (.mu p (List.map (eH2 D.str D.bl) columns)) (V.ref p) ∧ rV K (mxM M0 [p, p2, p3]) H' (.md p2 (List.map (enA D.int) starts)) (V.ref p2) ∧ rV K (mxM M0 [p, p2, p3]) H' (.mu p3 (List.map (eH3 D.str D.int D.int) links)) (V.ref p3) ∧ Inv3 i links) ⟨([] : (List (Str × Int × Int))), _, _, rfl, g36, Lx.refl, h115, h116, h117, hI11⟩ (fun i σ' H' _ ⟨_, _, _, _, _, hl, _⟩ => ⟨_, hl⟩) ?_ ?_
      · rintro i3 x4 σ' H37 H38 hi3 ⟨links, o9, o10, rfl, g37, l10, h119, h120, h118, hI14⟩ yd3
        obtain ⟨record_here2, hy4, s28, hr4⟩ := yd_map yd3
        have hw := hI12 i3 record_here2  links hy4 hI14
        have hr4 := hr4 _ g37.wd l10
        have g38 := g37.same s28
        have h121 := rV.same s28 h119
        have h122 := rV.same s28 h120
        have h123 := rV.same s28 h118
        have hr4 : rV K (mxM M0 [p, p2, p3]) H38 (.im (eRc record_here2)) x4 := hr4
        unfold W_l_head_row_b5 at hw
        try dsimp only [gName]
        refine st_norm (σ' := [some v3, some v2, some (V.str head_here), some (V.ref p), some v5, some (V.ref p2), some (V.ref p3), o, some x4, o3, o4, none, o5, o6, o10]) rfl ?_
        refine st_set ?_
        obtain ⟨c17, hw⟩ := hw
        refine EV.goA (K := K) (en := D.str) (x0 := (Txt.rpartition record_here2.path "_").1) (ev_op (ev_m1 (ev_op (ev_var (d := (.im (eRc record_here2))) (i := 8) rfl hr4) ev_int (od_ixL (es := [D.str record_here2.path, D.str record_here2.mark, (eL (eH2 D.str D.int)) record_here2.cols]) LsOf.im rfl)) ev_str (md_rpart rfl c17)) ev_int (od_ixT (es := [D.str ((Txt.rpartition record_here2.path "_").1), D.str ((Txt.rpartition record_here2.path "_").2.1), D.str ((Txt.rpartition record_here2.path "_").2.2)]) rfl)) g38.wd fun upper e10 v19 H39 wd22 s29 h124 => ?_
        have hw := hw upper e10
        have g39 := g38.same s29
        have h125 := rV.same s29 h121
        have h126 := rV.same s29 h122
        have h127 := rV.same s29 h123
        cases (show v19 = (V.str upper) from h124)
        try dsimp only [gName]
        refine st_norm (σ' := [some v3, some v2, some (V.str head_here), some (V.ref p), some v5, some (V.ref p2), some (V.ref p3), o, some x4, o3, o4, none, o5, o6, some (V.str upper)]) rfl ?_
        try dsimp only [gName]
        refine if_cut (fun σ' H' => ∃ (links2 : (List (Str × Int × Int))), σ' = [some v3, some v2, some (V.str head_here), some (V.ref p), some v5, some (V.ref p2), some (V.ref p3), o, some x4, o3, o4, none, o5, o6, some (V.str upper)] ∧ Gd M0 [p, p2, p3] Y H H' ∧ Lx (mxM M0 [p, p2, p3]) (mxM M0 [p, p2, p3]) H39 H' ∧ rV K (mxM M0 [p, p2, p3]) H' (.mu p (List.map (eH2 D.str D.bl) columns)) (V.ref p) ∧ rV K (mxM M0 [p, p2, p3]) H' (.md p2 (List.map (enA D.int) starts)) (V.ref p2) ∧ rV K (mxM M0 [p, p2, p3]) H' (.mu p3 (List.map (eH3 D.str D.int D.int) links2)) (V.ref p3) ∧ W_l_head_row_k6 heads_here head_here columns kinds2 starts links2 P (Inv3 (i3 + 1))) (fun nx hnx => ?_) ?_
        · have h129 : rV K (mxM M0 [p, p2, p3]) H39 (.im (eRc record_here2)) x4 := (hr4.same s29)
          refine EVT.go (b := ((decide (record_here2.mark = "*")) && (hasA starts upper))) (evt_and (evt_test (K := K) (ev_op (ev_op (ev_var (d := (.im (eRc record_here2))) (i := 8) rfl h129) ev_int (od_ixL (es := [D.str record_here2.path, D.str record_here2.mark, (eL (eH2 D.str D.int)) record_here2.cols]) LsOf.im rfl)) ev_str od_eqS)) fun hb2 => (evt_b (K := K) (ev_din (en := D.int) (kvs := starts) (k := upper) (ev_var (d := (.md p2 (List.map (enA D.int) starts))) (i := 5) rfl h126) (ev_vs (i := 14) rfl)))) g39.wd fun H40 wd23 s30 => ?_
          have g40 := g39.same s30
          have h130 := rV.same s30 h125
          have h131 := rV.same s30 h126
          have h132 := rV.same s30 h127
          refine wite hw (fun hw => ?_) (fun hw => ?_)
          · skip
            refine st_expr ?_
            refine x_bm (ev_var (d := (.mu p3 (List.map (eH3 D.str D.int D.int) links))) (i := 6) rfl h132) LsOf.mu g40.wd fun v20 H41 wd24 s31 h133 => ?_
            have g41 := g40.same s31
            have h134 := rV.same s31 h130
            have h135 := rV.same s31 h131
            have h136 := rV.same s31 h132
            cases h133.1
            refine x_cons ?_
            have h137 : rV K (mxM M0 [p, p2, p3]) H41 (.im (eRc record_here2)) x4 := ((h129.same s30).same s31)
            have h138 : rV K (mxM M0 [p, p2, p3]) H41 (.im ((eL D.str) heads_here)) v2 := (((((rV.lx l10 ((rV.lx l9 ((rV.lx l (((((((h3.same s2).ex ex).same s4).ex ex2).same s6).ex ex3).same s8)).same s9)).same s27)).same s28).same s29).same s30).same s31)
            obtain ⟨c18, c19, c20, hw⟩ := hw
            refine EV.goA (K := K) (en := (eH3 D.str D.int D.int)) (x0 := ((seenOf head_here record_here2.path), (heads_here.idxOf record_here2.path : Int), (getA starts upper))) (ev_lst (ds := [D.str (seenOf head_here record_here2.path), D.int (heads_here.idxOf record_here2.path : Int), D.int (getA starts upper)]) (eva_cons (ev_call (eva_cons (ev_vs (i := 2) rfl) (eva_cons (ev_op (ev_var (d := (.im (eRc record_here2))) (i := 8) rfl h137) ev_int (od_ixL (es := [D.str record_here2.path, D.str record_here2.mark, (eL (eH2 D.str D.int)) record_here2.cols]) LsOf.im rfl)) eva_nil)) (cd_l_seen head_here record_here2.path c18)) (eva_cons (ev_bm (es := List.map D.str heads_here) (ev_var (d := (.im ((eL D.str) heads_here))) (i := 1) rfl h138) LsOf.im (eva_cons (ev_op (ev_var (d := (.im (eRc record_here2))) (i := 8) rfl h137) ev_int (od_ixL (es := [D.str record_here2.path, D.str record_here2.mark, (eL (eH2 D.str D.int)) record_here2.cols]) LsOf.im rfl)) eva_nil) (md_indexS (xs := heads_here) LsOf.im c19)) (eva_cons (ev_dget (en := D.int) (kvs := starts) (k := upper) (ev_var (d := (.md p2 (List.map (enA D.int) starts))) (i := 5) rfl h135) (ev_vs (i := 14) rfl) c20) eva_nil))) (Nat.le_of_ble_eq_true rfl)) g41.wd fun d2 e11 v21 H42 wd25 s32 h139 => ?_
            have hw := hw d2 e11
            have g42 := g41.same s32
            have h140 := rV.same s32 h134
            have h141 := rV.same s32 h135
            have h142 := rV.same s32 h136
            refine x_nil ?_
            obtain ⟨c21, hw⟩ := hw
            refine x_append (d := (eH3 D.str D.int D.int) d2) h142 h139 (by simp) (by rw [List.length_map]; exact c21) fun H43 ⟨vs5, eu3⟩ h143 => ?_
            obtain ⟨links3, elinks3⟩ : ∃ z_ : (List (Str × Int × Int)), z_ = (links ++ [d2]) := ⟨_, rfl⟩
            have hw := hw links3 elinks3
            have h143 : rV K (mxM M0 [p, p2, p3]) H43 (.mu p3 (List.map (eH3 D.str D.int D.int) links3)) (V.ref p3) := by rw [elinks3, List.map_append]; exact h143
            subst eu3
            have g43 : Gd M0 [p, p2, p3] Y H (upd H42 p3 (.lst vs5)) := g42.upd (by simp)
            have l11 : Lx (mxM M0 [p, p2, p3]) (mxM M0 [p, p2, p3]) H42 (upd H42 p3 (.lst vs5)) := Gd.lx_upd (by simp)
            have h144 : rV K (mxM M0 [p, p2, p3]) (upd H42 p3 (.lst vs5)) (.mu p (List.map (eH2 D.str D.bl) columns)) (V.ref p) := mu_upd h140 rfl (nd_ne g42.nd 0 2 rfl rfl (by decide)) (by simp)
            have h145 : rV K (mxM M0 [p, p2, p3]) (upd H42 p3 (.lst vs5)) (.md p2 (List.map (enA D.int) starts)) (V.ref p2) := mu_upd h141 rfl (nd_ne g42.nd 1 2 rfl rfl (by decide)) (by simp)
            exact hnx _ _ ⟨links3, rfl, g43, ((((Lx.same s30).trans (Lx.same s31)).trans (Lx.same s32)).trans l11), h144, h145, h143, hw⟩
          · skip
            exact hnx _ _ ⟨links, rfl, g40, (Lx.same s30), h130, h131, h132, hw⟩
        rintro σ' H44 ⟨links2, rfl, g44, l12, h146, h147, h128, hw⟩
        exact ⟨links2, _, _, rfl, g44, (((l10.trans (Lx.same s28)).trans (Lx.same s29)).trans l12), h146, h147, h128, hw⟩
      · rintro σ' H45 ⟨links, o9, o10, rfl, g45, l13, h119, h120, h118, hI15⟩
        have hw := hI13 links hI15
        unfold W_l_head_row_k5 at hw
        try dsimp only [gName]
        refine st_norm (σ' := [some v3, some v2, some (V.str head_here), some (V.ref p), some v5, some (V.ref p2), some (V.ref p3), o, o9, o3, o4, none, o5, o6, o10]) rfl ?_
        refine st_ret ?_
        have h148 : rV K (mxM M0 [p2, p3]) H45 (.im ((eL (eH2 D.str D.bl)) columns)) (V.ref p) := mu_frzp h119 g45 (i := 0) rfl [1, 2] (by decide) rfl
        have g46 := g45.pick [1, 2] (Ls' := [p2, p3]) (by decide) rfl
        have l14 : Lx (mxM M0 [p, p2, p3]) (mxM M0 [p2, p3]) H45 H45 := Gd.lx_pick [1, 2] rfl
        have h149 := mu_pick h120 [1, 2] (Ls' := [p2, p3]) rfl
        have h150 := mu_pick h118 [1, 2] (Ls' := [p2, p3]) rfl
        have h151 : rV K (mxM M0 [p2]) H45 (.im ((eL (eH3 D.str D.int D.int)) links)) (V.ref p3) := mu_frzp h150 g46 (i := 1) rfl [0] (by decide) rfl
        have g47 := g46.pick [0] (Ls' := [p2]) (by decide) rfl
        have l15 : Lx (mxM M0 [p2, p3]) (mxM M0 [p2]) H45 H45 := Gd.lx_pick [0] rfl
        have h152 := mu_pick h149 [0] (Ls' := [p2]) rfl
        have h153 : rV K (mxM M0 [p2]) H45 (.im ((eL (eH2 D.str D.bl)) columns)) (V.ref p) := (rV.lx l15 h148)
        have h154 : rV K (mxM M0 [p2]) H45 (.im ((eL (eL D.int)) kinds2)) v5 := (rV.lx l15 (rV.lx l14 (rV.lx l13 (h26.same s27))))
        obtain ⟨c22, c23, hw⟩ := hw
        refine EV.go (K := K) (d := (.im (eHd (Hd.mk head_here columns links (sortT (kinds2.map fun (kind2 : (List Int)) => kind2)))))) (ev_lst (ds := [D.str head_here, (eL (eH2 D.str D.bl)) columns, (eL (eH3 D.str D.int D.int)) links, (eL (eT D.int)) (sortT (kinds2.map fun (kind2 : (List Int)) => kind2))]) (eva_cons (ev_vs (i := 2) rfl) (eva_cons (ev_var (d := (.im ((eL (eH2 D.str D.bl)) columns))) (i := 3) rfl h153) (eva_cons (ev_var (d := (.im ((eL (eH3 D.str D.int D.int)) links))) (i := 6) rfl h151) (eva_cons (ev_cb (eva_cons (ev_lcmm (fd := fun (kind2 : (List Int)) => kind2) (en2 := (eT D.int)) (xs := kinds2) (en := (eL D.int)) (evi_list (es := List.map (eL D.int) kinds2) (ev_var (d := (.im ((eL (eL D.int)) kinds2))) (i := 4) rfl h154)) GI.ex gm_name c22 (fun kind2 hy5 M2 H46 v22 wd26 ex5 h155 => ⟨rfl, rfl, (ev_cb (eva_cons (ev_var (d := (.im ((eL D.int) kind2))) (i := 11) rfl h155) eva_nil) (cd_tuple (es := List.map D.int kind2) LsOf.im))⟩)) eva_nil) (cd_sortTI (nss := (kinds2.map fun (kind2 : (List Int)) => kind2)) LsOf.im c23)) eva_nil)))) (Nat.le_of_ble_eq_true rfl)) g47.wd fun v23 H47 wd27 s33 h156 => ?_
        have g48 := g47.same s33
        have h157 := rV.same s33 h152
        exact kk _ _ _ hw g48.w_end (Bu.nil g48.bu eY) (rV.lx Gd.lx_end h156)

end
end Toy

set_option Elab.async false
set_option linter.all false
set_option maxRecDepth 100000
set_option maxHeartbeats 4000000
set_option pp.maxSteps 1500
set_option pp.deepTerms false
namespace Toy
open PySem L2 Lf
section
variable {P : Program} {w : World} {K : PySem.W.Frag} {mg : Str → Option Value} {base : Heap} {a : Ad}

inductive Row where
  | mk (kind : List Int) (sides : List (List (Int × Row)))
def Row.kind : Row → List Int
  | .mk k _ => k
def Row.sides : Row → List (List (Int × Row))
  | .mk _ s => s
instance : Inhabited Row := ⟨.mk [] []⟩
mutual
def eRow : Row → D
  | .mk k s => .tup [eT D.int k, .tup (eSides s)]
def eSides : List (List (Int × Row)) → List D
  | [] => []
  | e :: s => .tup (eEnts e) :: eSides s
def eEnts : List (Int × Row) → List D
  | [] => []
  | e :: s => eEnt e :: eEnts s
def eEnt : Int × Row → D
  | (c, r) => .tup [.int c, eRow r]
end
theorem eEnts_map : ∀ es : List (Int × Row), eEnts es = es.map (eP2 D.int eRow)
  | [] => by rw [eEnts]; rfl
  | (c, r) :: es => by rw [eEnts, eEnts_map es, List.map_cons, eEnt]; rfl
theorem eSides_map : ∀ s : List (List (Int × Row)), eSides s = s.map (eT (eP2 D.int eRow))
  | [] => by rw [eSides]; rfl
  | e :: s => by rw [eSides, eSides_map s, List.map_cons, eEnts_map]; rfl
theorem eRow_eq (r : Row) : eRow r = .tup [eT D.int r.kind, eT (eT (eP2 D.int eRow)) r.sides] := by
  cases r with
  | mk k s =>
    rw [eRow, eSides_map]
    rfl
/-! the heads -/
def headsOf (rs : List Rc) : List Hd := (headPaths rs).map fun h => headRow rs (headPaths rs) h
def pre_heads (rs : List Rc) : Prop := WfR rs
def W_l_heads (records_here : (List Rc)) (P : (List Hd) → Prop) : Prop :=
  (records_here.length ≤ sizeLine) ∧ ∀ heads_here : (List Str), heads_here = ((records_here.filter fun (record_here : Rc) => (decide (record_here.mark ∈ (["", "*"] : (List Str))))).map fun (record_here : Rc) => record_here.path) → (heads_here.length ≤ sizeLine) ∧ (∀ head_here ∈ heads_here, pre_hrow records_here heads_here head_here) ∧ P (heads_here.map fun (head_here : Str) => (headRow records_here heads_here head_here))
theorem headPaths_mem {rs : List Rc} {h : Str} (hh : h ∈ headPaths rs) : ∃ (i : Nat) (r : Rc), rs[i]? = some r ∧ r.path = h ∧ r.mark ∈ (["", "*"] : List Str) := by
  unfold headPaths at hh
  obtain ⟨r, hr, e⟩ := List.mem_map.mp hh
  obtain ⟨h1, h2⟩ := List.mem_filter.mp hr
  obtain ⟨i, hi⟩ := List.mem_iff_getElem?.mp h1
  exact ⟨i, r, hi, e, of_decide_eq_true h2⟩
theorem dW_l_heads {rs : List Rc} (hp : pre_heads rs) (P : List Hd → Prop) (hP : P (headsOf rs)) : W_l_heads rs P := by
  have le := hp.le
  refine ⟨sz_of (by omega), ?_⟩
  rintro hs ehs
  have ehs : hs = headPaths rs := ehs
  subst ehs
  have hl : (headPaths rs).length ≤ 6 := by
    unfold headPaths
    rw [List.length_map]
    exact Nat.le_trans (List.length_filter_le ..) le
  refine ⟨sz_of (by omega), fun h hh => ⟨hp, rfl, ?_⟩, hP⟩
  obtain ⟨i, r, hi, e, _⟩ := headPaths_mem hh
  exact ⟨r, List.mem_of_getElem? hi, e⟩
def sp_l_heads (K : PySem.W.Frag) : Sp := spF K (fun (x : (List Rc)) => [(eL eRc) x]) (eL eHd) (fun (x : (List Rc)) => pre_heads x) (fun (x : (List Rc)) => headsOf x)
theorem cd_l_heads {E : XK} (records_here : (List Rc)) (hp : pre_heads records_here) : CaD K (fun vs H Q => sp_l_heads K vs H Q E) [.im ((eL eRc) records_here)] (.im ((eL eHd) (headsOf records_here))) := cd_fn (ens := (fun (x : (List Rc)) => [(eL eRc) x])) (er := (eL eHd)) records_here hp
theorem sc_l_heads : FnScope ["_law_records_here", "_law_heads_here", "_law_record_here", "_law_head_here"] ["_law_records_here"] (defScope s_l_heads) := ⟨rfl, rfl, rfl, by decide +kernel, rfl, by decide +kernel, by decide +kernel⟩
theorem ok_l_heads (T : Txt K mg a) : FnOk P w K mg base CX0 3 a.f_l_heads a.d_l_heads ["_law_records_here"] (sp_l_heads K) := by
  refine T.F_l_heads.ok sc_l_heads (fun vs H Q E h => ?_) (fun cdv A outer s H vs Q E hr h => ?_)
  · obtain ⟨M0, x, w0, hx, _⟩ := h
    exact hx.len
  · obtain ⟨M0, x, w0, hx, hp, kq⟩ := h
    obtain ⟨records_here, ex⟩ : ∃ z, z = x := ⟨_, rfl⟩
    subst ex
    have hx : rDs K (Fx M0 H) [(eL eRc) records_here] vs := hx
    obtain ⟨v, _, rfl, h2, rfl⟩ := hx
    obtain ⟨Y, eY⟩ : ∃ Y : List Addr, Y = [] := ⟨_, rfl⟩
    have g : Gd M0 [] Y H H := Gd.start w0 (by rw [eY]; exact fun y h => nomatch h)
    have h2 : rV K (mxM M0 []) H (.im ((eL eRc) records_here)) v := rV.lx Gd.lx0 (show rV K M0 H (.im ((eL eRc) records_here)) v from h2)
    obtain ⟨P, eP⟩ : ∃ P : (List Hd) → Prop, P = fun r => r = headsOf records_here := ⟨_, rfl⟩
    have kk : ∀ r v H2, P r → Wd M0 H2 → Same H H2 → rD K (Fx M0 H2) ((eL eHd) r) v → Q v H2 := fun r v H2 e => by rw [eP] at e; rw [show r = headsOf records_here from e]; exact kq v H2
    have hw : W_l_heads records_here P := dW_l_heads hp P (by rw [eP])
    unfold W_l_heads at hw
    refine ⟨_, (pss_cons (ps_set (i := 1) sc_l_heads.nd rfl (.inr rfl) (pe_lc (own := [("_law_record_here", 2)]) (g := gName 2) (tt := (tTest (tOp (rIn K false) (tOp (rIxL K) (tVar 2) (tC (.int 1))) (tTupS (tCons (tC (.str "")) (tCons (tC (.str "*")) tNil)))))) (te := (tOp (rIxL K) (tVar 2) (tC (.int 0)))) rfl sc_l_heads.nd (pi_list (pv 0)) (blkOk_by (own := [("_law_record_here", 2)]) (N := ["_law_records_here", "_law_heads_here", "_law_record_here", "_law_head_here"]) (sc := defScope s_l_heads) (by decide +kernel)) (fun _ _ _ _ _ => (pg_name (i := 2) sc_l_heads.nd rfl (.inl rfl))) (fun _ _ _ _ _ => (pts_one (pt_cmpR op_in_seq (pe_ix ix_list (pv 2) pe_int (fun _ _ => rfl)) (pe_tupS (pa_cons pe_str (pa_cons pe_str pa_nil))) rfl))) (fun _ _ _ _ _ => (pe_ix ix_list (pv 2) pe_int (fun _ _ => rfl)))))
      (pss_cons (ps_ret (pe_lc (own := [("_law_head_here", 3)]) (g := gName 3) (tt := tYes) (te := (tCall (sp_l_head_row K) [] E0 (tCons (tVar 0) (tCons (tVar 1) (tCons (tVar 3) tNil))))) rfl sc_l_heads.nd (pi_list (pv 1)) (blkOk_by (own := [("_law_head_here", 3)]) (N := ["_law_records_here", "_law_heads_here", "_law_record_here", "_law_head_here"]) (sc := defScope s_l_heads) (by decide +kernel)) (fun _ _ _ _ _ => (pg_name (i := 3) sc_l_heads.nd rfl (.inl rfl))) (fun _ _ _ _ _ => pts_nil) (fun _ _ _ _ _ => (pe_call (ok_l_head_row T) (hr.mono (by decide)) rfl T.m_l_head_row T.k_l_head_row T.a_l_head_row .nil pass0 (pa_cons (pv 0) (pa_cons (pv 1) (pa_cons (pv 3) pa_nil)))))))
      pss_nil)), ?_⟩
    refine st_set ?_
    obtain ⟨c, hw⟩ := hw
    refine EV.goA (K := K) (en := (eL D.str)) (x0 := ((records_here.filter fun (record_here : Rc) => (decide (record_here.mark ∈ (["", "*"] : (List Str))))).map fun (record_here : Rc) => record_here.path)) (ev_lcfm (fd := fun (record_here : Rc) => record_here.path) (en2 := D.str) (xs := records_here) (en := eRc) (p := fun (record_here : Rc) => (decide (record_here.mark ∈ (["", "*"] : (List Str))))) (evi_list (es := List.map eRc records_here) (ev_var (d := (.im ((eL eRc) records_here))) (i := 0) rfl h2)) GI.ex gm_name c (fun record_here hy M H2 v2 wd ex h3 => ⟨rfl, rfl, (evt_test (K := K) (ev_op (ev_op (ev_var (d := (.im (eRc record_here))) (i := 2) rfl h3) ev_int (od_ixL (es := [D.str record_here.path, D.str record_here.mark, (eL (eH2 D.str D.int)) record_here.cols]) LsOf.im rfl)) (ev_tup (ds := [D.str "", D.str "*"]) (eva_cons ev_str (eva_cons ev_str eva_nil)) (Nat.le_of_ble_eq_true rfl)) (od_inS (xs := (["", "*"] : (List Str))) (.inr rfl)))), fun hb => (ev_op (ev_var (d := (.im (eRc record_here))) (i := 2) rfl h3) ev_int (od_ixL (es := [D.str record_here.path, D.str record_here.mark, (eL (eH2 D.str D.int)) record_here.cols]) LsOf.im rfl))⟩)) g.wd fun heads_here e v3 H3 wd2 s2 h4 => ?_
    have hw := hw heads_here e
    have g2 := g.same s2
    try dsimp only [gName]
    refine st_norm (σ' := [some v, some v3, none, none]) rfl ?_
    refine st_ret ?_
    have h6 : rV K (mxM M0 []) H3 (.im ((eL eRc) records_here)) v := (h2.same s2)
    obtain ⟨c2, c3, hw⟩ := hw
    refine EV.go (K := K) (d := (.im ((eL eHd) (heads_here.map fun (head_here : Str) => (headRow records_here heads_here head_here))))) (ev_lcmm (fd := fun (head_here : Str) => (headRow records_here heads_here head_here)) (en2 := eHd) (xs := heads_here) (en := D.str) (evi_list (es := List.map D.str heads_here) (ev_var (d := (.im ((eL D.str) heads_here))) (i := 1) rfl h4)) GI.ex gm_name c2 (fun head_here hy2 M2 H4 v4 wd3 ex2 h5 => ⟨rfl, rfl, (ev_call (eva_cons (ev_var (d := (.im ((eL eRc) records_here))) (i := 0) rfl (rV.ex (d := (.im ((eL eRc) records_here))) ex2 h6)) (eva_cons (ev_var (d := (.im ((eL D.str) heads_here))) (i := 1) rfl (rV.ex (d := (.im ((eL D.str) heads_here))) ex2 h4)) (eva_cons (ev_var (d := (.im (D.str head_here))) (i := 3) rfl h5) eva_nil))) (cd_l_head_row records_here heads_here head_here (c3 head_here hy2)))⟩)) g2.wd fun v5 H5 wd4 s3 h7 => ?_
    have g3 := g2.same s3
    exact kk _ _ _ hw g3.w_end (Bu.nil g3.bu eY) (rV.lx Gd.lx_end h7)
/-- what the rows need of the heads -/
structure WfH (hs : List Hd) (i : Nat) (h : Hd) : Prop where
  k0 : h.kinds ≠ []
  kn : h.kinds.length ≤ 20000
  ln : h.links.length ≤ 6
  lk : ∀ l ∈ h.links, (i : Int) < l.2.1 ∧ l.2.1 < hs.length ∧ 0 ≤ l.2.2 ∧ ∀ k ∈ h.kinds, l.2.2 < k.length
def WfHs (hs : List Hd) : Prop := hs.length ≤ 6 ∧ hs ≠ [] ∧ ∀ (i : Nat) (h : Hd), hs[i]? = some h → WfH hs i h
theorem headPaths_nodup {rs : List Rc} (h : WfR rs) : (headPaths rs).Nodup := by
  unfold headPaths
  have nd : (rs.map (·.path)).Nodup := by
    refine List.pairwise_iff_getElem.mpr fun i j hi hj hij e => ?_
    rw [List.length_map] at hi hj
    rw [List.getElem_map, List.getElem_map] at e
    have := h.uniq (List.getElem?_eq_getElem hi) (List.getElem?_eq_getElem hj) e
    omega
  exact nd.sublist (List.filter_sublist.map _)
theorem heads_wf {rs : List Rc} (W : WfR rs) : WfHs (headsOf rs) := by
  have le := W.le
  have hl : (headPaths rs).length ≤ 6 := by
    unfold headPaths
    rw [List.length_map]
    exact Nat.le_trans (List.length_filter_le ..) le
  have hlen : (headsOf rs).length = (headPaths rs).length := by unfold headsOf; rw [List.length_map]
  refine ⟨by omega, fun e => ?_, fun i hd hi => ?_⟩
  · obtain ⟨cs, h0⟩ := W.root
    have hm : (Str.ofString "") ∈ headPaths rs := by
      unfold headPaths
      refine List.mem_map.mpr ⟨⟨"", "", cs⟩, List.mem_filter.mpr ⟨List.mem_of_getElem? h0, ?_⟩, rfl⟩
      show decide ((Str.ofString "") ∈ (["", "*"] : List Str)) = true
      decide +kernel
    have hz : headPaths rs = [] := by
      cases hq : headPaths rs with
      | nil => rfl
      | cons a b =>
        have l0 : (headsOf rs).length = 0 := by rw [e]; rfl
        rw [hlen, hq] at l0
        cases l0
    rw [hz] at hm
    cases hm
  · unfold headsOf at hi
    rw [List.getElem?_map] at hi
    obtain ⟨h, hh, rfl⟩ := Option.map_eq_some_iff.mp hi
    obtain ⟨ih, rh, hih, eh, mh⟩ := headPaths_mem (List.mem_of_getElem? hh)
    have ok := HsOk.at W h (groupOf rs h).length (Nat.le_refl _)
    have GL := group_len W h
    have ez : (groupOf rs h).foldl (hrStep rs h) ⟨[], [[]], []⟩ = hsAt rs h (groupOf rs h).length := by
      unfold hsAt
      rw [List.take_length]
    have ehd : headRow rs (headPaths rs) h = ⟨h, (hsAt rs h (groupOf rs h).length).cols, rs.flatMap (linkOf (headPaths rs) h (hsAt rs h (groupOf rs h).length).starts), sortT (hsAt rs h (groupOf rs h).length).kinds⟩ := by
      unfold headRow
      rw [ez]
    rw [ehd]
    generalize hsAt rs h (groupOf rs h).length = z at ok
    have pm := sortT_perm z.kinds
    have p5 : 5 ^ (groupOf rs h).length ≤ 15625 := Nat.pow_le_pow_right (by decide) GL
    have GP := group_pos W hih eh rs.length (Nat.le_refl _)
    rw [List.take_length] at GP
    refine ⟨fun e => ?_, ?_, ?_, fun l hl' => ?_⟩
    · have e : sortT z.kinds = [] := e
      rw [e] at pm
      exact ok.k0 pm.symm.eq_nil
    · show (sortT z.kinds).length ≤ _
      rw [pm.length_eq]
      have := ok.kn
      omega
    · have := flat_len (linkOf (headPaths rs) h z.starts) 1 rs fun r _ => by unfold linkOf; split <;> simp
      exact Nat.le_trans this (by omega)
    · obtain ⟨r, hr, hl2⟩ := List.mem_flatMap.mp hl'
      unfold linkOf at hl2
      split at hl2
      · rename_i cnd
        rw [List.mem_singleton.mp hl2]
        obtain ⟨ir, hir⟩ := List.mem_iff_getElem?.mp hr
        have ab := (ok.st (above r.path)).mp cnd.2
        rw [List.take_length] at ab
        obtain ⟨iu, ru, g1, g2, g3⟩ := GP _ ab
        have i1 : 1 ≤ ir := by
          rcases Nat.eq_zero_or_pos ir with z0 | z0
          · subst z0
            obtain ⟨cs, h0⟩ := W.root
            rw [h0] at hir
            cases hir
            exact absurd cnd.1 (show ¬ (Str.ofString "") = "*" by decide +kernel)
          · exact z0
        obtain ⟨u, rcu, q1, q2, q3⟩ := W.up ir r i1 hir
        have eu := W.uniq g1 q2 (g2.trans q3)
        have HI := head_idx W hih hir mh (by rw [cnd.1]; decide +kernel) (by omega)
        have ei : (headPaths rs).idxOf rh.path = i := by
          rw [eh]
          have hl3 := (List.getElem?_eq_some_iff.mp hh).1
          have : (headPaths rs)[i] = h := (List.getElem?_eq_some_iff.mp hh).2
          rw [← this]
          exact (headPaths_nodup W).idxOf_getElem i hl3
        rw [ei] at HI
        have sv := ok.sv _ cnd.2
        have e2 : (List.map (fun h => headRow rs (headPaths rs) h) (headPaths rs)).length = (headPaths rs).length := List.length_map ..
        refine ⟨by show (i : Int) < ((headPaths rs).idxOf r.path : Nat); omega, ?_, sv.1, fun k hk => ?_⟩
        · show (((headPaths rs).idxOf r.path : Nat) : Int) < ((headsOf rs).length : Nat)
          rw [hlen]
          omega
        · have : k.length = z.cols.length := ok.kl k (pm.mem_iff.mp hk)
          show getA z.starts (above r.path) < (k.length : Int)
          rw [this]
          exact sv.2
      · cases hl2

end
end Toy

set_option Elab.async false
set_option linter.all false
set_option maxRecDepth 100000
set_option maxHeartbeats 4000000
set_option pp.maxSteps 1500
set_option pp.deepTerms false
namespace Toy
open PySem L2 Lf
section
variable {P : Program} {w : World} {K : PySem.W.Frag} {mg : Str → Option Value} {base : Heap} {a : Ad}

/-- a row of the head at a place, floor by floor -/
def RowAt (hs : List Hd) (great : Bool) : Nat → Int → Row → Prop
  | 0, _, _ => False
  | k + 1, at_, r => 0 ≤ at_ ∧ ∃ h, hs[at_.toNat]? = some h ∧ r.kind ∈ h.kinds ∧ r.sides.length = h.links.length ∧
    ∀ (j : Nat) (l : Str × Int × Int) (es : List (Int × Row)), h.links[j]? = some l → r.sides[j]? = some es → es.length ≤ 4 ∧ (ixD r.kind l.2.2 < 0 → es = []) ∧
      ∀ e ∈ es, 0 ≤ e.1 ∧ e.1 ≤ 10 ^ 30 ∧ (great = false → e.1 ≤ 3) ∧ RowAt hs great k l.2.1 e.2
def cost (k : Nat) : Nat := 50 * 40 ^ k
def S_row (k : Nat) (n : Nat) (hs : List Hd) (at_ most : Int) (great : Bool) (P : Row → Nat → Prop) : Prop :=
  WfHs hs ∧ 0 ≤ at_ ∧ at_ < hs.length ∧ (hs.length : Int) ≤ at_ + k ∧ 1 ≤ most ∧ most ≤ 4 ∧ n + cost k ≤ 2 ^ 55 ∧ ∀ r m, RowAt hs great k at_ r → m ≤ n + cost k → P r m
theorem no_l_row {n : Nat} {hs : List Hd} {at_ most : Int} {great : Bool} {P : Row → Nat → Prop} (h : S_row 0 n hs at_ most great P) : False := by
  obtain ⟨_, _, h1, h2, _⟩ := h
  omega
def W_l_row_b3 (fu : Nat) (heads_here : (List Hd)) (most : Int) (great : Bool) (kind : (List Int)) (sides : (List (List (Int × Row)))) (link : (Str × Int × Int)) (entries2 : (List (Int × Row))) (n6 : Nat) (P : Row → Nat → Prop) (nx : (List (List (Int × Row))) → Nat → Prop) (nx2 : (List (Int × Row)) → Nat → Prop) : Prop :=
  S_count n6 great (fun count_here2 n7 => S_row fu n7 heads_here link.2.1 (if 1 < (most - 1) then (most - 1) else 1) great (fun r3 n8 => (entries2.length < sizeLine) ∧ ∀ entries3 : (List (Int × Row)), entries3 = (entries2 ++ [(count_here2, r3)]) → nx2 entries3 n8))
def W_l_row_k2 (fu : Nat) (heads_here : (List Hd)) (most : Int) (great : Bool) (kind : (List Int)) (sides : (List (List (Int × Row)))) (entries : (List (Int × Row))) (n4 : Nat) (P : Row → Nat → Prop) (nx : (List (List (Int × Row))) → Nat → Prop) : Prop :=
  (sides.length < sizeLine) ∧ ∀ sides2 : (List (List (Int × Row))), sides2 = (sides ++ [entries]) → nx sides2 n4
def W_l_row_k3 (fu : Nat) (heads_here : (List Hd)) (most : Int) (great : Bool) (kind : (List Int)) (sides : (List (List (Int × Row)))) (entries2 : (List (Int × Row))) (n6 : Nat) (P : Row → Nat → Prop) (nx : (List (List (Int × Row))) → Nat → Prop) : Prop :=
  W_l_row_k2 fu heads_here most great kind sides entries2 n6 P nx
def W_l_row_b1 (fu : Nat) (heads_here : (List Hd)) (most : Int) (great : Bool) (kind : (List Int)) (sides : (List (List (Int × Row)))) (link : (Str × Int × Int)) (n3 : Nat) (P : Row → Nat → Prop) (nx : (List (List (Int × Row))) → Nat → Prop) : Prop :=
  (InB kind link.2.2) ∧ (if (decide (0 ≤ (ixD kind link.2.2))) = true then (S_draw n3 (most + 1) (fun r2 n5 => (-(2 ^ 62) ≤ (r2 : Int)) ∧ ((r2 : Int) < 2 ^ 62) ∧ ∃ Inv2 : Nat → (List (Int × Row)) → Nat → Prop, Inv2 0 ([] : (List (Int × Row))) n5 ∧ (∀ (i : Nat) (k : Int) (entries2 : (List (Int × Row))) (n6 : Nat), (rngI 0 r2)[i]? = some k → Inv2 i entries2 n6 → W_l_row_b3 fu heads_here most great kind sides link entries2 n6 P nx (Inv2 (i + 1))) ∧ (∀ (entries2 : (List (Int × Row))) (n6 : Nat), Inv2 (rngI 0 r2).length entries2 n6 → W_l_row_k3 fu heads_here most great kind sides entries2 n6 P nx))) else (W_l_row_k2 fu heads_here most great kind sides ([] : (List (Int × Row))) n3 P nx))
def W_l_row_k1 (fu : Nat) (kind : (List Int)) (sides : (List (List (Int × Row)))) (n3 : Nat) (P : Row → Nat → Prop) : Prop :=
  P (Row.mk kind sides) n3
def W_l_row (fu : Nat) (n : Nat) (heads_here : (List Hd)) (at_ : Int) (most : Int) (great : Bool) (P : Row → Nat → Prop) : Prop :=
  (InB heads_here at_) ∧ ∀ head_here : Hd, head_here = (ixD heads_here at_) → ∀ d : (List (List Int)), d = head_here.kinds → S_draw n (head_here.kinds.length : Int) (fun r n2 => (InB d r) ∧ ∀ kind : (List Int), kind = (ixD d r) → ∃ Inv : Nat → (List (List (Int × Row))) → Nat → Prop, Inv 0 ([] : (List (List (Int × Row)))) n2 ∧ (∀ (i : Nat) (link : (Str × Int × Int)) (sides : (List (List (Int × Row)))) (n3 : Nat), head_here.links[i]? = some link → Inv i sides n3 → W_l_row_b1 fu heads_here most great kind sides link n3 P (Inv (i + 1))) ∧ (∀ (sides : (List (List (Int × Row)))) (n3 : Nat), Inv head_here.links.length sides n3 → W_l_row_k1 fu kind sides n3 P))
theorem dW_l_row {k n : Nat} {hs : List Hd} {at_ most : Int} {great : Bool} {P : Row → Nat → Prop} (h : S_row (k + 1) n hs at_ most great P) : W_l_row k n hs at_ most great P := by
  obtain ⟨W, a0, a1, a2, m1, m4, hn, kk⟩ := h
  have ck : cost (k + 1) = 40 * cost k := by unfold cost; rw [Nat.pow_succ]; omega
  have c50 : 50 ≤ cost k := by unfold cost; exact Nat.le_mul_of_pos_right 50 (Nat.pow_pos (by decide))
  rw [ck] at hn kk
  have hal : at_.toNat < hs.length := by omega
  have hat : hs[at_.toNat]? = some hs[at_.toNat] := List.getElem?_eq_getElem hal
  have eat : ixD hs at_ = hs[at_.toNat] := by
    have := ixD_nat hat
    rw [Int.toNat_of_nonneg a0] at this
    exact this
  have wf := W.2.2 _ _ hat
  refine ⟨⟨by omega, a1⟩, ?_⟩
  rintro hd ehd
  rw [eat] at ehd
  subst ehd
  generalize hs[at_.toNat] = hd at hat wf
  rintro _ rfl
  have k0 : 0 < hd.kinds.length := List.length_pos_iff.mpr wf.k0
  have kn := wf.kn
  refine ⟨by omega, by omega, by omega, fun r r0 r1 => ⟨⟨by omega, r1⟩, ?_⟩⟩
  rintro kind ekind
  have km : kind ∈ hd.kinds := by rw [ekind]; exact ixD_mem ⟨by omega, r1⟩
  clear ekind
  have ln := wf.ln
  refine ⟨fun i sides m => sides.length = i ∧ (∀ (j : Nat) (l : Str × Int × Int) (es : List (Int × Row)), hd.links[j]? = some l → sides[j]? = some es → es.length ≤ 4 ∧ (ixD kind l.2.2 < 0 → es = []) ∧ ∀ e ∈ es, 0 ≤ e.1 ∧ e.1 ≤ 10 ^ 30 ∧ (great = false → e.1 ≤ 3) ∧ RowAt hs great k l.2.1 e.2) ∧ m ≤ n + 1 + i * (1 + 4 * (2 + cost k)), ⟨rfl, (fun j l es _ h => by simp at h), by omega⟩, ?_, ?_⟩
  · rintro i l sides m hi ⟨sl, sp, hm⟩
    have hi' := (List.getElem?_eq_some_iff.mp hi).1
    obtain ⟨l1, l2, l3, l4⟩ := wf.lk l (List.mem_of_getElem? hi)
    have lk := l4 kind km
    have hib : i * (1 + 4 * (2 + cost k)) ≤ 5 * (1 + 4 * (2 + cost k)) := Nat.mul_le_mul_right _ (by omega)
    refine ⟨⟨by omega, lk⟩, ?_⟩
    have K2 : ∀ (es : List (Int × Row)) (m' : Nat), es.length ≤ 4 → (ixD kind l.2.2 < 0 → es = []) → (∀ e ∈ es, 0 ≤ e.1 ∧ e.1 ≤ 10 ^ 30 ∧ (great = false → e.1 ≤ 3) ∧ RowAt hs great k l.2.1 e.2) → m' ≤ m + (1 + 4 * (2 + cost k)) →
        W_l_row_k2 k hs most great kind sides es m' P (fun sides m => sides.length = i + 1 ∧ (∀ (j : Nat) (l : Str × Int × Int) (es : List (Int × Row)), hd.links[j]? = some l → sides[j]? = some es → es.length ≤ 4 ∧ (ixD kind l.2.2 < 0 → es = []) ∧ ∀ e ∈ es, 0 ≤ e.1 ∧ e.1 ≤ 10 ^ 30 ∧ (great = false → e.1 ≤ 3) ∧ RowAt hs great k l.2.1 e.2) ∧ m ≤ n + 1 + (i + 1) * (1 + 4 * (2 + cost k))) := by
      intro es m' e4 e0 ea hm'
      refine ⟨sz_lt (by omega), ?_⟩
      rintro _ rfl
      refine ⟨by rw [List.length_append, sl]; rfl, fun j l' es' hj hs' => ?_, by rw [Nat.add_mul]; omega⟩
      by_cases hji : j < i
      · rw [List.getElem?_append_left (by omega)] at hs'
        exact sp j l' es' hj hs'
      · rw [List.getElem?_append_right (by omega)] at hs'
        have hz := (List.getElem?_eq_some_iff.mp hs').1
        simp at hz
        have ej : j = i := by omega
        subst ej
        rw [sl, Nat.sub_self] at hs'
        cases hs'
        rw [hi] at hj
        cases hj
        exact ⟨e4, e0, ea⟩
    by_cases c : 0 ≤ ixD kind l.2.2
    · rw [if_pos (decide_eq_true c)]
      refine ⟨by omega, by omega, by omega, fun r2 r20 r21 => ⟨by omega, by omega, fun j es m' => es.length = j ∧ (∀ e ∈ es, 0 ≤ e.1 ∧ e.1 ≤ 10 ^ 30 ∧ (great = false → e.1 ≤ 3) ∧ RowAt hs great k l.2.1 e.2) ∧ m' ≤ m + 1 + j * (2 + cost k), ⟨rfl, (fun e he => by cases he), by omega⟩, ?_, ?_⟩⟩
      · rintro j x es m' hj ⟨el, ea, hm'⟩
        have hj' := (List.getElem?_eq_some_iff.mp hj).1
        rw [rngI_len] at hj'
        have j4 : j ≤ 3 := by omega
        have hjb : j * (2 + cost k) ≤ 3 * (2 + cost k) := Nat.mul_le_mul_right _ j4
        refine ⟨by omega, fun c m2 c0 c1 c2 hm2 => ?_⟩
        refine ⟨W, by omega, l2, by omega, by split <;> omega, by split <;> omega, by omega, fun r m3 hr hm3 => ?_⟩
        refine ⟨sz_lt (by omega), ?_⟩
        rintro _ rfl
        refine ⟨by rw [List.length_append, el]; rfl, fun e he => ?_, by rw [Nat.add_mul]; omega⟩
        rcases List.mem_append.mp he with he | he
        · exact ea e he
        · rw [List.mem_singleton.mp he]
          exact ⟨c0, c1, c2, hr⟩
      · rintro es m' ⟨el, ea, hm'⟩
        rw [rngI_len] at el hm'
        have e4 : es.length ≤ 4 := by omega
        have hjb : (r2 - 0).toNat * (2 + cost k) ≤ 4 * (2 + cost k) := Nat.mul_le_mul_right _ (by omega)
        exact K2 es m' e4 (fun z => absurd z (by omega)) ea (by omega)
    · rw [if_neg (by simpa using c)]
      exact K2 [] m (by decide) (fun _ => rfl) (fun e he => nomatch he) (by omega)
  · rintro sides m ⟨sl, sp, hm⟩
    have hib : hd.links.length * (1 + 4 * (2 + cost k)) ≤ 6 * (1 + 4 * (2 + cost k)) := Nat.mul_le_mul_right _ ln
    exact kk (Row.mk kind sides) m ⟨a0, hd, hat, km, sl, sp⟩ (by omega)
def sp_l_row (fu : Nat) (K : PySem.W.Frag) : Sp := spS SMA K (fun (x : (List Hd) × Int × Int × Bool) => [(eL eHd) x.1, D.int x.2.1, D.int x.2.2.1, D.bl x.2.2.2]) eRow (fun n (x : (List Hd) × Int × Int × Bool) P => S_row fu n x.1 x.2.1 x.2.2.1 x.2.2.2 P)
theorem sc_l_row : FnScope ["_law_state", "_law_heads_here", "_law_at", "_law_most", "_law_great", "_law_head_here", "_law_kind", "_law_sides", "_law_link", "_law_entries", "_law_k", "_law_count_here"] ["_law_state", "_law_heads_here", "_law_at", "_law_most", "_law_great"] (defScope s_l_row) := ⟨rfl, rfl, rfl, by decide +kernel, rfl, by decide +kernel, by decide +kernel⟩
theorem ok_l_row_step (T : Txt K mg a) (fu : Nat) (ih : FnOk P w K mg base CX0 (3 + fu) a.f_l_row a.d_l_row ["_law_state", "_law_heads_here", "_law_at", "_law_most", "_law_great"] (sp_l_row fu K)) : FnOk P w K mg base CX0 (3 + (fu + 1)) a.f_l_row a.d_l_row ["_law_state", "_law_heads_here", "_law_at", "_law_most", "_law_great"] (sp_l_row (fu + 1) K) := by
  refine T.F_l_row.ok (k := 3 + fu) sc_l_row (fun vs H Q E h => ?_) (fun cdv A outer s H vs Q E hr h => ?_)
  · obtain ⟨M0, st, Y, n, x, us, P, rfl, w0, ys, hS, hx, _⟩ := h
    exact congrArg Nat.succ hx.len
  · obtain ⟨M0, st, Y, n, x, us, P, rfl, w0, ys, hS, hx, hS0, kk⟩ := h
    obtain ⟨heads_here, at_, most, great⟩ := x
    have hx : rDs K (Fx M0 H) [(eL eHd) heads_here, D.int at_, D.int most, D.bl great] us := hx
    obtain ⟨v4, _, rfl, h5, v3, _, rfl, h4, v2, _, rfl, h3, v, _, rfl, h2, rfl⟩ := hx
    have g : Gd M0 [] Y H H := Gd.start w0 ys
    have h5 : rV K (mxM M0 []) H (.im ((eL eHd) heads_here)) v4 := rV.lx Gd.lx0 (show rV K M0 H (.im ((eL eHd) heads_here)) v4 from h5)
    cases (show v3 = (V.int at_) from h4)
    cases (show v2 = (V.int most) from h3)
    cases (show v = (V.bl great) from h2)
    have hw := dW_l_row hS0
    unfold W_l_row at hw
    refine ⟨_, (pss_cons (ps_set (i := 5) sc_l_row.nd rfl (.inl rfl) (pe_ix ix_list (pv 1) (pv 2) (fun _ _ => rfl)))
      (pss_cons (ps_set (i := 6) sc_l_row.nd rfl (.inl rfl) (pe_ix ix_list (pe_ix ix_list (pv 5) pe_int (fun _ _ => rfl)) (pe_call (ok_l_draw T) (hr.mono (by omega)) rfl T.m_l_draw T.k_l_draw T.a_l_draw .nil pass0 (pa_cons (pv 0) (pa_cons (pe_callB call_len_seq (by rfl) T.b_len PySem.boot_len (pa_cons (pe_ix ix_list (pv 5) pe_int (fun _ _ => rfl)) pa_nil)) pa_nil))) (fun _ _ => rfl)))
      (pss_cons (ps_set (i := 7) sc_l_row.nd rfl (.inl rfl) (pe_lstS pa_nil))
      (pss_cons (ps_for PassesOwn.never rfl (pi_list (pe_ix ix_list (pv 5) pe_int (fun _ _ => rfl))) (pg_name (i := 8) sc_l_row.nd rfl (.inl rfl))
      (pss_cons (ps_set (i := 9) sc_l_row.nd rfl (.inl rfl) (pe_lstS pa_nil))
      (pss_cons (ps_if (pt_cmpR op_ge (pe_ix ix_tup (pv 6) (pe_ix ix_list (pv 8) pe_int (fun _ _ => rfl)) (fun _ _ => rfl)) pe_int (nomark _)) (pss_cons (ps_for PassesOwn.never rfl (pi_range1 (by rfl) T.b_range (pa_cons (pe_call (ok_l_draw T) (hr.mono (by omega)) rfl T.m_l_draw T.k_l_draw T.a_l_draw .nil pass0 (pa_cons (pv 0) (pa_cons (pe_op op_add (pv 3) pe_int) pa_nil))) pa_nil)) (pg_name (i := 10) sc_l_row.nd rfl (.inl rfl))
      (pss_cons (ps_set (i := 11) sc_l_row.nd rfl (.inl rfl) (pe_call (ok_l_count T) (hr.mono (by omega)) rfl T.m_l_count T.k_l_count T.a_l_count .nil pass0 (pa_cons (pv 0) (pa_cons (pv 4) pa_nil))))
      (pss_cons (ps_expr (pe_bm PySem.F.plainAttrs_list PySem.F.slot_list_append PySem.F.type_list_append mt_append (pv 9) (pa_cons (pe_tupS (pa_cons (pv 11) (pa_cons (pe_call ih (hr.mono (by omega)) rfl T.m_l_row T.k_l_row T.a_l_row .nil pass0 (pa_cons (pv 0) (pa_cons (pv 1) (pa_cons (pe_ix ix_list (pv 8) pe_int (fun _ _ => rfl)) (pa_cons (pe_callB (call_max2 rfl) (by rfl) T.b_max (by decide +kernel) (pa_cons pe_int (pa_cons (pe_op op_sub (pv 3) pe_int) pa_nil))) (pa_cons (pv 4) pa_nil)))))) pa_nil))) pa_nil)))
      pss_nil)))
      pss_nil) pss_nil)
      (pss_cons (ps_expr (pe_bm PySem.F.plainAttrs_list PySem.F.slot_list_append PySem.F.type_list_append mt_append (pv 7) (pa_cons (pe_callTy call_tupleD (by rfl) T.b_tuple (by decide +kernel) (pa_cons (pv 9) pa_nil)) pa_nil)))
      pss_nil))))
      (pss_cons (ps_ret (pe_tupS (pa_cons (pv 6) (pa_cons (pe_callTy call_tupleD (by rfl) T.b_tuple (by decide +kernel) (pa_cons (pv 7) pa_nil)) pa_nil))))
      pss_nil))))), ?_⟩
    refine st_set ?_
    obtain ⟨c, hw⟩ := hw
    refine EV.goA (K := K) (en := eHd) (x0 := (ixD heads_here at_)) (ev_op (ev_var (d := (.im ((eL eHd) heads_here))) (i := 1) rfl h5) (ev_vi (i := 2) rfl) (od_ixLm (en := eHd) (xs := heads_here) LsOf.im c)) g.wd fun head_here e v5 H2 wd s2 h6 => ?_
    have hw := hw head_here e
    have g2 := g.same s2
    have hS := hS.same s2
    try dsimp only [gName]
    refine st_norm (σ' := [some (V.ref st), some v4, some (V.int at_), some (V.int most), some (V.bl great), some v5, none, none, none, none, none, none]) rfl ?_
    refine st_set ?_
    refine x_op ?_
    refine EV.goA (K := K) (en := (eL (eT D.int))) (x0 := head_here.kinds) (ev_op (ev_var (d := (.im (eHd head_here))) (i := 5) rfl h6) ev_int (od_ixL (es := [D.str head_here.path, (eL (eH2 D.str D.bl)) head_here.cols, (eL (eH3 D.str D.int D.int)) head_here.links, (eL (eT D.int)) head_here.kinds]) LsOf.im rfl)) g2.wd fun d e2 v6 H3 wd2 s3 h7 => ?_
    have hw := hw d e2
    have g3 := g2.same s3
    have hS2 := hS.same s3
    refine x_call ?_
    refine x_cons ?_
    refine ⟨_, rfl, ?_⟩
    refine x_cons ?_
    have h9 : rV K (mxM M0 []) H3 (.im (eHd head_here)) v5 := (h6.same s3)
    refine EV.go (K := K) (d := (.im (D.int (head_here.kinds.length : Int)))) (ev_cb (eva_cons (ev_op (ev_var (d := (.im (eHd head_here))) (i := 5) rfl h9) ev_int (od_ixL (es := [D.str head_here.path, (eL (eH2 D.str D.bl)) head_here.cols, (eL (eH3 D.str D.int D.int)) head_here.links, (eL (eT D.int)) head_here.kinds]) LsOf.im rfl)) eva_nil) (cd_lenm (en := (eT D.int)) (xs := head_here.kinds) (.inl LsOf.im))) g3.wd fun v8 H5 wd4 s5 h10 => ?_
    have g4 := g3.same s5
    have hS3 := hS2.same s5
    cases (show v8 = (V.int (head_here.kinds.length : Int)) from h10)
    refine x_nil ?_
    refine ⟨mxM M0 [], st, Y, n, (head_here.kinds.length : Int), _, _, rfl, g4.wd, fun y hy => .inl (g4.ys y hy), hS3, ⟨_, _, rfl, rfl, rfl⟩, hw, fun r v9 n2 H6 hw wd5 b hS4 h11 => ?_⟩
    have g5 := g4.call wd5 b
    have l := Gd.lx_call g4 b
    cases (show v9 = (V.int r) from h11)
    obtain ⟨c2, hw⟩ := hw
    have h12 : rV K (mxM M0 []) H6 (.im ((eL (eT D.int)) d)) v6 := (rV.lx l (h7.same s5))
    refine opd_go (K := K) (d := (.im ((eL (eT D.int)) d))) (e := (.im (D.int r))) (f := .im ((eT D.int) (ixD d r))) (od_ixLm (en := (eT D.int)) (xs := d) LsOf.im c2) g5.wd h12 rfl fun v10 H7 wd6 s6 h13 => ?_
    obtain ⟨kind, e3⟩ : ∃ z_ : (List Int), z_ = (ixD d r) := ⟨_, rfl⟩
    have hw := hw kind e3
    rw [← e3] at h13
    have g6 := g5.same s6
    have hS5 := hS4.same s6
    try dsimp only [gName]
    refine st_norm (σ' := [some (V.ref st), some v4, some (V.int at_), some (V.int most), some (V.bl great), some v5, some v10, none, none, none, none, none]) rfl ?_
    refine st_set ?_
    refine EVN.go (K := K) (evn_lst (ds := []) eva_nil (Nat.le_of_ble_eq_true rfl)) g6.wd fun p H8 H9 wd7 s7 np s8 vs2 hp2 hv => ?_
    have g7 := g6.same s7
    have hS6 := hS5.same s7
    have ex := Gd.ex_new (M0 := M0) (Ls := []) s8 np
    have g8 := g7.new s8 np hp2
    have hS7 := hS6.same s8
    have h14 : rV K (mxM M0 [p]) H9 (.mu p (List.map (eT (eP2 D.int eRow)) ([] : (List (List (Int × Row)))))) (V.ref p) := ⟨rfl, vs2, hp2, rDs.mono ex.lx _ _ hv⟩
    try dsimp only [gName]
    refine st_norm (σ' := [some (V.ref st), some v4, some (V.int at_), some (V.int most), some (V.bl great), some v5, some v10, some (V.ref p), none, none, none, none]) rfl ?_
    refine st_for ?_
    have h15 : rV K (mxM M0 [p]) H9 (.im (eHd head_here)) v5 := ((((rV.lx l (h9.same s5)).same s6).same s7).ex ex)
    refine EVI.gom (K := K) (en := (eH3 D.str D.int D.int)) (xs := head_here.links) (evi_list (es := List.map (eH3 D.str D.int D.int) head_here.links) (ev_op (ev_var (d := (.im (eHd head_here))) (i := 5) rfl h15) ev_int (od_ixL (es := [D.str head_here.path, (eL (eH2 D.str D.bl)) head_here.cols, (eL (eH3 D.str D.int D.int)) head_here.links, (eL (eT D.int)) head_here.kinds]) LsOf.im rfl))) g8.wd fun J H10 wd8 s9 wk => ?_
    have g9 := g8.same s9
    have h16 := rV.same s9 h14
    have hS8 := hS7.same s9
    obtain ⟨Inv, hI, hI2, hI3⟩ := hw
    refine st_forit wk (fun i σ' H' => ∃ (sides : (List (List (Int × Row)))) (o : Option V) (o2 : Option V) (o3 : Option V) (o4 : Option V) (n3 : Nat), σ' = [some (V.ref st), some v4, some (V.int at_), some (V.int most), some (V.bl great), some v5, some v10, some (V.ref p), o, o2, o3, o4] ∧ Gd M0 [p] Y H H' ∧ Lx (mxM M0 [p]) (mxM M0 [p]) H10 H' ∧ rV K (mxM M0 [p]) H' (.mu p (List.map (eT (eP2 D.int eRow)) sides)) (V.ref p) ∧ SMA H' st Y n3 ∧ Inv i sides n3) ⟨([] : (List (List (Int × Row)))), _, _, _, _, n2, rfl, g9, Lx.refl, h16, hS8, hI⟩ (fun i σ' H' _ ⟨_, _, _, _, _, _, _, _, hl, _⟩ => ⟨_, hl⟩) ?_ ?_
    · rintro i x2 σ' H11 H12 hi ⟨sides, o, o2, o3, o4, n3, rfl, g10, l2, h17, hS9, hI4⟩ yd
      obtain ⟨link, hy, s10, hr2⟩ := yd_map yd
      have hw := hI2 i link  sides n3 hy hI4
      have hr2 := hr2 _ g10.wd l2
      have g11 := g10.same s10
      have h18 := rV.same s10 h17
      have hS10 := hS9.same s10
      have hr2 : rV K (mxM M0 [p]) H12 (.im ((eH3 D.str D.int D.int) link)) x2 := hr2
      unfold W_l_row_b1 at hw
      try dsimp only [gName]
      refine st_norm (σ' := [some (V.ref st), some v4, some (V.int at_), some (V.int most), some (V.bl great), some v5, some v10, some (V.ref p), some x2, o2, o3, o4]) rfl ?_
      refine st_set ?_
      refine EVN.go (K := K) (evn_lst (ds := []) eva_nil (Nat.le_of_ble_eq_true rfl)) g11.wd fun p2 H13 H14 wd9 s11 np2 s12 vs3 hp3 hv2 => ?_
      have g12 := g11.same s11
      have h19 := rV.same s11 h18
      have hS11 := hS10.same s11
      have ex2 := Gd.ex_new (M0 := M0) (Ls := [p]) s12 np2
      have g13 := g12.new s12 np2 hp3
      have h20 := rV.ex ex2 h19
      have hS12 := hS11.same s12
      have h21 : rV K (mxM M0 [p2, p]) H14 (.mu p2 (List.map (eP2 D.int eRow) ([] : (List (Int × Row))))) (V.ref p2) := ⟨rfl, vs3, hp3, rDs.mono ex2.lx _ _ hv2⟩
      try dsimp only [gName]
      refine st_norm (σ' := [some (V.ref st), some v4, some (V.int at_), some (V.int most), some (V.bl great), some v5, some v10, some (V.ref p), some x2, some (V.ref p2), o3, o4]) rfl ?_
      try dsimp only [gName]
      refine if_cut (fun σ' H' => ∃ (entries : (List (Int × Row))) (o5 : Option V) (o6 : Option V) (n4 : Nat), σ' = [some (V.ref st), some v4, some (V.int at_), some (V.int most), some (V.bl great), some v5, some v10, some (V.ref p), some x2, some (V.ref p2), o5, o6] ∧ Gd M0 [p, p2] Y H H' ∧ Lx (mxM M0 [p2, p]) (mxM M0 [p, p2]) H14 H' ∧ rV K (mxM M0 [p, p2]) H' (.mu p (List.map (eT (eP2 D.int eRow)) sides)) (V.ref p) ∧ rV K (mxM M0 [p, p2]) H' (.mu p2 (List.map (eP2 D.int eRow) entries)) (V.ref p2) ∧ SMA H' st Y n4 ∧ W_l_row_k2 fu heads_here most great kind sides entries n4 P (Inv (i + 1))) (fun nx hnx => ?_) ?_
      · have h23 : rV K (mxM M0 [p2, p]) H14 (.im ((eT D.int) kind)) v10 := ((((rV.lx l2 (((h13.same s7).ex ex).same s9)).same s10).same s11).ex ex2)
        have h24 : rV K (mxM M0 [p2, p]) H14 (.im ((eH3 D.str D.int D.int) link)) x2 := ((hr2.same s11).ex ex2)
        obtain ⟨c3, hw⟩ := hw
        refine EVT.go (b := (decide (0 ≤ (ixD kind link.2.2)))) (evt_test (K := K) (ev_op (ev_op (ev_var (d := (.im ((eT D.int) kind))) (i := 6) rfl h23) (ev_op (ev_var (d := (.im ((eH3 D.str D.int D.int) link))) (i := 8) rfl h24) ev_int (od_ixL (es := [D.str link.1, D.int link.2.1, D.int link.2.2]) LsOf.im rfl)) (od_ixTm (en := D.int) (xs := kind) c3)) ev_int od_ge)) g13.wd fun H15 wd10 s13 => ?_
        have g14 := g13.same s13
        have h25 := rV.same s13 h20
        have h26 := rV.same s13 h21
        have hS13 := hS12.same s13
        refine wite hw (fun hw => ?_) (fun hw => ?_)
        · skip
          have g15 := g14.pick [1, 0] (Ls' := [p, p2]) (by decide) rfl
          have l3 : Lx (mxM M0 [p2, p]) (mxM M0 [p, p2]) H15 H15 := Gd.lx_pick [1, 0] rfl
          have h27 := mu_pick h25 [1, 0] (Ls' := [p, p2]) rfl
          have h28 := mu_pick h26 [1, 0] (Ls' := [p, p2]) rfl
          refine st_for ?_
          refine x_rng1 ?_
          refine x_cons ?_
          refine x_call ?_
          refine x_cons ?_
          refine ⟨_, rfl, ?_⟩
          refine x_cons ?_
          refine EV.go (K := K) (d := (.im (D.int (most + 1)))) (ev_op (ev_vi (i := 3) rfl) ev_int od_add) g15.wd fun v12 H17 wd12 s15 h30 => ?_
          have g16 := g15.same s15
          have h31 := rV.same s15 h27
          have h32 := rV.same s15 h28
          have hS14 := hS13.same s15
          cases (show v12 = (V.int (most + 1)) from h30)
          refine x_nil ?_
          refine ⟨mxM M0 [p, p2], st, Y, n3, (most + 1), _, _, rfl, g16.wd, fun y hy => .inl (g16.ys y hy), hS14, ⟨_, _, rfl, rfl, rfl⟩, hw, fun r2 v13 n5 H18 hw wd13 b2 hS15 h33 => ?_⟩
          have g17 := g16.call wd13 b2
          have l4 := Gd.lx_call g16 b2
          have h34 := mu_call h31 rfl g16 (by simp) b2
          have h35 := mu_call h32 rfl g16 (by simp) b2
          cases (show v13 = (V.int r2) from h33)
          refine x_nil ?_
          obtain ⟨c4, c5, hw⟩ := hw
          refine ⟨r2, rfl, c4, c5, ?_⟩
          have wk2 := wk_range1 (K := K) (M := mxM M0 [p, p2]) (H := H18) (n := r2)
          obtain ⟨Inv2, hI5, hI6, hI7⟩ := hw
          refine st_forit wk2 (fun i σ' H' => ∃ (entries2 : (List (Int × Row))) (o7 : Option V) (o8 : Option V) (n6 : Nat), σ' = [some (V.ref st), some v4, some (V.int at_), some (V.int most), some (V.bl great), some v5, some v10, some (V.ref p), some x2, some (V.ref p2), o7, o8] ∧ Gd M0 [p, p2] Y H H' ∧ Lx (mxM M0 [p, p2]) (mxM M0 [p, p2]) H18 H' ∧ rV K (mxM M0 [p, p2]) H' (.mu p (List.map (eT (eP2 D.int eRow)) sides)) (V.ref p) ∧ rV K (mxM M0 [p, p2]) H' (.mu p2 (List.map (eP2 D.int eRow) entries2)) (V.ref p2) ∧ SMA H' st Y n6 ∧ Inv2 i entries2 n6) ⟨([] : (List (Int × Row))), _, _, n5, rfl, g17, Lx.refl, h34, h35, hS15, hI5⟩ (fun i σ' H' _ ⟨_, _, _, _, _, _, hl, _⟩ => ⟨_, hl⟩) ?_ ?_
          · rintro i2 x3 σ' H19 H20 hi2 ⟨entries2, o7, o8, n6, rfl, g18, l5, h37, h36, hS16, hI8⟩ yd2
            obtain ⟨k, hy2, s16, hr3⟩ := yd_map yd2
            have hw := hI6 i2 k  entries2 n6 hy2 hI8
            have hr3 := hr3 _ g18.wd l5
            have g19 := g18.same s16
            have h38 := rV.same s16 h37
            have h39 := rV.same s16 h36
            have hS17 := hS16.same s16
            cases (show x3 = (V.int k) from hr3)
            unfold W_l_row_b3 at hw
            try dsimp only [gName]
            refine st_norm (σ' := [some (V.ref st), some v4, some (V.int at_), some (V.int most), some (V.bl great), some v5, some v10, some (V.ref p), some x2, some (V.ref p2), some (V.int k), o8]) rfl ?_
            refine st_set ?_
            refine x_call ?_
            refine x_cons ?_
            refine ⟨_, rfl, ?_⟩
            refine x_cons ?_
            refine EV.go (K := K) (d := (.im (D.bl great))) (ev_vb (i := 4) rfl) g19.wd fun v15 H22 wd15 s18 h41 => ?_
            have g20 := g19.same s18
            have h42 := rV.same s18 h38
            have h43 := rV.same s18 h39
            have hS18 := hS17.same s18
            cases (show v15 = (V.bl great) from h41)
            refine x_nil ?_
            refine ⟨mxM M0 [p, p2], st, Y, n6, great, _, _, rfl, g20.wd, fun y hy => .inl (g20.ys y hy), hS18, ⟨_, _, rfl, rfl, rfl⟩, hw, fun count_here2 v16 n7 H23 hw wd16 b3 hS19 h44 => ?_⟩
            have g21 := g20.call wd16 b3
            have l6 := Gd.lx_call g20 b3
            have h45 := mu_call h42 rfl g20 (by simp) b3
            have h46 := mu_call h43 rfl g20 (by simp) b3
            cases (show v16 = (V.int count_here2) from h44)
            try dsimp only [gName]
            refine st_norm (σ' := [some (V.ref st), some v4, some (V.int at_), some (V.int most), some (V.bl great), some v5, some v10, some (V.ref p), some x2, some (V.ref p2), some (V.int k), some (V.int count_here2)]) rfl ?_
            refine st_expr ?_
            refine x_bm (ev_var (d := (.mu p2 (List.map (eP2 D.int eRow) entries2))) (i := 9) rfl h46) LsOf.mu g21.wd fun v17 H24 wd17 s19 h47 => ?_
            have g22 := g21.same s19
            have h48 := rV.same s19 h45
            have h49 := rV.same s19 h46
            have hS20 := hS19.same s19
            cases h47.1
            refine x_cons ?_
            refine x_tup ?_
            refine x_cons ?_
            refine EV.go (K := K) (d := (.im (D.int count_here2))) (ev_vi (i := 11) rfl) g22.wd fun v18 H25 wd18 s20 h50 => ?_
            have g23 := g22.same s20
            have h51 := rV.same s20 h48
            have h52 := rV.same s20 h49
            have hS21 := hS20.same s20
            cases (show v18 = (V.int count_here2) from h50)
            refine x_cons ?_
            refine x_call ?_
            refine x_cons ?_
            refine ⟨_, rfl, ?_⟩
            refine x_cons ?_
            have h54 : rV K (mxM M0 [p, p2]) H25 (.im ((eL eHd) heads_here)) v4 := (((rV.lx l6 (((rV.lx l5 (rV.lx l4 ((rV.lx l3 (((((rV.lx l2 (((((rV.lx l (((h5.same s2).same s3).same s5)).same s6).same s7).ex ex).same s9)).same s10).same s11).ex ex2).same s13)).same s15))).same s16).same s18)).same s19).same s20)
            refine EV.go (K := K) (d := (.im ((eL eHd) heads_here))) (ev_var (d := (.im ((eL eHd) heads_here))) (i := 1) rfl h54) g23.wd fun v20 H27 wd20 s22 h55 => ?_
            have g24 := g23.same s22
            have h56 := rV.same s22 h51
            have h57 := rV.same s22 h52
            have hS22 := hS21.same s22
            refine x_cons ?_
            have h58 : rV K (mxM M0 [p, p2]) H27 (.im ((eH3 D.str D.int D.int) link)) x2 := ((((rV.lx l6 (((rV.lx l5 (rV.lx l4 ((rV.lx l3 (h24.same s13)).same s15))).same s16).same s18)).same s19).same s20).same s22)
            refine EV.go (K := K) (d := (.im (D.int link.2.1))) (ev_op (ev_var (d := (.im ((eH3 D.str D.int D.int) link))) (i := 8) rfl h58) ev_int (od_ixL (es := [D.str link.1, D.int link.2.1, D.int link.2.2]) LsOf.im rfl)) g24.wd fun v21 H28 wd21 s23 h59 => ?_
            have g25 := g24.same s23
            have h60 := rV.same s23 h56
            have h61 := rV.same s23 h57
            have hS23 := hS22.same s23
            cases (show v21 = (V.int link.2.1) from h59)
            refine x_cons ?_
            refine EV.go (K := K) (d := (.im (D.int (if 1 < (most - 1) then (most - 1) else 1)))) (ev_cb (eva_cons ev_int (eva_cons (ev_op (ev_vi (i := 3) rfl) ev_int od_sub) eva_nil)) cd_max2) g25.wd fun v22 H29 wd22 s24 h62 => ?_
            have g26 := g25.same s24
            have h63 := rV.same s24 h60
            have h64 := rV.same s24 h61
            have hS24 := hS23.same s24
            cases (show v22 = (V.int (if 1 < (most - 1) then (most - 1) else 1)) from h62)
            refine x_cons ?_
            refine EV.go (K := K) (d := (.im (D.bl great))) (ev_vb (i := 4) rfl) g26.wd fun v23 H30 wd23 s25 h65 => ?_
            have g27 := g26.same s25
            have h66 := rV.same s25 h63
            have h67 := rV.same s25 h64
            have hS25 := hS24.same s25
            cases (show v23 = (V.bl great) from h65)
            refine x_nil ?_
            have h68 : rV K (mxM M0 [p, p2]) H30 (.im ((eL eHd) heads_here)) v20 := (((h55.same s23).same s24).same s25)
            refine ⟨mxM M0 [p, p2], st, Y, n7, (heads_here, link.2.1, (if 1 < (most - 1) then (most - 1) else 1), great), _, _, rfl, g27.wd, fun y hy => .inl (g27.ys y hy), hS25, ⟨_, _, rfl, h68, ⟨_, _, rfl, rfl, ⟨_, _, rfl, rfl, ⟨_, _, rfl, rfl, rfl⟩⟩⟩⟩, hw, fun r3 v24 n8 H31 hw wd24 b4 hS26 h69 => ?_⟩
            have g28 := g27.call wd24 b4
            have l7 := Gd.lx_call g27 b4
            have h70 := mu_call h66 rfl g27 (by simp) b4
            have h71 := mu_call h67 rfl g27 (by simp) b4
            have h69 : rV K (mxM M0 [p, p2]) H31 (.im (eRow r3)) v24 := h69
            refine x_nil ?_
            refine ⟨(by show 2 ≤ sizeLine; decide), fun p3 H32 np3 s26 hp4 => ?_⟩
            have h72 : rV K (mxM M0 [p, p2]) H32 (.im ((eP2 D.int eRow) (count_here2, r3))) (V.ref p3) := (show rD K _ (.tup [D.int count_here2, eRow r3]) _ from ⟨_, _, rfl, .inl (g28.wd.new np3 hp4), rDs.same (show rDs K _ [D.int count_here2, eRow r3] _ from ⟨_, _, rfl, rfl, ⟨_, _, rfl, h69, rfl⟩⟩) s26⟩)
            have g29 := g28.same s26
            have h73 := rV.same s26 h70
            have h74 := rV.same s26 h71
            have hS27 := hS26.same s26
            refine x_nil ?_
            obtain ⟨c6, hw⟩ := hw
            refine x_append (d := (eP2 D.int eRow) (count_here2, r3)) h74 h72 (by simp) (by rw [List.length_map]; exact c6) fun H33 ⟨vs4, eu⟩ h75 => ?_
            obtain ⟨entries3, eentries3⟩ : ∃ z_ : (List (Int × Row)), z_ = (entries2 ++ [(count_here2, r3)]) := ⟨_, rfl⟩
            have hw := hw entries3 eentries3
            have h75 : rV K (mxM M0 [p, p2]) H33 (.mu p2 (List.map (eP2 D.int eRow) entries3)) (V.ref p2) := by rw [eentries3, List.map_append]; exact h75
            subst eu
            have g30 : Gd M0 [p, p2] Y H (upd H32 p2 (.lst vs4)) := g29.upd (by simp)
            have l8 : Lx (mxM M0 [p, p2]) (mxM M0 [p, p2]) H32 (upd H32 p2 (.lst vs4)) := Gd.lx_upd (by simp)
            have h76 : rV K (mxM M0 [p, p2]) (upd H32 p2 (.lst vs4)) (.mu p (List.map (eT (eP2 D.int eRow)) sides)) (V.ref p) := mu_upd h73 rfl (nd_ne g29.nd 0 1 rfl rfl (by decide)) (by simp)
            have hS28 : SMA (upd H32 p2 (.lst vs4)) st Y n8 := hS27.updL (g29.noY (by simp))
            exact ⟨entries3, _, _, n8, rfl, g30, ((((((((((((l5.trans (Lx.same s16)).trans (Lx.same s18)).trans l6).trans (Lx.same s19)).trans (Lx.same s20)).trans (Lx.same s22)).trans (Lx.same s23)).trans (Lx.same s24)).trans (Lx.same s25)).trans l7).trans (Lx.same s26)).trans l8), h76, h75, hS28, hw⟩
          · rintro σ' H34 ⟨entries2, o7, o8, n6, rfl, g31, l9, h37, h36, hS16, hI9⟩
            have hw := hI7 entries2 n6 hI9
            unfold W_l_row_k3 at hw
            exact hnx _ _ ⟨entries2, _, _, n6, rfl, g31, (((((Lx.same s13).trans l3).trans (Lx.same s15)).trans l4).trans l9), h37, h36, hS16, hw⟩
        · skip
          have g32 := g14.pick [1, 0] (Ls' := [p, p2]) (by decide) rfl
          have l10 : Lx (mxM M0 [p2, p]) (mxM M0 [p, p2]) H15 H15 := Gd.lx_pick [1, 0] rfl
          have h77 := mu_pick h25 [1, 0] (Ls' := [p, p2]) rfl
          have h78 := mu_pick h26 [1, 0] (Ls' := [p, p2]) rfl
          exact hnx _ _ ⟨([] : (List (Int × Row))), _, _, n3, rfl, g32, ((Lx.same s13).trans l10), h77, h78, hS13, hw⟩
      rintro σ' H35 ⟨entries, o5, o6, n4, rfl, g33, l11, h79, h22, hS29, hw⟩
      try dsimp only [gName]
      refine st_norm (σ' := [some (V.ref st), some v4, some (V.int at_), some (V.int most), some (V.bl great), some v5, some v10, some (V.ref p), some x2, some (V.ref p2), o5, o6]) rfl ?_
      refine st_expr ?_
      refine x_bm (ev_var (d := (.mu p (List.map (eT (eP2 D.int eRow)) sides))) (i := 7) rfl h79) LsOf.mu g33.wd fun v25 H36 wd25 s27 h80 => ?_
      have g34 := g33.same s27
      have h81 := rV.same s27 h79
      have h82 := rV.same s27 h22
      have hS30 := hS29.same s27
      cases h80.1
      refine x_cons ?_
      refine EV.go (K := K) (d := (.im ((eT (eP2 D.int eRow)) entries))) (ev_cb (eva_cons (ev_var (d := (.mu p2 (List.map (eP2 D.int eRow) entries))) (i := 9) rfl h82) eva_nil) (cd_tuple (es := List.map (eP2 D.int eRow) entries) LsOf.mu)) g34.wd fun v26 H37 wd26 s28 h83 => ?_
      have g35 := g34.same s28
      have h84 := rV.same s28 h81
      have h85 := rV.same s28 h82
      have hS31 := hS30.same s28
      refine x_nil ?_
      obtain ⟨c7, hw⟩ := hw
      refine x_append (d := (eT (eP2 D.int eRow)) entries) h84 h83 (by simp) (by rw [List.length_map]; exact c7) fun H38 ⟨vs5, eu2⟩ h86 => ?_
      obtain ⟨sides2, esides2⟩ : ∃ z_ : (List (List (Int × Row))), z_ = (sides ++ [entries]) := ⟨_, rfl⟩
      have hw := hw sides2 esides2
      have h86 : rV K (mxM M0 [p, p2]) H38 (.mu p (List.map (eT (eP2 D.int eRow)) sides2)) (V.ref p) := by rw [esides2, List.map_append]; exact h86
      subst eu2
      have g36 : Gd M0 [p, p2] Y H (upd H37 p (.lst vs5)) := g35.upd (by simp)
      have l12 : Lx (mxM M0 [p, p2]) (mxM M0 [p, p2]) H37 (upd H37 p (.lst vs5)) := Gd.lx_upd (by simp)
      have h87 : rV K (mxM M0 [p, p2]) (upd H37 p (.lst vs5)) (.mu p2 (List.map (eP2 D.int eRow) entries)) (V.ref p2) := mu_upd h85 rfl (nd_ne g35.nd 1 0 rfl rfl (by decide)) (by simp)
      have hS32 : SMA (upd H37 p (.lst vs5)) st Y n4 := hS31.updL (g35.noY (by simp))
      have g37 := g36.pick [0] (Ls' := [p]) (by decide) rfl
      have l13 : Lx (mxM M0 [p, p2]) (mxM M0 [p]) (upd H37 p (.lst vs5)) (upd H37 p (.lst vs5)) := Gd.lx_pick [0] rfl
      have h88 := mu_pick h86 [0] (Ls' := [p]) rfl
      exact ⟨sides2, _, _, _, _, n4, rfl, g37, ((((((((l2.trans (Lx.same s10)).trans (Lx.same s11)).trans ex2.lx).trans l11).trans (Lx.same s27)).trans (Lx.same s28)).trans l12).trans l13), h88, hS32, hw⟩
    · rintro σ' H39 ⟨sides, o, o2, o3, o4, n3, rfl, g38, l14, h17, hS9, hI10⟩
      have hw := hI3 sides n3 hI10
      unfold W_l_row_k1 at hw
      try dsimp only [gName]
      refine st_norm (σ' := [some (V.ref st), some v4, some (V.int at_), some (V.int most), some (V.bl great), some v5, some v10, some (V.ref p), o, o2, o3, o4]) rfl ?_
      refine st_ret ?_
      have h89 : rV K (mxM M0 [p]) H39 (.im ((eT D.int) kind)) v10 := (rV.lx l14 (((h13.same s7).ex ex).same s9))
      refine EV.go (K := K) (d := (.im (eRow (Row.mk kind sides)))) (by rw [eRow_eq (Row.mk kind sides)]; exact (ev_tup (ds := [(eT D.int) kind, (eT (eT (eP2 D.int eRow))) sides]) (eva_cons (ev_var (d := (.im ((eT D.int) kind))) (i := 6) rfl h89) (eva_cons (ev_cb (eva_cons (ev_var (d := (.mu p (List.map (eT (eP2 D.int eRow)) sides))) (i := 7) rfl h17) eva_nil) (cd_tuple (es := List.map (eT (eP2 D.int eRow)) sides) LsOf.mu)) eva_nil)) (Nat.le_of_ble_eq_true rfl))) g38.wd fun v27 H40 wd27 s29 h90 => ?_
      have g39 := g38.same s29
      have h91 := rV.same s29 h17
      have hS33 := hS9.same s29
      exact kk _ _ _ _ hw g39.w_end g39.bu hS33 (rV.lx Gd.lx_end h90)
theorem ok_l_row (T : Txt K mg a) : ∀ fu : Nat, FnOk P w K mg base CX0 (3 + fu) a.f_l_row a.d_l_row ["_law_state", "_law_heads_here", "_law_at", "_law_most", "_law_great"] (sp_l_row fu K)
  | 0 => T.F_l_row.ok (k := 2) sc_l_row (fun vs H Q E h => by obtain ⟨M0, st, Y, n, x, us, P, rfl, w0, ys, hS, hx, _⟩ := h; exact congrArg Nat.succ hx.len) (fun cdv A outer s H vs Q E hr h => by obtain ⟨M0, st, Y, n, x, us, P, rfl, w0, ys, hS, hx, hS0, kk⟩ := h; exact (no_l_row hS0).elim)
  | fu + 1 => ok_l_row_step T fu (ok_l_row T fu)

end
end Toy

set_option Elab.async false
set_option linter.all false
set_option maxRecDepth 100000
set_option maxHeartbeats 4000000
set_option pp.maxSteps 1500
set_option pp.deepTerms false
namespace Toy
open PySem L2 Lf
section
variable {P : Program} {w : World} {K : PySem.W.Frag} {mg : Str → Option Value} {base : Heap} {a : Ad}

noncomputable instance : DecidableEq Row := fun a b => Classical.propDecidable (a = b)
inductive BR where
  | mk (kind : List Int) (sides : List (List (BR × Int)))
noncomputable instance : DecidableEq BR := fun a b => Classical.propDecidable (a = b)
def BR.kind : BR → List Int
  | .mk k _ => k
def BR.sides : BR → List (List (BR × Int))
  | .mk _ s => s
instance : Inhabited BR := ⟨.mk [] []⟩
mutual
def eBR : BR → D
  | .mk k s => .tup [eT D.int k, .tup (eBSides s)]
def eBSides : List (List (BR × Int)) → List D
  | [] => []
  | e :: s => .tup (eBEnts e) :: eBSides s
def eBEnts : List (BR × Int) → List D
  | [] => []
  | e :: s => eBEnt e :: eBEnts s
def eBEnt : BR × Int → D
  | (r, c) => .tup [eBR r, .int c]
end
theorem eBEnts_map : ∀ es : List (BR × Int), eBEnts es = es.map (eP2 eBR D.int)
  | [] => by rw [eBEnts]; rfl
  | (r, c) :: es => by rw [eBEnts, eBEnts_map es, List.map_cons, eBEnt]; rfl
theorem eBSides_map : ∀ s : List (List (BR × Int)), eBSides s = s.map (eT (eP2 eBR D.int))
  | [] => by rw [eBSides]; rfl
  | e :: s => by rw [eBSides, eBSides_map s, List.map_cons, eBEnts_map]; rfl
theorem eBR_eq (r : BR) : eBR r = .tup [eT D.int r.kind, eT (eT (eP2 eBR D.int)) r.sides] := by
  cases r with
  | mk k s =>
    rw [eBR, eBSides_map]
    rfl
mutual
theorem eqv_row : ∀ x y : Row, PyData.eqv (py (eRow x)) (py (eRow y)) = true ↔ x = y
  | .mk k s, .mk k' s' => by
    rw [eRow, eRow]
    simp only [py, pys, PyData.eqv, PyData.eqvAll, Bool.and_true, Bool.and_eq_true]
    rw [inj_T inj_int k k', eqv_sides s s']
    simp
theorem eqv_sides : ∀ s t : List (List (Int × Row)), PyData.eqvAll (pys (eSides s)) (pys (eSides t)) = true ↔ s = t
  | [], [] => by simp [eSides, pys, PyData.eqvAll]
  | [], _ :: _ => by simp [eSides, pys, PyData.eqvAll]
  | _ :: _, [] => by simp [eSides, pys, PyData.eqvAll]
  | e :: s, f :: t => by
    rw [eSides, eSides]
    simp only [py, pys, PyData.eqv, PyData.eqvAll, Bool.and_eq_true]
    rw [eqv_ents e f, eqv_sides s t]
    simp
theorem eqv_ents : ∀ s t : List (Int × Row), PyData.eqvAll (pys (eEnts s)) (pys (eEnts t)) = true ↔ s = t
  | [], [] => by simp [eEnts, pys, PyData.eqvAll]
  | [], _ :: _ => by simp [eEnts, pys, PyData.eqvAll]
  | _ :: _, [] => by simp [eEnts, pys, PyData.eqvAll]
  | e :: s, f :: t => by
    rw [eEnts, eEnts]
    simp only [pys, PyData.eqvAll, Bool.and_eq_true]
    rw [eqv_ent e f, eqv_ents s t]
    simp
theorem eqv_ent : ∀ x y : Int × Row, PyData.eqv (py (eEnt x)) (py (eEnt y)) = true ↔ x = y
  | (c, r), (c', r') => by
    rw [eEnt, eEnt]
    simp only [py, pys, PyData.eqv, PyData.eqvAll, Bool.and_true, Bool.and_eq_true]
    rw [eqv_row r r']
    simp
end
theorem inj_Row : EqO eRow := fun x y => by
  rw [Bool.eq_iff_iff, eqv_row, decide_eq_true_iff]
mutual
theorem eqv_br : ∀ x y : BR, PyData.eqv (py (eBR x)) (py (eBR y)) = true ↔ x = y
  | .mk k s, .mk k' s' => by
    rw [eBR, eBR]
    simp only [py, pys, PyData.eqv, PyData.eqvAll, Bool.and_true, Bool.and_eq_true]
    rw [inj_T inj_int k k', eqv_bsides s s']
    simp
theorem eqv_bsides : ∀ s t : List (List (BR × Int)), PyData.eqvAll (pys (eBSides s)) (pys (eBSides t)) = true ↔ s = t
  | [], [] => by simp [eBSides, pys, PyData.eqvAll]
  | [], _ :: _ => by simp [eBSides, pys, PyData.eqvAll]
  | _ :: _, [] => by simp [eBSides, pys, PyData.eqvAll]
  | e :: s, f :: t => by
    rw [eBSides, eBSides]
    simp only [py, pys, PyData.eqv, PyData.eqvAll, Bool.and_eq_true]
    rw [eqv_bents e f, eqv_bsides s t]
    simp
theorem eqv_bents : ∀ s t : List (BR × Int), PyData.eqvAll (pys (eBEnts s)) (pys (eBEnts t)) = true ↔ s = t
  | [], [] => by simp [eBEnts, pys, PyData.eqvAll]
  | [], _ :: _ => by simp [eBEnts, pys, PyData.eqvAll]
  | _ :: _, [] => by simp [eBEnts, pys, PyData.eqvAll]
  | e :: s, f :: t => by
    rw [eBEnts, eBEnts]
    simp only [pys, PyData.eqvAll, Bool.and_eq_true]
    rw [eqv_bent e f, eqv_bents s t]
    simp
theorem eqv_bent : ∀ x y : BR × Int, PyData.eqv (py (eBEnt x)) (py (eBEnt y)) = true ↔ x = y
  | (r, c), (r', c') => by
    rw [eBEnt, eBEnt]
    simp only [py, pys, PyData.eqv, PyData.eqvAll, Bool.and_true, Bool.and_eq_true]
    rw [eqv_br r r']
    simp
end
theorem inj_BR : EqO eBR := fun x y => by
  rw [Bool.eq_iff_iff, eqv_br, decide_eq_true_iff]
/-! they can be compared -/
theorem al_ints : ∀ k m : List Int, PySem.W.alikeAll (pys (k.map D.int)) (pys (m.map D.int)) = true
  | [], _ => by rw [List.map_nil, pys]; rfl
  | _ :: _, [] => by simp [pys, PySem.W.alikeAll]
  | i :: k, j :: m => by
    rw [List.map_cons, List.map_cons, pys, pys, PySem.W.alikeAll, al_ints k m]
    simp [py, PySem.W.alike]
theorem al_kind (k m : List Int) : PySem.W.alike (py (eT D.int k)) (py (eT D.int m)) = true := by
  show PySem.W.alike (py (.tup (k.map D.int))) (py (.tup (m.map D.int))) = true
  rw [py, py, PySem.W.alike]
  exact al_ints k m
mutual
theorem al_row : ∀ x y : Row, PySem.W.alike (py (eRow x)) (py (eRow y)) = true
  | .mk k s, .mk k' s' => by
    rw [eRow, eRow]
    simp only [py, pys, PySem.W.alike, PySem.W.alikeAll, Bool.and_true, al_kind k k', al_sides s s']
theorem al_sides : ∀ s t : List (List (Int × Row)), PySem.W.alikeAll (pys (eSides s)) (pys (eSides t)) = true
  | [], _ => by rw [eSides, pys]; rfl
  | _ :: _, [] => by simp [eSides, pys, PySem.W.alikeAll]
  | e :: s, f :: t => by
    rw [eSides, eSides]
    simp only [py, pys, PySem.W.alike, PySem.W.alikeAll, al_ents e f, al_sides s t, Bool.and_true]
theorem al_ents : ∀ s t : List (Int × Row), PySem.W.alikeAll (pys (eEnts s)) (pys (eEnts t)) = true
  | [], _ => by rw [eEnts, pys]; rfl
  | _ :: _, [] => by simp [eEnts, pys, PySem.W.alikeAll]
  | e :: s, f :: t => by
    rw [eEnts, eEnts]
    simp only [pys, PySem.W.alikeAll, al_ent e f, al_ents s t, Bool.and_true]
theorem al_ent : ∀ x y : Int × Row, PySem.W.alike (py (eEnt x)) (py (eEnt y)) = true
  | (c, r), (c', r') => by
    rw [eEnt, eEnt]
    simp only [py, pys, PySem.W.alike, PySem.W.alikeAll, Bool.and_true, al_row r r']
end
mutual
theorem al_br : ∀ x y : BR, PySem.W.alike (py (eBR x)) (py (eBR y)) = true
  | .mk k s, .mk k' s' => by
    rw [eBR, eBR]
    simp only [py, pys, PySem.W.alike, PySem.W.alikeAll, Bool.and_true, al_kind k k', al_bsides s s']
theorem al_bsides : ∀ s t : List (List (BR × Int)), PySem.W.alikeAll (pys (eBSides s)) (pys (eBSides t)) = true
  | [], _ => by rw [eBSides, pys]; rfl
  | _ :: _, [] => by simp [eBSides, pys, PySem.W.alikeAll]
  | e :: s, f :: t => by
    rw [eBSides, eBSides]
    simp only [py, pys, PySem.W.alike, PySem.W.alikeAll, al_bents e f, al_bsides s t, Bool.and_true]
theorem al_bents : ∀ s t : List (BR × Int), PySem.W.alikeAll (pys (eBEnts s)) (pys (eBEnts t)) = true
  | [], _ => by rw [eBEnts, pys]; rfl
  | _ :: _, [] => by simp [eBEnts, pys, PySem.W.alikeAll]
  | e :: s, f :: t => by
    rw [eBEnts, eBEnts]
    simp only [pys, PySem.W.alikeAll, al_bent e f, al_bents s t, Bool.and_true]
theorem al_bent : ∀ x y : BR × Int, PySem.W.alike (py (eBEnt x)) (py (eBEnt y)) = true
  | (r, c), (r', c') => by
    rw [eBEnt, eBEnt]
    simp only [py, pys, PySem.W.alike, PySem.W.alikeAll, Bool.and_true, al_br r r']
end
theorem alk_row : Alk eRow := al_row
theorem alk_br : Alk eBR := al_br
/-! short rows, bags -/
mutual
noncomputable def shortR : Row → Row
  | .mk k s => .mk k (shortS s)
noncomputable def shortS : List (List (Int × Row)) → List (List (Int × Row))
  | [] => []
  | e :: s => nrm eRow (shortL e) :: shortS s
noncomputable def shortL : List (Int × Row) → List (Int × Row)
  | [] => []
  | z :: es => shortZ z :: shortL es
noncomputable def shortZ : Int × Row → Int × Row
  | (c, r) => (c, shortR r)
end
mutual
noncomputable def bagR : Row → BR
  | .mk k s => .mk k (bagS s)
noncomputable def bagS : List (List (Int × Row)) → List (List (BR × Int))
  | [] => []
  | e :: s => srt eBR (bagL e) :: bagS s
noncomputable def bagL : List (Int × Row) → List (Int × BR)
  | [] => []
  | z :: es => bagZ z :: bagL es
noncomputable def bagZ : Int × Row → Int × BR
  | (c, r) => (c, bagR r)
end
noncomputable def shortE (es : List (Int × Row)) : List (Int × Row) := nrm eRow (es.map fun z => (z.1, shortR z.2))
noncomputable def bagE (es : List (Int × Row)) : List (BR × Int) := srt eBR (es.map fun z => (z.1, bagR z.2))
theorem shortL_map : ∀ es : List (Int × Row), shortL es = es.map fun z => (z.1, shortR z.2)
  | [] => by rw [shortL]; rfl
  | (c, r) :: es => by rw [shortL, shortL_map es, List.map_cons, shortZ]
theorem shortS_map : ∀ s : List (List (Int × Row)), shortS s = s.map shortE
  | [] => by rw [shortS]; rfl
  | e :: s => by rw [shortS, shortS_map s, List.map_cons, shortL_map]; rfl
theorem shortR_eq (r : Row) : shortR r = Row.mk r.kind (r.sides.map shortE) := by
  cases r with
  | mk k s => rw [shortR, shortS_map]; rfl
theorem bagL_map : ∀ es : List (Int × Row), bagL es = es.map fun z => (z.1, bagR z.2)
  | [] => by rw [bagL]; rfl
  | (c, r) :: es => by rw [bagL, bagL_map es, List.map_cons, bagZ]
theorem bagS_map : ∀ s : List (List (Int × Row)), bagS s = s.map bagE
  | [] => by rw [bagS]; rfl
  | e :: s => by rw [bagS, bagS_map s, List.map_cons, bagL_map]; rfl
theorem bagR_eq (r : Row) : bagR r = BR.mk r.kind (r.sides.map bagE) := by
  cases r with
  | mk k s => rw [bagR, bagS_map]; rfl
/-! sizes -/
def RD : Nat → Row → Prop
  | 0, _ => False
  | k + 1, r => r.sides.length ≤ 100 ∧ ∀ es ∈ r.sides, es.length ≤ 1000 ∧ ∀ z ∈ es, 0 ≤ z.1 ∧ RD k z.2
theorem RD.mono : ∀ {k : Nat} {r : Row}, RD k r → RD (k + 1) r
  | 0, _, h => h.elim
  | k + 1, r, h => ⟨h.1, fun es he => ⟨(h.2 es he).1, fun z hz => ⟨((h.2 es he).2 z hz).1, RD.mono ((h.2 es he).2 z hz).2⟩⟩⟩
theorem shL_nn {es : List (Int × Row)} (h : ∀ z ∈ es, 0 ≤ z.1) : ∀ z ∈ es.map fun z => (z.1, shortR z.2), 0 ≤ z.1 := fun z hz => by
  obtain ⟨y, hy, rfl⟩ := List.mem_map.mp hz
  exact h y hy
theorem bgL_nn {es : List (Int × Row)} (h : ∀ z ∈ es, 0 ≤ z.1) : ∀ z ∈ es.map fun z => (z.1, bagR z.2), 0 ≤ z.1 := fun z hz => by
  obtain ⟨y, hy, rfl⟩ := List.mem_map.mp hz
  exact h y hy
theorem shortE_mem {es : List (Int × Row)} (h : ∀ z ∈ es, 0 ≤ z.1) {z : Int × Row} (hz : z ∈ shortE es) : 0 < z.1 ∧ ∃ y ∈ es, z.2 = shortR y.2 := by
  obtain ⟨h1, y, hy, e⟩ := nrm_pos (shL_nn h) hz
  obtain ⟨x, hx, rfl⟩ := List.mem_map.mp hy
  exact ⟨h1, x, hx, e.symm⟩
theorem shortE_len {es : List (Int × Row)} (h : ∀ z ∈ es, 0 ≤ z.1) : (shortE es).length ≤ es.length := by
  have := nrm_len (en := eRow) (shL_nn h)
  rw [List.length_map] at this
  exact this
theorem short_rd : ∀ {k : Nat} {r : Row}, RD k r → RD k (shortR r)
  | 0, _, h => h.elim
  | k + 1, r, h => by
    rw [shortR_eq]
    refine ⟨by show (r.sides.map shortE).length ≤ 100; rw [List.length_map]; exact h.1, fun es he => ?_⟩
    obtain ⟨fs, hf, rfl⟩ := List.mem_map.mp (show es ∈ r.sides.map shortE from he)
    obtain ⟨h1, h2⟩ := h.2 fs hf
    refine ⟨Nat.le_trans (shortE_len fun z hz => (h2 z hz).1) h1, fun z hz => ?_⟩
    obtain ⟨c, y, hy, e⟩ := shortE_mem (fun z hz => (h2 z hz).1) hz
    rw [e]
    exact ⟨Int.le_of_lt c, short_rd (h2 y hy).2⟩
theorem wsum_congr {α : Type} {g f : α → Int} {es : List (Int × α)} (h : ∀ z ∈ es, g z.2 = f z.2) : wsum g es = wsum f es := by
  unfold wsum
  rw [List.map_congr_left fun z hz => by rw [h z hz]]
theorem bag_shortE {es : List (Int × Row)} (h : ∀ z ∈ es, 0 ≤ z.1) (ih : ∀ z ∈ es, bagR (shortR z.2) = bagR z.2) : bagE (shortE es) = bagE es := by
  have n1 : ∀ z ∈ shortE es, 0 ≤ z.1 := fun z hz => Int.le_of_lt (shortE_mem h hz).1
  refine srt_eq inj_BR alk_br (bgL_nn n1) (bgL_nn h) fun g => ?_
  rw [wsum_map, wsum_map]
  show wsum _ (nrm eRow _) = _
  rw [nrm_ws (shL_nn h), wsum_map]
  exact wsum_congr fun z hz => by rw [ih z hz]
theorem bag_short : ∀ {k : Nat} {r : Row}, RD k r → bagR (shortR r) = bagR r
  | 0, _, h => h.elim
  | k + 1, r, h => by
    rw [bagR_eq, bagR_eq r, shortR_eq]
    show BR.mk r.kind ((r.sides.map shortE).map bagE) = _
    rw [List.map_map]
    congr 1
    refine List.map_congr_left fun es he => ?_
    obtain ⟨h1, h2⟩ := h.2 es he
    exact bag_shortE (fun z hz => (h2 z hz).1) fun z hz => bag_short (h2 z hz).2
theorem short_short : ∀ {k : Nat} {r : Row}, RD k r → shortR (shortR r) = shortR r
  | 0, _, h => h.elim
  | k + 1, r, h => by
    rw [shortR_eq, shortR_eq r]
    show Row.mk r.kind ((r.sides.map shortE).map shortE) = _
    rw [List.map_map]
    congr 1
    refine List.map_congr_left fun es he => ?_
    obtain ⟨h1, h2⟩ := h.2 es he
    have nn : ∀ z ∈ es, 0 ≤ z.1 := fun z hz => (h2 z hz).1
    show nrm eRow ((shortE es).map fun z => (z.1, shortR z.2)) = shortE es
    have e : ((shortE es).map fun z => (z.1, shortR z.2)) = shortE es := by
      refine (List.map_congr_left fun z hz => ?_).trans (List.map_id _)
      obtain ⟨_, y, hy, e⟩ := shortE_mem nn hz
      show (z.1, shortR z.2) = z
      rw [e, short_short (h2 y hy).2, ← e]
    rw [e]
    exact nrm_nrm inj_Row alk_row (shL_nn nn)
/-- what the law calls short -/
def ShR : Nat → Row → Prop
  | 0, _ => False
  | k + 1, r => ∀ es ∈ r.sides, (∀ z ∈ es, 0 < z.1 ∧ ShR k z.2) ∧ es.Pairwise fun x y => ltD eRow x.2 y.2 = true
theorem short_is : ∀ {k : Nat} {r : Row}, RD k r → ShR k (shortR r)
  | 0, _, h => h.elim
  | k + 1, r, h => by
    rw [shortR_eq]
    intro es he
    obtain ⟨fs, hf, rfl⟩ := List.mem_map.mp (show es ∈ r.sides.map shortE from he)
    obtain ⟨h1, h2⟩ := h.2 fs hf
    have nn : ∀ z ∈ fs, 0 ≤ z.1 := fun z hz => (h2 z hz).1
    refine ⟨fun z hz => ?_, srt_rise inj_Row alk_row (shL_nn nn)⟩
    obtain ⟨c, y, hy, e⟩ := shortE_mem nn hz
    rw [e]
    exact ⟨c, short_is (h2 y hy).2⟩
/-! shapes -/
theorem tup_shp {α : Type} {en : α → D} {xs : List α} {n : Nat} (h : ∀ x ∈ xs, pur (en x) = true ∧ dep (en x) ≤ n) : pur (eT en xs) = true ∧ dep (eT en xs) ≤ n + 1 := by
  constructor
  · show pur (.tup (xs.map en)) = true
    rw [pur, purs_all, List.all_map, List.all_eq_true]
    exact fun x hx => (h x hx).1
  · show dep (.tup (xs.map en)) ≤ n + 1
    rw [dep]
    have := deps_le (ds := xs.map en) (n := n) fun d hd => by
      obtain ⟨x, hx, rfl⟩ := List.mem_map.mp hd
      exact (h x hx).2
    omega
theorem two_shp {a b : D} {n : Nat} (ha : pur a = true ∧ dep a ≤ n) (hb : pur b = true ∧ dep b ≤ n) : pur (.tup [a, b]) = true ∧ dep (.tup [a, b]) ≤ n + 1 := by
  constructor
  · simp only [pur, purs, ha.1, hb.1]; rfl
  · simp only [dep, deps]; omega
theorem int_shp {i : Int} {n : Nat} : pur (.int i) = true ∧ dep (.int i) ≤ n := ⟨rfl, Nat.zero_le _⟩
theorem kind_shp {k : List Int} {n : Nat} (h : 1 ≤ n) : pur (eT D.int k) = true ∧ dep (eT D.int k) ≤ n := by
  obtain ⟨h1, h2⟩ := tup_shp (en := D.int) (xs := k) (n := 0) fun x _ => int_shp
  exact ⟨h1, by omega⟩
theorem le_deps {ds : List D} {d : D} (h : d ∈ ds) : dep d ≤ deps ds := by
  induction ds with
  | nil => cases h
  | cons e ds ih =>
    rw [deps]
    rcases List.mem_cons.mp h with rfl | m
    · exact Nat.le_max_left _ _
    · exact Nat.le_trans (ih m) (Nat.le_max_right _ _)
theorem row_shp : ∀ {k : Nat} {r : Row}, RD k r → pur (eRow r) = true ∧ dep (eRow r) ≤ 4 * k
  | 0, _, h => h.elim
  | k + 1, r, h => by
    rw [eRow_eq]
    have := two_shp (n := 4 * k + 3) (kind_shp (k := r.kind) (by omega)) (tup_shp (en := eT (eP2 D.int eRow)) (xs := r.sides) (n := 4 * k + 2) fun es he =>
      tup_shp (en := eP2 D.int eRow) (xs := es) (n := 4 * k + 1) fun z hz => two_shp (n := 4 * k) int_shp (row_shp ((h.2 es he).2 z hz).2))
    exact ⟨this.1, by have := this.2; omega⟩
theorem br_shp : ∀ {k : Nat} {r : Row}, RD k r → pur (eBR (bagR r)) = true ∧ dep (eBR (bagR r)) ≤ 4 * k
  | 0, _, h => h.elim
  | k + 1, r, h => by
    rw [eBR_eq, bagR_eq]
    have := two_shp (n := 4 * k + 3) (kind_shp (k := r.kind) (by omega)) (tup_shp (en := eT (eP2 eBR D.int)) (xs := r.sides.map bagE) (n := 4 * k + 2) fun es he => by
      obtain ⟨fs, hf, rfl⟩ := List.mem_map.mp he
      obtain ⟨h1, h2⟩ := h.2 fs hf
      refine tup_shp (en := eP2 eBR D.int) (n := 4 * k + 1) fun p hp => ?_
      have m := (sortD_perm _).mem_iff.mp (show p ∈ sortD (eP2 eBR D.int) (mgz (fs.map fun z => (z.1, bagR z.2))) from hp)
      obtain ⟨y, hy, e⟩ := (mg_ok (bgL_nn fun z hz => (h2 z hz).1)).mem _ (List.of_mem_zip m).1
      obtain ⟨x, hx, rfl⟩ := List.mem_map.mp hy
      refine two_shp (n := 4 * k) ?_ int_shp
      rw [← e]
      exact br_shp (h2 x hx).2)
    exact ⟨this.1, Nat.le_trans this.2 (by omega)⟩
theorem srtok {α : Type} {en : α → D} (al : Alk en) {ps : List (α × Int)} (h : ∀ p ∈ ps, pur (en p.1) = true ∧ dep (en p.1) ≤ 50) : SrtOk (eP2 en D.int) ps where
  shp := fun p hp => by
    obtain ⟨h1, h2⟩ := two_shp (a := en p.1) (b := .int p.2) (h p hp) int_shp
    exact ⟨h1, Nat.le_trans h2 (by decide)⟩
  al := fun x _ y _ => al.pair x y
  nt := .inl fun x _ => ⟨_, _, py_pair x⟩

end
end Toy

set_option Elab.async false
set_option linter.all false
set_option maxRecDepth 100000
set_option maxHeartbeats 4000000
set_option pp.maxSteps 1500
set_option pp.deepTerms false
namespace Toy
open PySem L2 Lf
section
variable {P : Program} {w : World} {K : PySem.W.Frag} {mg : Str → Option Value} {base : Heap} {a : Ad}

def pre_sE (fu : Nat) (es : List (Int × Row)) : Prop := fu ≤ 8 ∧ es.length ≤ 1000 ∧ ∀ z ∈ es, 0 ≤ z.1 ∧ RD fu z.2
def pre_sR (fu : Nat) (r : Row) : Prop := fu ≤ 8 ∧ RD fu r
theorem no_short_row {r : Row} (h : pre_sR 0 r) : False := h.2
theorem snoc_take {α : Type} {xs : List α} {i : Nat} {x : α} (h : xs[i]? = some x) : xs.take (i + 1) = xs.take i ++ [x] := by
  rw [List.take_add_one, h]
  rfl
theorem take_nn {es : List (Int × Row)} {P : Int × Row → Prop} (h : ∀ z ∈ es, P z) (i : Nat) : ∀ z ∈ es.take i, P z := fun z hz => h z (List.mem_of_mem_take hz)
def W_short_row (fu : Nat) (row : Row) (P : Row → Prop) : Prop :=
  ∀ d : Row, d = row → ∀ kind : (List Int), kind = d.kind → ∀ sides : (List (List (Int × Row))), sides = d.sides → (sides.length ≤ sizeLine) ∧ (∀ entries ∈ sides, pre_sE fu entries) ∧ P (Row.mk kind (sides.map fun (entries : (List (Int × Row))) => (shortE entries)))
def W_short_entries_k2 (fu : Nat) (rows2 : (List Row)) (counts2 : (List Int)) (z : (Int × Row)) (own : Row) (P : (List (Int × Row)) → Prop) (nx : (List Row) → (List Int) → Prop) : Prop :=
  nx rows2 counts2
def W_short_entries_k3 (fu : Nat) (rows3 : (List Row)) (counts4 : (List Int)) (z : (Int × Row)) (own : Row) (P : (List (Int × Row)) → Prop) (nx : (List Row) → (List Int) → Prop) : Prop :=
  W_short_entries_k2 fu rows3 counts4 z own P nx
def W_short_entries_b1 (fu : Nat) (rows : (List Row)) (counts : (List Int)) (z : (Int × Row)) (P : (List (Int × Row)) → Prop) (nx : (List Row) → (List Int) → Prop) : Prop :=
  (pre_sR fu z.2) ∧ ∀ own : Row, own = (shortR z.2) → ((decide (0 < z.1)) = true → Shp (eRow own)) ∧ ((decide (0 < z.1)) = true → Shp ((eL eRow) rows)) ∧ (if ((decide (0 < z.1)) && (decide (own ∈ rows))) = true then ((Shp (eRow own)) ∧ (Shp ((eL eRow) rows)) ∧ (own ∈ rows) ∧ (InB counts (rows.idxOf own : Int)) ∧ ∀ counts3 : (List Int), counts3 = (setI counts (rows.idxOf own : Int) (ixD counts (rows.idxOf own : Int) + z.1)) → W_short_entries_k2 fu rows counts3 z own P nx) else ((if (decide (0 < z.1)) = true then ((rows.length < sizeLine) ∧ ∀ rows4 : (List Row), rows4 = (rows ++ [own]) → (counts.length < sizeLine) ∧ ∀ counts5 : (List Int), counts5 = (counts ++ [z.1]) → W_short_entries_k3 fu rows4 counts5 z own P nx) else (W_short_entries_k3 fu rows counts z own P nx))))
def W_short_entries_k1 (fu : Nat) (rows : (List Row)) (counts : (List Int)) (P : (List (Int × Row)) → Prop) : Prop :=
  (min rows.length counts.length ≤ sizeLine) ∧ (SrtOk (eP2 eRow D.int) (List.zip rows counts)) ∧ ((sortD (eP2 eRow D.int) (List.zip rows counts)).length ≤ sizeLine) ∧ P ((sortD (eP2 eRow D.int) (List.zip rows counts)).map fun (z2 : (Row × Int)) => (z2.2, z2.1))
def W_short_entries (fu : Nat) (entries : (List (Int × Row))) (P : (List (Int × Row)) → Prop) : Prop :=
  ∃ Inv : Nat → (List Row) → (List Int) → Prop, Inv 0 ([] : (List Row)) ([] : (List Int)) ∧ (∀ (i : Nat) (z : (Int × Row)) (rows : (List Row)) (counts : (List Int)), entries[i]? = some z → Inv i rows counts → W_short_entries_b1 fu rows counts z P (Inv (i + 1))) ∧ (∀ (rows : (List Row)) (counts : (List Int)), Inv entries.length rows counts → W_short_entries_k1 fu rows counts P)
theorem dW_short_entries {fu : Nat} {es : List (Int × Row)} (hp : pre_sE fu es) (P : List (Int × Row) → Prop) (hP : P (shortE es)) : W_short_entries fu es P := by
  obtain ⟨h8, hl, hz⟩ := hp
  have sl := sizeLine_eq
  have okI : ∀ i, MgOk ((es.take i).map fun z => (z.1, shortR z.2)) (mg ((es.take i).map fun z => (z.1, shortR z.2))) := fun i => mg_ok (shL_nn (take_nn (fun z hz' => (hz z hz').1) i))
  have shps : ∀ i, ∀ x ∈ (mg ((es.take i).map fun z => (z.1, shortR z.2))).1, pur (eRow x) = true ∧ dep (eRow x) ≤ 50 := fun i x hx => by
    obtain ⟨y, hy, rfl⟩ := (okI i).mem x hx
    obtain ⟨u, hu, rfl⟩ := List.mem_map.mp hy
    obtain ⟨a1, a2⟩ := row_shp (short_rd (hz u (List.mem_of_mem_take hu)).2)
    exact ⟨a1, by dsimp only; omega⟩
  refine ⟨fun i rows counts => (rows, counts) = mg ((es.take i).map fun z => (z.1, shortR z.2)), rfl, ?_, ?_⟩
  · rintro i z rows counts hi e
    have zm := List.mem_of_getElem? hi
    have il := (List.getElem?_eq_some_iff.mp hi).1
    have ok := okI i
    have sh := shps i
    have st : mgS (rows, counts) (z.1, shortR z.2) = mg ((es.take (i + 1)).map fun z => (z.1, shortR z.2)) := by
      rw [snoc_take hi, List.map_append, List.map_singleton, mg_snoc, ← e]
    rw [← e] at ok sh
    have l2 := ok.le
    have l3 := ok.len
    rw [List.length_map, List.length_take] at l2
    dsimp only at l2 l3 sh
    unfold W_short_entries_b1
    refine ⟨⟨h8, (hz z zm).2⟩, ?_⟩
    rintro own rfl
    have so : Shp (eRow (shortR z.2)) := by
      obtain ⟨a1, a2⟩ := row_shp (short_rd (hz z zm).2)
      exact ⟨a1, by omega⟩
    have sL : Shp (eL eRow rows) := Shp.list fun x hx => ⟨(sh x hx).1, by have := (sh x hx).2; omega⟩
    refine ⟨fun _ => so, fun _ => sL, ?_⟩
    unfold mgS at st
    dsimp only at st
    by_cases c1 : 0 < z.1 ∧ shortR z.2 ∈ rows
    · rw [if_pos (by simp [c1.1, c1.2])]
      rw [if_pos c1] at st
      have jl := List.idxOf_lt_length_of_mem c1.2
      refine ⟨so, sL, c1.2, ⟨by omega, by omega⟩, ?_⟩
      rintro _ rfl
      exact st
    · rw [if_neg (by simpa using c1)]
      rw [if_neg c1] at st
      by_cases c2 : 0 < z.1
      · rw [if_pos (decide_eq_true c2)]
        rw [if_pos c2] at st
        refine ⟨by omega, ?_⟩
        rintro _ rfl
        refine ⟨by omega, ?_⟩
        rintro _ rfl
        exact st
      · rw [if_neg (by simpa using c2)]
        rw [if_neg c2] at st
        exact st
  · rintro rows counts e
    have ok := okI es.length
    have sh := shps es.length
    rw [← e] at ok sh
    rw [List.take_length] at e
    have l2 := ok.le
    have l3 := ok.len
    rw [List.length_map, List.length_take] at l2
    dsimp only at l2 l3 sh
    refine ⟨by omega, srtok alk_row fun p hp => sh _ (List.of_mem_zip hp).1, by rw [(sortD_perm _).length_eq, List.length_zip]; omega, ?_⟩
    have : shortE es = (sortD (eP2 eRow D.int) (List.zip rows counts)).map fun (z2 : Row × Int) => (z2.2, z2.1) := by
      unfold shortE nrm srt mgz
      rw [← e]
    rw [← this]
    exact hP
theorem dW_short_row {fu : Nat} {r : Row} (hp : pre_sR (fu + 1) r) (P : Row → Prop) (hP : P (shortR r)) : W_short_row fu r P := by
  rintro _ rfl _ rfl _ rfl
  obtain ⟨h8, h1, h2⟩ := hp
  have sl := sizeLine_eq
  refine ⟨by omega, fun es he => ⟨by omega, (h2 es he).1, (h2 es he).2⟩, ?_⟩
  rw [shortR_eq] at hP
  exact hP
def sp_short_row (fu : Nat) (K : PySem.W.Frag) : Sp := spF K (fun (x : Row) => [eRow x]) eRow (fun (x : Row) => pre_sR fu x) (fun (x : Row) => shortR x)
theorem cd_short_row {E : XK} (fu : Nat) (row : Row) (hp : pre_sR fu row) : CaD K (fun vs H Q => sp_short_row fu K vs H Q E) [.im (eRow row)] (.im (eRow (shortR row))) := cd_fn (ens := (fun (x : Row) => [eRow x])) (er := eRow) row hp

def sp_short_entries (fu : Nat) (K : PySem.W.Frag) : Sp := spF K (fun (x : (List (Int × Row))) => [(eT (eP2 D.int eRow)) x]) (eT (eP2 D.int eRow)) (fun (x : (List (Int × Row))) => pre_sE fu x) (fun (x : (List (Int × Row))) => shortE x)
theorem cd_short_entries {E : XK} (fu : Nat) (entries : (List (Int × Row))) (hp : pre_sE fu entries) : CaD K (fun vs H Q => sp_short_entries fu K vs H Q E) [.im ((eT (eP2 D.int eRow)) entries)] (.im ((eT (eP2 D.int eRow)) (shortE entries))) := cd_fn (ens := (fun (x : (List (Int × Row))) => [(eT (eP2 D.int eRow)) x])) (er := (eT (eP2 D.int eRow))) entries hp
theorem sc_short_entries : FnScope ["entries", "rows", "counts", "count", "other", "own"] ["entries"] (defScope s_short_entries) := ⟨rfl, rfl, rfl, by decide +kernel, rfl, by decide +kernel, by decide +kernel⟩
theorem ok_short_entries (T : Txt K mg a) (fu : Nat) (ih : FnOk P w K mg base CX0 (1 + 2 * fu) a.f_short_row a.d_short_row ["row"] (sp_short_row fu K)) : FnOk P w K mg base CX0 (1 + 2 * fu + 1) a.f_short_entries a.d_short_entries ["entries"] (sp_short_entries fu K) := by
  refine T.F_short_entries.ok (k := 1 + 2 * fu) sc_short_entries (fun vs H Q E h => ?_) (fun cdv A outer s H vs Q E hr h => ?_)
  · obtain ⟨M0, x, w0, hx, _⟩ := h
    exact hx.len
  · obtain ⟨M0, x, w0, hx, hp, kq⟩ := h
    obtain ⟨entries, ex⟩ : ∃ z, z = x := ⟨_, rfl⟩
    subst ex
    have hx : rDs K (Fx M0 H) [(eT (eP2 D.int eRow)) entries] vs := hx
    obtain ⟨v, _, rfl, h2, rfl⟩ := hx
    obtain ⟨Y, eY⟩ : ∃ Y : List Addr, Y = [] := ⟨_, rfl⟩
    have g : Gd M0 [] Y H H := Gd.start w0 (by rw [eY]; exact fun y h => nomatch h)
    have h2 : rV K (mxM M0 []) H (.im ((eT (eP2 D.int eRow)) entries)) v := rV.lx Gd.lx0 (show rV K M0 H (.im ((eT (eP2 D.int eRow)) entries)) v from h2)
    obtain ⟨P, eP⟩ : ∃ P : (List (Int × Row)) → Prop, P = fun r => r = shortE entries := ⟨_, rfl⟩
    have kk : ∀ r v H2, P r → Wd M0 H2 → Same H H2 → rD K (Fx M0 H2) ((eT (eP2 D.int eRow)) r) v → Q v H2 := fun r v H2 e => by rw [eP] at e; rw [show r = shortE entries from e]; exact kq v H2
    have hw : W_short_entries fu entries P := dW_short_entries hp P (by rw [eP])
    unfold W_short_entries at hw
    refine ⟨_, (pss_cons (ps_par (i := 1) (j := 2) (by rfl) sc_short_entries.nd rfl rfl (by decide) rfl rfl (pa_cons (pe_lstS pa_nil) (pa_cons (pe_lstS pa_nil) pa_nil)) (by rfl))
      (pss_cons (ps_for PassesOwn.never rfl (pi_tup (pv 0)) (pg_tup rfl (pgs_cons (pg_name (i := 3) sc_short_entries.nd rfl (.inl rfl)) (pgs_cons (pg_name (i := 4) sc_short_entries.nd rfl (.inl rfl)) pgs_nil)))
      (pss_cons (ps_set (i := 5) sc_short_entries.nd rfl (.inl rfl) (pe_call ih (hr.mono (by omega)) rfl T.m_short_row T.k_short_row T.a_short_row .nil pass0 (pa_cons (pv 4) pa_nil)))
      (pss_cons (ps_if (PW.pt (pw_and (pt_cmpR op_gt (pv 3) pe_int (nomark _)) (pw_and1 (pt_cmpR (op_inD (un65 hr)) (pv 5) (pv 1) rfl)))) (pss_cons (ps_augS (pv 2) (pe_bm PySem.F.plainAttrs_list PySem.F.slot_list_index PySem.F.type_list_index (mt_indexD (un65 hr)) (pv 1) (pa_cons (pv 5) pa_nil)) get_list (pv 3) ip_addI set_list)
      pss_nil) (pss_cons (ps_if (pt_cmpR op_gt (pv 3) pe_int (nomark _)) (pss_cons (ps_expr (pe_bm PySem.F.plainAttrs_list PySem.F.slot_list_append PySem.F.type_list_append mt_append (pv 1) (pa_cons (pv 5) pa_nil)))
      (pss_cons (ps_expr (pe_bm PySem.F.plainAttrs_list PySem.F.slot_list_append PySem.F.type_list_append mt_append (pv 2) (pa_cons (pv 3) pa_nil)))
      pss_nil)) pss_nil)
      pss_nil))
      pss_nil)))
      (pss_cons (ps_ret (pe_callTy call_tupleD (by rfl) T.b_tuple (by decide +kernel) (pa_cons (pe_lc (own := [("own", 5), ("count", 3)]) (g := gTup K 2 (gCons (gName 5) (gCons (gName 3) gNil))) (tt := tYes) (te := (tTupS (tCons (tVar 3) (tCons (tVar 5) tNil)))) rfl sc_short_entries.nd (pi_list (pe_callB (cr_sortedD (un65 hr)) (by rfl) T.b_sorted (by decide +kernel) (pa_cons (pe_lzip rfl (by rfl) T.b_list (by rfl) T.b_zip (pa_cons (pv 1) (pa_cons (pv 2) pa_nil))) pa_nil))) (blkOk_by (own := [("own", 5), ("count", 3)]) (N := ["entries", "rows", "counts", "count", "other", "own"]) (sc := defScope s_short_entries) (by decide +kernel)) (fun _ _ _ _ _ => (pg_tup rfl (pgs_cons (pg_name (i := 5) sc_short_entries.nd rfl (.inl rfl)) (pgs_cons (pg_name (i := 3) sc_short_entries.nd rfl (.inl rfl)) pgs_nil)))) (fun _ _ _ _ _ => pts_nil) (fun _ _ _ _ _ => (pe_tupS (pa_cons (pv 3) (pa_cons (pv 5) pa_nil))))) pa_nil)))
      pss_nil))), ?_⟩
    refine st_par ?_
    refine x_cons ?_
    refine EVN.go (K := K) (evn_lst (ds := []) eva_nil (Nat.le_of_ble_eq_true rfl)) g.wd fun p H2 H3 wd s2 np s3 vs2 hp2 hv => ?_
    have g2 := g.same s2
    have ex := Gd.ex_new (M0 := M0) (Ls := []) s3 np
    have g3 := g2.new s3 np hp2
    have h3 : rV K (mxM M0 [p]) H3 (.mu p (List.map eRow ([] : (List Row)))) (V.ref p) := ⟨rfl, vs2, hp2, rDs.mono ex.lx _ _ hv⟩
    refine x_cons ?_
    refine EVN.go (K := K) (evn_lst (ds := []) eva_nil (Nat.le_of_ble_eq_true rfl)) g3.wd fun p2 H4 H5 wd2 s4 np2 s5 vs3 hp3 hv2 => ?_
    have g4 := g3.same s4
    have h4 := rV.same s4 h3
    have ex2 := Gd.ex_new (M0 := M0) (Ls := [p]) s5 np2
    have g5 := g4.new s5 np2 hp3
    have h5 := rV.ex ex2 h4
    have h6 : rV K (mxM M0 [p2, p]) H5 (.mu p2 (List.map D.int ([] : (List Int)))) (V.ref p2) := ⟨rfl, vs3, hp3, rDs.mono ex2.lx _ _ hv2⟩
    refine x_nil ?_
    refine ⟨_, _, rfl, ?_⟩
    try dsimp only [gName]
    refine st_norm (σ' := [some v, some (V.ref p), some (V.ref p2), none, none, none]) rfl ?_
    have g6 := g5.pick [1, 0] (Ls' := [p, p2]) (by decide) rfl
    have l : Lx (mxM M0 [p2, p]) (mxM M0 [p, p2]) H5 H5 := Gd.lx_pick [1, 0] rfl
    have h7 := mu_pick h5 [1, 0] (Ls' := [p, p2]) rfl
    have h8 := mu_pick h6 [1, 0] (Ls' := [p, p2]) rfl
    refine st_for ?_
    have h9 : rV K (mxM M0 [p, p2]) H5 (.im ((eT (eP2 D.int eRow)) entries)) v := (rV.lx l ((((h2.same s2).ex ex).same s4).ex ex2))
    refine EVI.gom (K := K) (en := (eP2 D.int eRow)) (xs := entries) (evi_tup (es := List.map (eP2 D.int eRow) entries) (ev_var (d := (.im ((eT (eP2 D.int eRow)) entries))) (i := 0) rfl h9)) g6.wd fun J H6 wd3 s6 wk => ?_
    have g7 := g6.same s6
    have h10 := rV.same s6 h7
    have h11 := rV.same s6 h8
    obtain ⟨Inv, hI, hI2, hI3⟩ := hw
    refine st_forit wk (fun i σ' H' => ∃ (rows : (List Row)) (counts : (List Int)) (o : Option V) (o2 : Option V) (o3 : Option V), σ' = [some v, some (V.ref p), some (V.ref p2), o, o2, o3] ∧ Gd M0 [p, p2] Y H H' ∧ Lx (mxM M0 [p, p2]) (mxM M0 [p, p2]) H6 H' ∧ rV K (mxM M0 [p, p2]) H' (.mu p (List.map eRow rows)) (V.ref p) ∧ rV K (mxM M0 [p, p2]) H' (.mu p2 (List.map D.int counts)) (V.ref p2) ∧ Inv i rows counts) ⟨([] : (List Row)), ([] : (List Int)), _, _, _, rfl, g7, Lx.refl, h10, h11, hI⟩ (fun i σ' H' _ ⟨_, _, _, _, _, _, _, hl, _⟩ => ⟨_, hl⟩) ?_ ?_
    · rintro i x2 σ' H7 H8 hi ⟨rows, counts, o, o2, o3, rfl, g8, l2, h12, h13, hI4⟩ yd
      obtain ⟨z, hy, s7, hr2⟩ := yd_map yd
      have hw := hI2 i z  rows counts hy hI4
      have hr2 := hr2 _ g8.wd l2
      have g9 := g8.same s7
      have h14 := rV.same s7 h12
      have h15 := rV.same s7 h13
      refine g_tup2 (d1 := D.int z.1) (d2 := eRow z.2) hr2 fun v2 v3 h16 h17 => ?_
      cases (show v2 = (V.int z.1) from h16)
      have h17 : rV K (mxM M0 [p, p2]) H8 (.im (eRow z.2)) v3 := h17
      unfold W_short_entries_b1 at hw
      try dsimp only [gName]
      refine st_norm (σ' := [some v, some (V.ref p), some (V.ref p2), some (V.int z.1), some v3, o3]) rfl ?_
      refine st_set ?_
      obtain ⟨c, hw⟩ := hw
      refine EV.goA (K := K) (en := eRow) (x0 := (shortR z.2)) (ev_call (eva_cons (ev_var (d := (.im (eRow z.2))) (i := 4) rfl h17) eva_nil) (cd_short_row fu z.2 c)) g9.wd fun own e v4 H9 wd4 s8 h18 => ?_
      have hw := hw own e
      have g10 := g9.same s8
      have h19 := rV.same s8 h14
      have h20 := rV.same s8 h15
      try dsimp only [gName]
      refine st_norm (σ' := [some v, some (V.ref p), some (V.ref p2), some (V.int z.1), some v3, some v4]) rfl ?_
      try dsimp only [gName]
      refine if_cut (fun σ' H' => ∃ (rows2 : (List Row)) (counts2 : (List Int)), σ' = [some v, some (V.ref p), some (V.ref p2), some (V.int z.1), some v3, some v4] ∧ Gd M0 [p, p2] Y H H' ∧ Lx (mxM M0 [p, p2]) (mxM M0 [p, p2]) H9 H' ∧ rV K (mxM M0 [p, p2]) H' (.mu p (List.map eRow rows2)) (V.ref p) ∧ rV K (mxM M0 [p, p2]) H' (.mu p2 (List.map D.int counts2)) (V.ref p2) ∧ W_short_entries_k2 fu rows2 counts2 z own P (Inv (i + 1))) (fun nx hnx => ?_) ?_
      · obtain ⟨c2, c3, hw⟩ := hw
        refine EVT.go (b := ((decide (0 < z.1)) && (decide (own ∈ rows)))) (evt_and (evt_test (K := K) (ev_op (ev_vi (i := 3) rfl) ev_int od_gt)) fun hb => (evt_test (K := K) (ev_op (ev_var (d := (.im (eRow own))) (i := 5) rfl h18) (ev_var (d := (.mu p (List.map eRow rows))) (i := 1) rfl h19) (od_inD (xs := rows) (en := eRow) inj_Row (c2 hb) (c3 hb) LsOf.mu)))) g10.wd fun H10 wd5 s9 => ?_
        have g11 := g10.same s9
        have h23 := rV.same s9 h19
        have h24 := rV.same s9 h20
        refine wite hw (fun hw => ?_) (fun hw => ?_)
        · skip
          have h25 : rV K (mxM M0 [p, p2]) H10 (.im (eRow own)) v4 := (h18.same s9)
          obtain ⟨c4, c5, c6, c7, hw⟩ := hw
          refine st_augL (xs := counts) (i := (rows.idxOf own : Int)) (y := z.1) (ev_var (d := (.mu p2 (List.map D.int counts))) (i := 2) rfl h24) (ev_bm (es := List.map eRow rows) (ev_var (d := (.mu p (List.map eRow rows))) (i := 1) rfl h23) LsOf.mu (eva_cons (ev_var (d := (.im (eRow own))) (i := 5) rfl h25) eva_nil) (md_indexD (xs := rows) (x := own) (en := eRow) inj_Row c4 c5 LsOf.mu c6)) (ev_vi (i := 3) rfl) g11.wd (by simp) c7 fun H11 wd6 s10 H12 ⟨ws, eu⟩ h26 => ?_
          have g12 := g11.same s10
          have h27 := rV.same s10 h23
          have h28 := rV.same s10 h24
          obtain ⟨counts3, ecounts3⟩ : ∃ z_ : (List Int), z_ = (setI counts (rows.idxOf own : Int) (ixD counts (rows.idxOf own : Int) + z.1)) := ⟨_, rfl⟩
          have hw := hw counts3 ecounts3
          rw [← ecounts3] at h26
          subst eu
          have g13 : Gd M0 [p, p2] Y H (upd H11 p2 (.lst ws)) := g12.upd (by simp)
          have l3 : Lx (mxM M0 [p, p2]) (mxM M0 [p, p2]) H11 (upd H11 p2 (.lst ws)) := Gd.lx_upd (by simp)
          have h29 : rV K (mxM M0 [p, p2]) (upd H11 p2 (.lst ws)) (.mu p (List.map eRow rows)) (V.ref p) := mu_upd h27 rfl (nd_ne g12.nd 0 1 rfl rfl (by decide)) (by simp)
          exact hnx _ _ ⟨rows, counts3, rfl, g13, (((Lx.same s9).trans (Lx.same s10)).trans l3), h29, h26, hw⟩
        · skip
          try dsimp only [gName]
          refine if_cut (fun σ' H' => ∃ (rows3 : (List Row)) (counts4 : (List Int)), σ' = [some v, some (V.ref p), some (V.ref p2), some (V.int z.1), some v3, some v4] ∧ Gd M0 [p, p2] Y H H' ∧ Lx (mxM M0 [p, p2]) (mxM M0 [p, p2]) H10 H' ∧ rV K (mxM M0 [p, p2]) H' (.mu p (List.map eRow rows3)) (V.ref p) ∧ rV K (mxM M0 [p, p2]) H' (.mu p2 (List.map D.int counts4)) (V.ref p2) ∧ W_short_entries_k3 fu rows3 counts4 z own P (Inv (i + 1))) (fun nx hnx => ?_) ?_
          · refine EVT.go (b := (decide (0 < z.1))) (evt_test (K := K) (ev_op (ev_vi (i := 3) rfl) ev_int od_gt)) g11.wd fun H13 wd7 s11 => ?_
            have g14 := g11.same s11
            have h32 := rV.same s11 h23
            have h33 := rV.same s11 h24
            refine wite hw (fun hw => ?_) (fun hw => ?_)
            · skip
              refine st_expr ?_
              refine x_bm (ev_var (d := (.mu p (List.map eRow rows))) (i := 1) rfl h32) LsOf.mu g14.wd fun v5 H14 wd8 s12 h34 => ?_
              have g15 := g14.same s12
              have h35 := rV.same s12 h32
              have h36 := rV.same s12 h33
              cases h34.1
              refine x_cons ?_
              have h37 : rV K (mxM M0 [p, p2]) H14 (.im (eRow own)) v4 := (((h18.same s9).same s11).same s12)
              refine EV.go (K := K) (d := (.im (eRow own))) (ev_var (d := (.im (eRow own))) (i := 5) rfl h37) g15.wd fun v6 H15 wd9 s13 h38 => ?_
              have g16 := g15.same s13
              have h39 := rV.same s13 h35
              have h40 := rV.same s13 h36
              refine x_nil ?_
              obtain ⟨c8, hw⟩ := hw
              refine x_append (d := eRow own) h39 h38 (by simp) (by rw [List.length_map]; exact c8) fun H16 ⟨vs4, eu2⟩ h41 => ?_
              obtain ⟨rows4, erows4⟩ : ∃ z_ : (List Row), z_ = (rows ++ [own]) := ⟨_, rfl⟩
              have hw := hw rows4 erows4
              have h41 : rV K (mxM M0 [p, p2]) H16 (.mu p (List.map eRow rows4)) (V.ref p) := by rw [erows4, List.map_append]; exact h41
              subst eu2
              have g17 : Gd M0 [p, p2] Y H (upd H15 p (.lst vs4)) := g16.upd (by simp)
              have l4 : Lx (mxM M0 [p, p2]) (mxM M0 [p, p2]) H15 (upd H15 p (.lst vs4)) := Gd.lx_upd (by simp)
              have h42 : rV K (mxM M0 [p, p2]) (upd H15 p (.lst vs4)) (.mu p2 (List.map D.int counts)) (V.ref p2) := mu_upd h40 rfl (nd_ne g16.nd 1 0 rfl rfl (by decide)) (by simp)
              refine st_expr ?_
              refine x_bm (ev_var (d := (.mu p2 (List.map D.int counts))) (i := 2) rfl h42) LsOf.mu g17.wd fun v7 H17 wd10 s14 h43 => ?_
              have g18 := g17.same s14
              have h44 := rV.same s14 h41
              have h45 := rV.same s14 h42
              cases h43.1
              refine x_cons ?_
              refine EV.go (K := K) (d := (.im (D.int z.1))) (ev_vi (i := 3) rfl) g18.wd fun v8 H18 wd11 s15 h46 => ?_
              have g19 := g18.same s15
              have h47 := rV.same s15 h44
              have h48 := rV.same s15 h45
              cases (show v8 = (V.int z.1) from h46)
              refine x_nil ?_
              obtain ⟨c9, hw⟩ := hw
              refine x_append (d := D.int z.1) h48 rfl (by simp) (by rw [List.length_map]; exact c9) fun H19 ⟨vs5, eu3⟩ h49 => ?_
              obtain ⟨counts5, ecounts5⟩ : ∃ z_ : (List Int), z_ = (counts ++ [z.1]) := ⟨_, rfl⟩
              have hw := hw counts5 ecounts5
              have h49 : rV K (mxM M0 [p, p2]) H19 (.mu p2 (List.map D.int counts5)) (V.ref p2) := by rw [ecounts5, List.map_append]; exact h49
              subst eu3
              have g20 : Gd M0 [p, p2] Y H (upd H18 p2 (.lst vs5)) := g19.upd (by simp)
              have l5 : Lx (mxM M0 [p, p2]) (mxM M0 [p, p2]) H18 (upd H18 p2 (.lst vs5)) := Gd.lx_upd (by simp)
              have h50 : rV K (mxM M0 [p, p2]) (upd H18 p2 (.lst vs5)) (.mu p (List.map eRow rows4)) (V.ref p) := mu_upd h47 rfl (nd_ne g19.nd 0 1 rfl rfl (by decide)) (by simp)
              exact hnx _ _ ⟨rows4, counts5, rfl, g20, (((((((Lx.same s11).trans (Lx.same s12)).trans (Lx.same s13)).trans l4).trans (Lx.same s14)).trans (Lx.same s15)).trans l5), h50, h49, hw⟩
            · skip
              exact hnx _ _ ⟨rows, counts, rfl, g14, (Lx.same s11), h32, h33, hw⟩
          rintro σ' H20 ⟨rows3, counts4, rfl, g21, l6, h30, h31, hw⟩
          exact hnx _ _ ⟨rows3, counts4, rfl, g21, ((Lx.same s9).trans l6), h30, h31, hw⟩
      rintro σ' H21 ⟨rows2, counts2, rfl, g22, l7, h21, h22, hw⟩
      exact ⟨rows2, counts2, _, _, _, rfl, g22, (((l2.trans (Lx.same s7)).trans (Lx.same s8)).trans l7), h21, h22, hw⟩
    · rintro σ' H22 ⟨rows, counts, o, o2, o3, rfl, g23, l8, h12, h13, hI5⟩
      have hw := hI3 rows counts hI5
      unfold W_short_entries_k1 at hw
      try dsimp only [gName]
      refine st_norm (σ' := [some v, some (V.ref p), some (V.ref p2), o, o2, o3]) rfl ?_
      refine st_ret ?_
      obtain ⟨c12, c13, c14, hw⟩ := hw
      refine EV.go (K := K) (d := (.im ((eT (eP2 D.int eRow)) ((sortD (eP2 eRow D.int) (List.zip rows counts)).map fun (z2 : (Row × Int)) => (z2.2, z2.1))))) (ev_cb (eva_cons (ev_lcmm (fd := fun (z2 : (Row × Int)) => (z2.2, z2.1)) (en2 := (eP2 D.int eRow)) (xs := (sortD (eP2 eRow D.int) (List.zip rows counts))) (en := (eP2 eRow D.int)) (evi_list (es := List.map (eP2 eRow D.int) (sortD (eP2 eRow D.int) (List.zip rows counts))) (ev_cb (eva_cons (ev_lzip (ea := eRow) (eb := D.int) (xs := rows) (ys := counts) (eva_cons (ev_var (d := (.mu p (List.map eRow rows))) (i := 1) rfl h12) (eva_cons (ev_var (d := (.mu p2 (List.map D.int counts))) (i := 2) rfl h13) eva_nil)) LsOf.mu LsOf.mu c12) eva_nil) (cd_sortD (en := (eP2 eRow D.int)) (xs := (List.zip rows counts)) LsOf.im c13))) GI.ex gm_tup2 c14 (fun z2 hy2 M H23 v11 wd12 ex3 h53 => g_tup2 (d1 := eRow z2.1) (d2 := D.int z2.2) h53 fun v9 v10 h51 h52 => ⟨rfl, rfl, (ev_tup (ds := [D.int z2.2, eRow z2.1]) (eva_cons (ev_var (d := (.im (D.int z2.2))) (i := 3) rfl h52) (eva_cons (ev_var (d := (.im (eRow z2.1))) (i := 5) rfl h51) eva_nil)) (Nat.le_of_ble_eq_true rfl))⟩)) eva_nil) (cd_tuple (es := List.map (eP2 D.int eRow) ((sortD (eP2 eRow D.int) (List.zip rows counts)).map fun (z2 : (Row × Int)) => (z2.2, z2.1))) LsOf.im)) g23.wd fun v12 H24 wd13 s16 h54 => ?_
      have g24 := g23.same s16
      have h55 := rV.same s16 h12
      have h56 := rV.same s16 h13
      exact kk _ _ _ hw g24.w_end (Bu.nil g24.bu eY) (rV.lx Gd.lx_end h54)
theorem sc_short_row : FnScope ["row", "kind", "sides", "entries"] ["row"] (defScope s_short_row) := ⟨rfl, rfl, rfl, by decide +kernel, rfl, by decide +kernel, by decide +kernel⟩
theorem ok_short_row_step (T : Txt K mg a) (fu : Nat) (ih : FnOk P w K mg base CX0 (1 + 2 * fu) a.f_short_row a.d_short_row ["row"] (sp_short_row fu K)) : FnOk P w K mg base CX0 (1 + 2 * (fu + 1)) a.f_short_row a.d_short_row ["row"] (sp_short_row (fu + 1) K) := by
  refine T.F_short_row.ok (k := 1 + 2 * fu + 1) sc_short_row (fun vs H Q E h => ?_) (fun cdv A outer s H vs Q E hr h => ?_)
  · obtain ⟨M0, x, w0, hx, _⟩ := h
    exact hx.len
  · obtain ⟨M0, x, w0, hx, hp, kq⟩ := h
    obtain ⟨row, ex⟩ : ∃ z, z = x := ⟨_, rfl⟩
    subst ex
    have hx : rDs K (Fx M0 H) [eRow row] vs := hx
    obtain ⟨v, _, rfl, h2, rfl⟩ := hx
    obtain ⟨Y, eY⟩ : ∃ Y : List Addr, Y = [] := ⟨_, rfl⟩
    have g : Gd M0 [] Y H H := Gd.start w0 (by rw [eY]; exact fun y h => nomatch h)
    have h2 : rV K (mxM M0 []) H (.im (eRow row)) v := rV.lx Gd.lx0 (show rV K M0 H (.im (eRow row)) v from h2)
    obtain ⟨P, eP⟩ : ∃ P : Row → Prop, P = fun r => r = shortR row := ⟨_, rfl⟩
    have kk : ∀ r v H2, P r → Wd M0 H2 → Same H H2 → rD K (Fx M0 H2) (eRow r) v → Q v H2 := fun r v H2 e => by rw [eP] at e; rw [show r = shortR row from e]; exact kq v H2
    have hw : W_short_row fu row P := dW_short_row hp P (by rw [eP])
    unfold W_short_row at hw
    refine ⟨_, (pss_cons (ps_asg (pv 0) (pg_tup rfl (pgs_cons (pg_name (i := 1) sc_short_row.nd rfl (.inl rfl)) (pgs_cons (pg_name (i := 2) sc_short_row.nd rfl (.inl rfl)) pgs_nil))))
      (pss_cons (ps_ret (pe_tupS (pa_cons (pv 1) (pa_cons (pe_callTy call_tupleD (by rfl) T.b_tuple (by decide +kernel) (pa_cons (pe_lc (own := [("entries", 3)]) (g := gName 3) (tt := tYes) (te := (tCall (sp_short_entries fu K) [] E0 (tCons (tVar 3) tNil))) rfl sc_short_row.nd (pi_tup (pv 2)) (blkOk_by (own := [("entries", 3)]) (N := ["row", "kind", "sides", "entries"]) (sc := defScope s_short_row) (by decide +kernel)) (fun _ _ _ _ _ => (pg_name (i := 3) sc_short_row.nd rfl (.inl rfl))) (fun _ _ _ _ _ => pts_nil) (fun _ _ _ _ _ => (pe_call (ok_short_entries T fu ih) (hr.mono (by omega)) rfl T.m_short_entries T.k_short_entries T.a_short_entries .nil pass0 (pa_cons (pv 3) pa_nil)))) pa_nil)) pa_nil))))
      pss_nil)), ?_⟩
    refine st_asgT ?_
    refine EV.goA (K := K) (en := eRow) (x0 := row) (ev_var (d := (.im (eRow row))) (i := 0) rfl h2) g.wd fun d e v2 H2 wd s2 h3 => ?_
    have hw := hw d e
    have g2 := g.same s2
    have h3 : rV K (mxM M0 []) H2 (.im (.tup [(eT D.int) d.kind, (eT (eT (eP2 D.int eRow))) d.sides])) v2 := by rw [eRow_eq d] at h3; exact h3
    refine g_tup2 (d1 := (eT D.int) d.kind) (d2 := (eT (eT (eP2 D.int eRow))) d.sides) h3 fun v3 v4 h4 h5 => ?_
    obtain ⟨kind, e2⟩ : ∃ z_ : (List Int), z_ = d.kind := ⟨_, rfl⟩
    have hw := hw kind e2
    rw [← e2] at h4
    have h4 : rV K (mxM M0 []) H2 (.im ((eT D.int) kind)) v3 := h4
    obtain ⟨sides, e3⟩ : ∃ z_ : (List (List (Int × Row))), z_ = d.sides := ⟨_, rfl⟩
    have hw := hw sides e3
    rw [← e3] at h5
    have h5 : rV K (mxM M0 []) H2 (.im ((eT (eT (eP2 D.int eRow))) sides)) v4 := h5
    try dsimp only [gName]
    refine st_norm (σ' := [some v, some v3, some v4, none]) rfl ?_
    refine st_ret ?_
    obtain ⟨c, c2, hw⟩ := hw
    refine EV.go (K := K) (d := (.im (eRow (Row.mk kind (sides.map fun (entries : (List (Int × Row))) => (shortE entries)))))) (by rw [eRow_eq (Row.mk kind (sides.map fun (entries : (List (Int × Row))) => (shortE entries)))]; exact (ev_tup (ds := [(eT D.int) kind, (eT (eT (eP2 D.int eRow))) (sides.map fun (entries : (List (Int × Row))) => (shortE entries))]) (eva_cons (ev_var (d := (.im ((eT D.int) kind))) (i := 1) rfl h4) (eva_cons (ev_cb (eva_cons (ev_lcmm (fd := fun (entries : (List (Int × Row))) => (shortE entries)) (en2 := (eT (eP2 D.int eRow))) (xs := sides) (en := (eT (eP2 D.int eRow))) (evi_tup (es := List.map (eT (eP2 D.int eRow)) sides) (ev_var (d := (.im ((eT (eT (eP2 D.int eRow))) sides))) (i := 2) rfl h5)) GI.ex gm_name c (fun entries hy M H3 v5 wd2 ex h6 => ⟨rfl, rfl, (ev_call (eva_cons (ev_var (d := (.im ((eT (eP2 D.int eRow)) entries))) (i := 3) rfl h6) eva_nil) (cd_short_entries fu entries (c2 entries hy)))⟩)) eva_nil) (cd_tuple (es := List.map (eT (eP2 D.int eRow)) (sides.map fun (entries : (List (Int × Row))) => (shortE entries))) LsOf.im)) eva_nil)) (Nat.le_of_ble_eq_true rfl))) g2.wd fun v6 H4 wd3 s3 h7 => ?_
    have g3 := g2.same s3
    exact kk _ _ _ hw g3.w_end (Bu.nil g3.bu eY) (rV.lx Gd.lx_end h7)
theorem ok_short_row (T : Txt K mg a) : ∀ fu : Nat, FnOk P w K mg base CX0 (1 + 2 * fu) a.f_short_row a.d_short_row ["row"] (sp_short_row fu K)
  | 0 => T.F_short_row.ok (k := 0) sc_short_row (fun vs H Q E h => by obtain ⟨M0, x, w0, hx, _⟩ := h; exact hx.len) (fun cdv A outer s H vs Q E hr h => by obtain ⟨M0, x, w0, hx, hp, kq⟩ := h; exact (no_short_row hp).elim)
  | fu + 1 => ok_short_row_step T fu (ok_short_row T fu)
end
end Toy

set_option Elab.async false
set_option linter.all false
set_option maxRecDepth 100000
set_option maxHeartbeats 4000000
set_option pp.maxSteps 1500
set_option pp.deepTerms false
namespace Toy
open PySem L2 Lf
section
variable {P : Program} {w : World} {K : PySem.W.Frag} {mg : Str → Option Value} {base : Heap} {a : Ad}

def pre_bE : Nat → List (Int × Row) → Prop
  | 0, _ => False
  | fu + 1, es => fu ≤ 8 ∧ es.length ≤ 1000 ∧ ∀ z ∈ es, 0 ≤ z.1 ∧ RD fu z.2
theorem no_l_bag {es : List (Int × Row)} (h : pre_bE 0 es) : False := h
theorem RD.bags {fu : Nat} {r : Row} (h8 : fu ≤ 9) (h : RD fu r) : ∀ es ∈ r.sides, pre_bE fu es := by
  cases fu with
  | zero => exact h.elim
  | succ f => exact fun es he => ⟨by omega, (h.2 es he).1, (h.2 es he).2⟩
theorem RD.len {fu : Nat} {r : Row} (h : RD fu r) : r.sides.length ≤ 100 := by
  cases fu with
  | zero => exact h.elim
  | succ f => exact h.1
theorem rng_zip {α : Type} [Inhabited α] {rows : List α} {counts : List Int} (h : rows.length = counts.length) : ((rngI 0 (rows.length : Int)).map fun (k : Int) => ((ixD rows k), (ixD counts k))) = rows.zip counts := by
  refine List.ext_getElem? fun i => ?_
  rw [List.getElem?_map]
  by_cases hi : i < rows.length
  · have e1 : rows[i]? = some rows[i] := List.getElem?_eq_getElem hi
    have e2 : counts[i]? = some counts[i] := List.getElem?_eq_getElem (by omega)
    rw [rngI_get (by omega), (List.getElem?_zip_eq_some (z := (rows[i], counts[i]))).mpr ⟨e1, e2⟩, Int.zero_add]
    show some (ixD rows (i : Int), ixD counts (i : Int)) = _
    rw [ixD_nat e1, ixD_nat e2]
  · rw [List.getElem?_eq_none (by rw [rngI_len]; omega), List.getElem?_eq_none (by rw [List.length_zip]; omega)]
    rfl
def W_l_bag_k2 (fu : Nat) (rows2 : (List BR)) (counts2 : (List Int)) (P : (List (BR × Int)) → Prop) (nx : (List BR) → (List Int) → Prop) : Prop :=
  nx rows2 counts2
def W_l_bag_k3 (fu : Nat) (rows3 : (List BR)) (counts4 : (List Int)) (P : (List (BR × Int)) → Prop) (nx : (List BR) → (List Int) → Prop) : Prop :=
  W_l_bag_k2 fu rows3 counts4 P nx
def W_l_bag_b1 (fu : Nat) (rows : (List BR)) (counts : (List Int)) (entry : (Int × Row)) (P : (List (BR × Int)) → Prop) (nx : (List BR) → (List Int) → Prop) : Prop :=
  (entry.2.sides.length ≤ sizeLine) ∧ (∀ more ∈ entry.2.sides, pre_bE fu more) ∧ ∀ own : BR, own = (BR.mk entry.2.kind (entry.2.sides.map fun (more : (List (Int × Row))) => (bagE more))) → ((decide (0 < entry.1)) = true → Shp (eBR own)) ∧ ((decide (0 < entry.1)) = true → Shp ((eL eBR) rows)) ∧ (if ((decide (0 < entry.1)) && (decide (own ∈ rows))) = true then ((Shp (eBR own)) ∧ (Shp ((eL eBR) rows)) ∧ (own ∈ rows) ∧ ∀ at_ : Int, at_ = (rows.idxOf own : Int) → (InB counts at_) ∧ (InB counts at_) ∧ ∀ counts3 : (List Int), counts3 = (setI counts at_ ((ixD counts at_) + entry.1)) → W_l_bag_k2 fu rows counts3 P nx) else ((if (decide (0 < entry.1)) = true then ((rows.length < sizeLine) ∧ ∀ rows4 : (List BR), rows4 = (rows ++ [own]) → (counts.length < sizeLine) ∧ ∀ counts5 : (List Int), counts5 = (counts ++ [entry.1]) → W_l_bag_k3 fu rows4 counts5 P nx) else (W_l_bag_k3 fu rows counts P nx))))
def W_l_bag_k1 (fu : Nat) (rows : (List BR)) (counts : (List Int)) (P : (List (BR × Int)) → Prop) : Prop :=
  (-(2 ^ 62) ≤ ((rows.length : Int) : Int)) ∧ (((rows.length : Int) : Int) < 2 ^ 62) ∧ ((rngI 0 (rows.length : Int)).length ≤ sizeLine) ∧ (∀ k ∈ (rngI 0 (rows.length : Int)), InB rows k) ∧ (∀ k ∈ (rngI 0 (rows.length : Int)), InB counts k) ∧ (SrtOk (eP2 eBR D.int) ((rngI 0 (rows.length : Int)).map fun (k : Int) => ((ixD rows k), (ixD counts k)))) ∧ P (sortD (eP2 eBR D.int) ((rngI 0 (rows.length : Int)).map fun (k : Int) => ((ixD rows k), (ixD counts k))))
def W_l_bag (fu : Nat) (entries : (List (Int × Row))) (P : (List (BR × Int)) → Prop) : Prop :=
  ∃ Inv : Nat → (List BR) → (List Int) → Prop, Inv 0 ([] : (List BR)) ([] : (List Int)) ∧ (∀ (i : Nat) (entry : (Int × Row)) (rows : (List BR)) (counts : (List Int)), entries[i]? = some entry → Inv i rows counts → W_l_bag_b1 fu rows counts entry P (Inv (i + 1))) ∧ (∀ (rows : (List BR)) (counts : (List Int)), Inv entries.length rows counts → W_l_bag_k1 fu rows counts P)
theorem dW_l_bag {fu : Nat} {es : List (Int × Row)} (hp : pre_bE (fu + 1) es) (P : List (BR × Int) → Prop) (hP : P (bagE es)) : W_l_bag fu es P := by
  obtain ⟨h8, hl, hz⟩ := hp
  have sl := sizeLine_eq
  have okI : ∀ i, MgOk ((es.take i).map fun z => (z.1, bagR z.2)) (mg ((es.take i).map fun z => (z.1, bagR z.2))) := fun i => mg_ok (bgL_nn (take_nn (fun z hz' => (hz z hz').1) i))
  have shps : ∀ i, ∀ x ∈ (mg ((es.take i).map fun z => (z.1, bagR z.2))).1, pur (eBR x) = true ∧ dep (eBR x) ≤ 50 := fun i x hx => by
    obtain ⟨y, hy, rfl⟩ := (okI i).mem x hx
    obtain ⟨u, hu, rfl⟩ := List.mem_map.mp hy
    obtain ⟨a1, a2⟩ := br_shp (hz u (List.mem_of_mem_take hu)).2
    exact ⟨a1, by dsimp only; omega⟩
  refine ⟨fun i rows counts => (rows, counts) = mg ((es.take i).map fun z => (z.1, bagR z.2)), rfl, ?_, ?_⟩
  · rintro i z rows counts hi e
    have zm := List.mem_of_getElem? hi
    have il := (List.getElem?_eq_some_iff.mp hi).1
    have ok := okI i
    have sh := shps i
    have st : mgS (rows, counts) (z.1, bagR z.2) = mg ((es.take (i + 1)).map fun z => (z.1, bagR z.2)) := by
      rw [snoc_take hi, List.map_append, List.map_singleton, mg_snoc, ← e]
    rw [← e] at ok sh
    have l2 := ok.le
    have l3 := ok.len
    rw [List.length_map, List.length_take] at l2
    dsimp only at l2 l3 sh
    unfold W_l_bag_b1
    refine ⟨by have := (hz z zm).2.len; omega, (hz z zm).2.bags (by omega), ?_⟩
    rintro own eo
    rw [show (BR.mk z.2.kind (z.2.sides.map fun more => bagE more)) = bagR z.2 from (bagR_eq z.2).symm] at eo
    subst eo
    have so : Shp (eBR (bagR z.2)) := by
      obtain ⟨a1, a2⟩ := br_shp (hz z zm).2
      exact ⟨a1, by omega⟩
    have sL : Shp (eL eBR rows) := Shp.list fun x hx => ⟨(sh x hx).1, by have := (sh x hx).2; omega⟩
    refine ⟨fun _ => so, fun _ => sL, ?_⟩
    unfold mgS at st
    dsimp only at st
    by_cases c1 : 0 < z.1 ∧ bagR z.2 ∈ rows
    · rw [if_pos (by simp [c1.1, c1.2])]
      rw [if_pos c1] at st
      have jl := List.idxOf_lt_length_of_mem c1.2
      refine ⟨so, sL, c1.2, ?_⟩
      rintro _ rfl
      refine ⟨⟨by omega, by omega⟩, ⟨by omega, by omega⟩, ?_⟩
      rintro _ rfl
      exact st
    · rw [if_neg (by simpa using c1)]
      rw [if_neg c1] at st
      by_cases c2 : 0 < z.1
      · rw [if_pos (decide_eq_true c2)]
        rw [if_pos c2] at st
        refine ⟨by omega, ?_⟩
        rintro _ rfl
        refine ⟨by omega, ?_⟩
        rintro _ rfl
        exact st
      · rw [if_neg (by simpa using c2)]
        rw [if_neg c2] at st
        exact st
  · rintro rows counts e
    have ok := okI es.length
    have sh := shps es.length
    rw [← e] at ok sh
    rw [List.take_length] at e
    have l2 := ok.le
    have l3 := ok.len
    rw [List.length_map, List.length_take] at l2
    dsimp only at l2 l3 sh
    unfold W_l_bag_k1
    rw [rng_zip l3]
    refine ⟨by omega, by omega, by rw [rngI_len]; omega, fun k hk => ?_, fun k hk => ?_, srtok alk_br fun p hp => sh _ (List.of_mem_zip hp).1, ?_⟩
    · have := rngI_mem.mp hk
      exact ⟨by omega, by omega⟩
    · have := rngI_mem.mp hk
      exact ⟨by omega, by omega⟩
    · have : bagE es = sortD (eP2 eBR D.int) (List.zip rows counts) := by
        unfold bagE srt mgz
        rw [← e]
      rw [← this]
      exact hP
def sp_l_bag (fu : Nat) (K : PySem.W.Frag) : Sp := spF K (fun (x : (List (Int × Row))) => [(eT (eP2 D.int eRow)) x]) (eT (eP2 eBR D.int)) (fun (x : (List (Int × Row))) => pre_bE fu x) (fun (x : (List (Int × Row))) => bagE x)
theorem cd_l_bag {E : XK} (fu : Nat) (entries : (List (Int × Row))) (hp : pre_bE fu entries) : CaD K (fun vs H Q => sp_l_bag fu K vs H Q E) [.im ((eT (eP2 D.int eRow)) entries)] (.im ((eT (eP2 eBR D.int)) (bagE entries))) := cd_fn (ens := (fun (x : (List (Int × Row))) => [(eT (eP2 D.int eRow)) x])) (er := (eT (eP2 eBR D.int))) entries hp
theorem sc_l_bag : FnScope ["_law_entries", "_law_rows", "_law_counts", "_law_entry", "_law_own", "_law_more", "_law_at", "_law_k"] ["_law_entries"] (defScope s_l_bag) := ⟨rfl, rfl, rfl, by decide +kernel, rfl, by decide +kernel, by decide +kernel⟩
theorem ok_l_bag_step (T : Txt K mg a) (fu : Nat) (ih : FnOk P w K mg base CX0 (1 + fu) a.f_l_bag a.d_l_bag ["_law_entries"] (sp_l_bag fu K)) : FnOk P w K mg base CX0 (1 + (fu + 1)) a.f_l_bag a.d_l_bag ["_law_entries"] (sp_l_bag (fu + 1) K) := by
  refine T.F_l_bag.ok (k := 1 + fu) sc_l_bag (fun vs H Q E h => ?_) (fun cdv A outer s H vs Q E hr h => ?_)
  · obtain ⟨M0, x, w0, hx, _⟩ := h
    exact hx.len
  · obtain ⟨M0, x, w0, hx, hp, kq⟩ := h
    obtain ⟨entries, ex⟩ : ∃ z, z = x := ⟨_, rfl⟩
    subst ex
    have hx : rDs K (Fx M0 H) [(eT (eP2 D.int eRow)) entries] vs := hx
    obtain ⟨v, _, rfl, h2, rfl⟩ := hx
    obtain ⟨Y, eY⟩ : ∃ Y : List Addr, Y = [] := ⟨_, rfl⟩
    have g : Gd M0 [] Y H H := Gd.start w0 (by rw [eY]; exact fun y h => nomatch h)
    have h2 : rV K (mxM M0 []) H (.im ((eT (eP2 D.int eRow)) entries)) v := rV.lx Gd.lx0 (show rV K M0 H (.im ((eT (eP2 D.int eRow)) entries)) v from h2)
    obtain ⟨P, eP⟩ : ∃ P : (List (BR × Int)) → Prop, P = fun r => r = bagE entries := ⟨_, rfl⟩
    have kk : ∀ r v H2, P r → Wd M0 H2 → Same H H2 → rD K (Fx M0 H2) ((eT (eP2 eBR D.int)) r) v → Q v H2 := fun r v H2 e => by rw [eP] at e; rw [show r = bagE entries from e]; exact kq v H2
    have hw : W_l_bag fu entries P := dW_l_bag hp P (by rw [eP])
    unfold W_l_bag at hw
    refine ⟨_, (pss_cons (ps_asg (pe_tupS (pa_cons (pe_lstS pa_nil) (pa_cons (pe_lstS pa_nil) pa_nil))) (pg_tup rfl (pgs_cons (pg_name (i := 1) sc_l_bag.nd rfl (.inr rfl)) (pgs_cons (pg_name (i := 2) sc_l_bag.nd rfl (.inr rfl)) pgs_nil))))
      (pss_cons (ps_for PassesOwn.never rfl (pi_tup (pv 0)) (pg_name (i := 3) sc_l_bag.nd rfl (.inl rfl))
      (pss_cons (ps_set (i := 4) sc_l_bag.nd rfl (.inl rfl) (pe_tupS (pa_cons (pe_ix ix_tup (pe_ix ix_tup (pv 3) pe_int (fun _ _ => rfl)) pe_int (fun _ _ => rfl)) (pa_cons (pe_callTy call_tupleD (by rfl) T.b_tuple (by decide +kernel) (pa_cons (pe_lc (own := [("_law_more", 5)]) (g := gName 5) (tt := tYes) (te := (tCall (sp_l_bag fu K) [] E0 (tCons (tVar 5) tNil))) rfl sc_l_bag.nd (pi_tup (pe_ix ix_tup (pe_ix ix_tup (pv 3) pe_int (fun _ _ => rfl)) pe_int (fun _ _ => rfl))) (blkOk_by (own := [("_law_more", 5)]) (N := ["_law_entries", "_law_rows", "_law_counts", "_law_entry", "_law_own", "_law_more", "_law_at", "_law_k"]) (sc := defScope s_l_bag) (by decide +kernel)) (fun _ _ _ _ _ => (pg_name (i := 5) sc_l_bag.nd rfl (.inl rfl))) (fun _ _ _ _ _ => pts_nil) (fun _ _ _ _ _ => (pe_call ih (hr.mono (by omega)) rfl T.m_l_bag T.k_l_bag T.a_l_bag .nil pass0 (pa_cons (pv 5) pa_nil)))) pa_nil)) pa_nil))))
      (pss_cons (ps_if (PW.pt (pw_and (pt_cmpR op_gt (pe_ix ix_tup (pv 3) pe_int (fun _ _ => rfl)) pe_int (nomark _)) (pw_and1 (pt_cmpR (op_inD (un65 hr)) (pv 4) (pv 1) rfl)))) (pss_cons (ps_set (i := 6) sc_l_bag.nd rfl (.inl rfl) (pe_bm PySem.F.plainAttrs_list PySem.F.slot_list_index PySem.F.type_list_index (mt_indexD (un65 hr)) (pv 1) (pa_cons (pv 4) pa_nil)))
      (pss_cons (ps_asg (pe_op op_add (pe_ix ix_list (pv 2) (pv 6) (fun _ _ => rfl)) (pe_ix ix_tup (pv 3) pe_int (fun _ _ => rfl))) (pg_sub (pv 2) (pv 6) set_list))
      pss_nil)) (pss_cons (ps_if (pt_cmpR op_gt (pe_ix ix_tup (pv 3) pe_int (fun _ _ => rfl)) pe_int (nomark _)) (pss_cons (ps_expr (pe_bm PySem.F.plainAttrs_list PySem.F.slot_list_append PySem.F.type_list_append mt_append (pv 1) (pa_cons (pv 4) pa_nil)))
      (pss_cons (ps_expr (pe_bm PySem.F.plainAttrs_list PySem.F.slot_list_append PySem.F.type_list_append mt_append (pv 2) (pa_cons (pe_ix ix_tup (pv 3) pe_int (fun _ _ => rfl)) pa_nil)))
      pss_nil)) pss_nil)
      pss_nil))
      pss_nil)))
      (pss_cons (ps_ret (pe_callTy call_tupleD (by rfl) T.b_tuple (by decide +kernel) (pa_cons (pe_callB (cr_sortedD (un65 hr)) (by rfl) T.b_sorted (by decide +kernel) (pa_cons (pe_lc (own := [("_law_k", 7)]) (g := gName 7) (tt := tYes) (te := (tTupS (tCons (tOp (rIxL K) (tVar 1) (tVar 7)) (tCons (tOp (rIxL K) (tVar 2) (tVar 7)) tNil)))) rfl sc_l_bag.nd (pi_range1 (by rfl) T.b_range (pa_cons (pe_callB call_len_seq (by rfl) T.b_len PySem.boot_len (pa_cons (pv 1) pa_nil)) pa_nil)) (blkOk_by (own := [("_law_k", 7)]) (N := ["_law_entries", "_law_rows", "_law_counts", "_law_entry", "_law_own", "_law_more", "_law_at", "_law_k"]) (sc := defScope s_l_bag) (by decide +kernel)) (fun _ _ _ _ _ => (pg_name (i := 7) sc_l_bag.nd rfl (.inl rfl))) (fun _ _ _ _ _ => pts_nil) (fun _ _ _ _ _ => (pe_tupS (pa_cons (pe_ix ix_list (pv 1) (pv 7) (fun _ _ => rfl)) (pa_cons (pe_ix ix_list (pv 2) (pv 7) (fun _ _ => rfl)) pa_nil))))) pa_nil)) pa_nil)))
      pss_nil))), ?_⟩
    refine st_asgT ?_
    refine x_tup ?_
    refine x_cons ?_
    refine EVN.go (K := K) (evn_lst (ds := []) eva_nil (Nat.le_of_ble_eq_true rfl)) g.wd fun p H2 H3 wd s2 np s3 vs2 hp2 hv => ?_
    have g2 := g.same s2
    have ex := Gd.ex_new (M0 := M0) (Ls := []) s3 np
    have g3 := g2.new s3 np hp2
    have h3 : rV K (mxM M0 [p]) H3 (.mu p (List.map eBR ([] : (List BR)))) (V.ref p) := ⟨rfl, vs2, hp2, rDs.mono ex.lx _ _ hv⟩
    refine x_cons ?_
    refine EVN.go (K := K) (evn_lst (ds := []) eva_nil (Nat.le_of_ble_eq_true rfl)) g3.wd fun p2 H4 H5 wd2 s4 np2 s5 vs3 hp3 hv2 => ?_
    have g4 := g3.same s4
    have h4 := rV.same s4 h3
    have ex2 := Gd.ex_new (M0 := M0) (Ls := [p]) s5 np2
    have g5 := g4.new s5 np2 hp3
    have h5 := rV.ex ex2 h4
    have h6 : rV K (mxM M0 [p2, p]) H5 (.mu p2 (List.map D.int ([] : (List Int)))) (V.ref p2) := ⟨rfl, vs3, hp3, rDs.mono ex2.lx _ _ hv2⟩
    refine x_nil ?_
    refine ⟨(by show 2 ≤ sizeLine; decide), fun p3 H6 np3 s6 hp4 => ?_⟩
    have g6 := g5.same s6
    have h7 := rV.same s6 h5
    have h8 := rV.same s6 h6
    refine ⟨p3, _, rfl, SqT.of hp4, rfl, _, _, rfl, _, _, rfl, rfl, ?_⟩
    try dsimp only [gName]
    refine st_norm (σ' := [some v, some (V.ref p), some (V.ref p2), none, none, none, none, none]) rfl ?_
    have g7 := g6.pick [1, 0] (Ls' := [p, p2]) (by decide) rfl
    have l : Lx (mxM M0 [p2, p]) (mxM M0 [p, p2]) H6 H6 := Gd.lx_pick [1, 0] rfl
    have h9 := mu_pick h7 [1, 0] (Ls' := [p, p2]) rfl
    have h10 := mu_pick h8 [1, 0] (Ls' := [p, p2]) rfl
    refine st_for ?_
    have h11 : rV K (mxM M0 [p, p2]) H6 (.im ((eT (eP2 D.int eRow)) entries)) v := (rV.lx l (((((h2.same s2).ex ex).same s4).ex ex2).same s6))
    refine EVI.gom (K := K) (en := (eP2 D.int eRow)) (xs := entries) (evi_tup (es := List.map (eP2 D.int eRow) entries) (ev_var (d := (.im ((eT (eP2 D.int eRow)) entries))) (i := 0) rfl h11)) g7.wd fun J H7 wd3 s7 wk => ?_
    have g8 := g7.same s7
    have h12 := rV.same s7 h9
    have h13 := rV.same s7 h10
    obtain ⟨Inv, hI, hI2, hI3⟩ := hw
    refine st_forit wk (fun i σ' H' => ∃ (rows : (List BR)) (counts : (List Int)) (o : Option V) (o2 : Option V) (o3 : Option V), σ' = [some v, some (V.ref p), some (V.ref p2), o, o2, none, o3, none] ∧ Gd M0 [p, p2] Y H H' ∧ Lx (mxM M0 [p, p2]) (mxM M0 [p, p2]) H7 H' ∧ rV K (mxM M0 [p, p2]) H' (.mu p (List.map eBR rows)) (V.ref p) ∧ rV K (mxM M0 [p, p2]) H' (.mu p2 (List.map D.int counts)) (V.ref p2) ∧ Inv i rows counts) ⟨([] : (List BR)), ([] : (List Int)), _, _, _, rfl, g8, Lx.refl, h12, h13, hI⟩ (fun i σ' H' _ ⟨_, _, _, _, _, _, _, hl, _⟩ => ⟨_, hl⟩) ?_ ?_
    · rintro i x2 σ' H8 H9 hi ⟨rows, counts, o, o2, o3, rfl, g9, l2, h14, h15, hI4⟩ yd
      obtain ⟨entry, hy, s8, hr2⟩ := yd_map yd
      have hw := hI2 i entry  rows counts hy hI4
      have hr2 := hr2 _ g9.wd l2
      have g10 := g9.same s8
      have h16 := rV.same s8 h14
      have h17 := rV.same s8 h15
      have hr2 : rV K (mxM M0 [p, p2]) H9 (.im ((eP2 D.int eRow) entry)) x2 := hr2
      unfold W_l_bag_b1 at hw
      try dsimp only [gName]
      refine st_norm (σ' := [some v, some (V.ref p), some (V.ref p2), some x2, o2, none, o3, none]) rfl ?_
      refine st_set ?_
      obtain ⟨c, c2, hw⟩ := hw
      refine EV.goA (K := K) (en := eBR) (x0 := (BR.mk entry.2.kind (entry.2.sides.map fun (more : (List (Int × Row))) => (bagE more)))) (by rw [eBR_eq (BR.mk entry.2.kind (entry.2.sides.map fun (more : (List (Int × Row))) => (bagE more)))]; exact (ev_tup (ds := [(eT D.int) entry.2.kind, (eT (eT (eP2 eBR D.int))) (entry.2.sides.map fun (more : (List (Int × Row))) => (bagE more))]) (eva_cons (ev_op (ev_op (ev_var (d := (.im ((eP2 D.int eRow) entry))) (i := 3) rfl hr2) ev_int (od_ixT (es := [D.int entry.1, eRow entry.2]) rfl)) ev_int (by rw [eRow_eq entry.2]; exact (od_ixT (es := [(eT D.int) entry.2.kind, (eT (eT (eP2 D.int eRow))) entry.2.sides]) rfl))) (eva_cons (ev_cb (eva_cons (ev_lcmm (fd := fun (more : (List (Int × Row))) => (bagE more)) (en2 := (eT (eP2 eBR D.int))) (xs := entry.2.sides) (en := (eT (eP2 D.int eRow))) (evi_tup (es := List.map (eT (eP2 D.int eRow)) entry.2.sides) (ev_op (ev_op (ev_var (d := (.im ((eP2 D.int eRow) entry))) (i := 3) rfl hr2) ev_int (od_ixT (es := [D.int entry.1, eRow entry.2]) rfl)) ev_int (by rw [eRow_eq entry.2]; exact (od_ixT (es := [(eT D.int) entry.2.kind, (eT (eT (eP2 D.int eRow))) entry.2.sides]) rfl)))) GI.ex gm_name c (fun more hy2 M H10 v2 wd4 ex3 h18 => ⟨rfl, rfl, (ev_call (eva_cons (ev_var (d := (.im ((eT (eP2 D.int eRow)) more))) (i := 5) rfl h18) eva_nil) (cd_l_bag fu more (c2 more hy2)))⟩)) eva_nil) (cd_tuple (es := List.map (eT (eP2 eBR D.int)) (entry.2.sides.map fun (more : (List (Int × Row))) => (bagE more))) LsOf.im)) eva_nil)) (Nat.le_of_ble_eq_true rfl))) g10.wd fun own e v3 H11 wd5 s9 h19 => ?_
      have hw := hw own e
      have g11 := g10.same s9
      have h20 := rV.same s9 h16
      have h21 := rV.same s9 h17
      try dsimp only [gName]
      refine st_norm (σ' := [some v, some (V.ref p), some (V.ref p2), some x2, some v3, none, o3, none]) rfl ?_
      try dsimp only [gName]
      refine if_cut (fun σ' H' => ∃ (rows2 : (List BR)) (counts2 : (List Int)) (o4 : Option V), σ' = [some v, some (V.ref p), some (V.ref p2), some x2, some v3, none, o4, none] ∧ Gd M0 [p, p2] Y H H' ∧ Lx (mxM M0 [p, p2]) (mxM M0 [p, p2]) H11 H' ∧ rV K (mxM M0 [p, p2]) H' (.mu p (List.map eBR rows2)) (V.ref p) ∧ rV K (mxM M0 [p, p2]) H' (.mu p2 (List.map D.int counts2)) (V.ref p2) ∧ W_l_bag_k2 fu rows2 counts2 P (Inv (i + 1))) (fun nx hnx => ?_) ?_
      · have h24 : rV K (mxM M0 [p, p2]) H11 (.im ((eP2 D.int eRow) entry)) x2 := (hr2.same s9)
        obtain ⟨c3, c4, hw⟩ := hw
        refine EVT.go (b := ((decide (0 < entry.1)) && (decide (own ∈ rows)))) (evt_and (evt_test (K := K) (ev_op (ev_op (ev_var (d := (.im ((eP2 D.int eRow) entry))) (i := 3) rfl h24) ev_int (od_ixT (es := [D.int entry.1, eRow entry.2]) rfl)) ev_int od_gt)) fun hb => (evt_test (K := K) (ev_op (ev_var (d := (.im (eBR own))) (i := 4) rfl h19) (ev_var (d := (.mu p (List.map eBR rows))) (i := 1) rfl h20) (od_inD (xs := rows) (en := eBR) inj_BR (c3 hb) (c4 hb) LsOf.mu)))) g11.wd fun H12 wd6 s10 => ?_
        have g12 := g11.same s10
        have h25 := rV.same s10 h20
        have h26 := rV.same s10 h21
        refine wite hw (fun hw => ?_) (fun hw => ?_)
        · skip
          refine st_set ?_
          have h27 : rV K (mxM M0 [p, p2]) H12 (.im (eBR own)) v3 := (h19.same s10)
          obtain ⟨c5, c6, c7, hw⟩ := hw
          refine EV.goA (K := K) (en := D.int) (x0 := (rows.idxOf own : Int)) (ev_bm (es := List.map eBR rows) (ev_var (d := (.mu p (List.map eBR rows))) (i := 1) rfl h25) LsOf.mu (eva_cons (ev_var (d := (.im (eBR own))) (i := 4) rfl h27) eva_nil) (md_indexD (xs := rows) (x := own) (en := eBR) inj_BR c5 c6 LsOf.mu c7)) g12.wd fun at_ e2 v4 H13 wd7 s11 h28 => ?_
          have hw := hw at_ e2
          have g13 := g12.same s11
          have h29 := rV.same s11 h25
          have h30 := rV.same s11 h26
          cases (show v4 = (V.int at_) from h28)
          try dsimp only [gName]
          refine st_norm (σ' := [some v, some (V.ref p), some (V.ref p2), some x2, some v3, none, some (V.int at_), none]) rfl ?_
          refine st_sub ?_
          have h31 : rV K (mxM M0 [p, p2]) H13 (.im ((eP2 D.int eRow) entry)) x2 := ((h24.same s10).same s11)
          obtain ⟨c8, hw⟩ := hw
          refine EV.go (K := K) (d := (.im (D.int ((ixD counts at_) + entry.1)))) (ev_op (ev_op (ev_var (d := (.mu p2 (List.map D.int counts))) (i := 2) rfl h30) (ev_vi (i := 6) rfl) (od_ixLm (en := D.int) (xs := counts) LsOf.mu c8)) (ev_op (ev_var (d := (.im ((eP2 D.int eRow) entry))) (i := 3) rfl h31) ev_int (od_ixT (es := [D.int entry.1, eRow entry.2]) rfl)) od_add) g13.wd fun v5 H14 wd8 s12 h32 => ?_
          have g14 := g13.same s12
          have h33 := rV.same s12 h29
          have h34 := rV.same s12 h30
          cases (show v5 = (V.int ((ixD counts at_) + entry.1)) from h32)
          refine EV.go (K := K) (d := (.mu p2 (List.map D.int counts))) (ev_var (d := (.mu p2 (List.map D.int counts))) (i := 2) rfl h34) g14.wd fun v6 H15 wd9 s13 h35 => ?_
          have g15 := g14.same s13
          have h36 := rV.same s13 h33
          have h37 := rV.same s13 h34
          cases h35.1
          refine EV.go (K := K) (d := (.im (D.int at_))) (ev_vi (i := 6) rfl) g15.wd fun v7 H16 wd10 s14 h38 => ?_
          have g16 := g15.same s14
          have h39 := rV.same s14 h36
          have h40 := rV.same s14 h37
          cases (show v7 = (V.int at_) from h38)
          obtain ⟨c9, hw⟩ := hw
          refine x_setL (en := D.int) (x := ((ixD counts at_) + entry.1)) (i := at_) h40 rfl (by simp) c9 fun H17 ⟨ws, eu⟩ h41 => ?_
          obtain ⟨counts3, ecounts3⟩ : ∃ z_ : (List Int), z_ = (setI counts at_ ((ixD counts at_) + entry.1)) := ⟨_, rfl⟩
          have hw := hw counts3 ecounts3
          rw [← ecounts3] at h41
          subst eu
          have g17 : Gd M0 [p, p2] Y H (upd H16 p2 (.lst ws)) := g16.upd (by simp)
          have l3 : Lx (mxM M0 [p, p2]) (mxM M0 [p, p2]) H16 (upd H16 p2 (.lst ws)) := Gd.lx_upd (by simp)
          have h42 : rV K (mxM M0 [p, p2]) (upd H16 p2 (.lst ws)) (.mu p (List.map eBR rows)) (V.ref p) := mu_upd h39 rfl (nd_ne g16.nd 0 1 rfl rfl (by decide)) (by simp)
          exact hnx _ _ ⟨rows, counts3, _, rfl, g17, ((((((Lx.same s10).trans (Lx.same s11)).trans (Lx.same s12)).trans (Lx.same s13)).trans (Lx.same s14)).trans l3), h42, h41, hw⟩
        · skip
          try dsimp only [gName]
          refine if_cut (fun σ' H' => ∃ (rows3 : (List BR)) (counts4 : (List Int)), σ' = [some v, some (V.ref p), some (V.ref p2), some x2, some v3, none, o3, none] ∧ Gd M0 [p, p2] Y H H' ∧ Lx (mxM M0 [p, p2]) (mxM M0 [p, p2]) H12 H' ∧ rV K (mxM M0 [p, p2]) H' (.mu p (List.map eBR rows3)) (V.ref p) ∧ rV K (mxM M0 [p, p2]) H' (.mu p2 (List.map D.int counts4)) (V.ref p2) ∧ W_l_bag_k3 fu rows3 counts4 P (Inv (i + 1))) (fun nx hnx => ?_) ?_
          · have h45 : rV K (mxM M0 [p, p2]) H12 (.im ((eP2 D.int eRow) entry)) x2 := (h24.same s10)
            refine EVT.go (b := (decide (0 < entry.1))) (evt_test (K := K) (ev_op (ev_op (ev_var (d := (.im ((eP2 D.int eRow) entry))) (i := 3) rfl h45) ev_int (od_ixT (es := [D.int entry.1, eRow entry.2]) rfl)) ev_int od_gt)) g12.wd fun H18 wd11 s15 => ?_
            have g18 := g12.same s15
            have h46 := rV.same s15 h25
            have h47 := rV.same s15 h26
            refine wite hw (fun hw => ?_) (fun hw => ?_)
            · skip
              refine st_expr ?_
              refine x_bm (ev_var (d := (.mu p (List.map eBR rows))) (i := 1) rfl h46) LsOf.mu g18.wd fun v8 H19 wd12 s16 h48 => ?_
              have g19 := g18.same s16
              have h49 := rV.same s16 h46
              have h50 := rV.same s16 h47
              cases h48.1
              refine x_cons ?_
              have h51 : rV K (mxM M0 [p, p2]) H19 (.im (eBR own)) v3 := (((h19.same s10).same s15).same s16)
              refine EV.go (K := K) (d := (.im (eBR own))) (ev_var (d := (.im (eBR own))) (i := 4) rfl h51) g19.wd fun v9 H20 wd13 s17 h52 => ?_
              have g20 := g19.same s17
              have h53 := rV.same s17 h49
              have h54 := rV.same s17 h50
              refine x_nil ?_
              obtain ⟨c10, hw⟩ := hw
              refine x_append (d := eBR own) h53 h52 (by simp) (by rw [List.length_map]; exact c10) fun H21 ⟨vs4, eu2⟩ h55 => ?_
              obtain ⟨rows4, erows4⟩ : ∃ z_ : (List BR), z_ = (rows ++ [own]) := ⟨_, rfl⟩
              have hw := hw rows4 erows4
              have h55 : rV K (mxM M0 [p, p2]) H21 (.mu p (List.map eBR rows4)) (V.ref p) := by rw [erows4, List.map_append]; exact h55
              subst eu2
              have g21 : Gd M0 [p, p2] Y H (upd H20 p (.lst vs4)) := g20.upd (by simp)
              have l4 : Lx (mxM M0 [p, p2]) (mxM M0 [p, p2]) H20 (upd H20 p (.lst vs4)) := Gd.lx_upd (by simp)
              have h56 : rV K (mxM M0 [p, p2]) (upd H20 p (.lst vs4)) (.mu p2 (List.map D.int counts)) (V.ref p2) := mu_upd h54 rfl (nd_ne g20.nd 1 0 rfl rfl (by decide)) (by simp)
              refine st_expr ?_
              refine x_bm (ev_var (d := (.mu p2 (List.map D.int counts))) (i := 2) rfl h56) LsOf.mu g21.wd fun v10 H22 wd14 s18 h57 => ?_
              have g22 := g21.same s18
              have h58 := rV.same s18 h55
              have h59 := rV.same s18 h56
              cases h57.1
              refine x_cons ?_
              have h60 : rV K (mxM M0 [p, p2]) H22 (.im ((eP2 D.int eRow) entry)) x2 := ((rV.lx l4 (((h45.same s15).same s16).same s17)).same s18)
              refine EV.go (K := K) (d := (.im (D.int entry.1))) (ev_op (ev_var (d := (.im ((eP2 D.int eRow) entry))) (i := 3) rfl h60) ev_int (od_ixT (es := [D.int entry.1, eRow entry.2]) rfl)) g22.wd fun v11 H23 wd15 s19 h61 => ?_
              have g23 := g22.same s19
              have h62 := rV.same s19 h58
              have h63 := rV.same s19 h59
              cases (show v11 = (V.int entry.1) from h61)
              refine x_nil ?_
              obtain ⟨c11, hw⟩ := hw
              refine x_append (d := D.int entry.1) h63 rfl (by simp) (by rw [List.length_map]; exact c11) fun H24 ⟨vs5, eu3⟩ h64 => ?_
              obtain ⟨counts5, ecounts5⟩ : ∃ z_ : (List Int), z_ = (counts ++ [entry.1]) := ⟨_, rfl⟩
              have hw := hw counts5 ecounts5
              have h64 : rV K (mxM M0 [p, p2]) H24 (.mu p2 (List.map D.int counts5)) (V.ref p2) := by rw [ecounts5, List.map_append]; exact h64
              subst eu3
              have g24 : Gd M0 [p, p2] Y H (upd H23 p2 (.lst vs5)) := g23.upd (by simp)
              have l5 : Lx (mxM M0 [p, p2]) (mxM M0 [p, p2]) H23 (upd H23 p2 (.lst vs5)) := Gd.lx_upd (by simp)
              have h65 : rV K (mxM M0 [p, p2]) (upd H23 p2 (.lst vs5)) (.mu p (List.map eBR rows4)) (V.ref p) := mu_upd h62 rfl (nd_ne g23.nd 0 1 rfl rfl (by decide)) (by simp)
              exact hnx _ _ ⟨rows4, counts5, rfl, g24, (((((((Lx.same s15).trans (Lx.same s16)).trans (Lx.same s17)).trans l4).trans (Lx.same s18)).trans (Lx.same s19)).trans l5), h65, h64, hw⟩
            · skip
              exact hnx _ _ ⟨rows, counts, rfl, g18, (Lx.same s15), h46, h47, hw⟩
          rintro σ' H25 ⟨rows3, counts4, rfl, g25, l6, h43, h44, hw⟩
          exact hnx _ _ ⟨rows3, counts4, _, rfl, g25, ((Lx.same s10).trans l6), h43, h44, hw⟩
      rintro σ' H26 ⟨rows2, counts2, o4, rfl, g26, l7, h22, h23, hw⟩
      exact ⟨rows2, counts2, _, _, _, rfl, g26, (((l2.trans (Lx.same s8)).trans (Lx.same s9)).trans l7), h22, h23, hw⟩
    · rintro σ' H27 ⟨rows, counts, o, o2, o3, rfl, g27, l8, h14, h15, hI5⟩
      have hw := hI3 rows counts hI5
      unfold W_l_bag_k1 at hw
      try dsimp only [gName]
      refine st_norm (σ' := [some v, some (V.ref p), some (V.ref p2), o, o2, none, o3, none]) rfl ?_
      refine st_ret ?_
      obtain ⟨c12, c13, c14, c15, c16, c17, hw⟩ := hw
      refine EV.go (K := K) (d := (.im ((eT (eP2 eBR D.int)) (sortD (eP2 eBR D.int) ((rngI 0 (rows.length : Int)).map fun (k : Int) => ((ixD rows k), (ixD counts k))))))) (ev_cb (eva_cons (ev_cb (eva_cons (ev_lcmm (fd := fun (k : Int) => ((ixD rows k), (ixD counts k))) (en2 := (eP2 eBR D.int)) (xs := (rngI 0 (rows.length : Int))) (en := D.int) (evi_range1 (eva_cons (ev_cb (eva_cons (ev_var (d := (.mu p (List.map eBR rows))) (i := 1) rfl h14) eva_nil) (cd_lenm (en := eBR) (xs := rows) (.inl LsOf.mu))) eva_nil) c12 c13) GI.ex gm_name c14 (fun k hy3 M2 H28 v12 wd16 ex4 h66 => ⟨rfl, rfl, (ev_tup (ds := [eBR (ixD rows k), D.int (ixD counts k)]) (eva_cons (ev_op (ev_var (d := (.mu p (List.map eBR rows))) (i := 1) rfl (rV.ex (d := (.mu p (List.map eBR rows))) ex4 h14)) (ev_var (d := (.im (D.int k))) (i := 7) rfl h66) (od_ixLm (en := eBR) (xs := rows) LsOf.mu (c15 k hy3))) (eva_cons (ev_op (ev_var (d := (.mu p2 (List.map D.int counts))) (i := 2) rfl (rV.ex (d := (.mu p2 (List.map D.int counts))) ex4 h15)) (ev_var (d := (.im (D.int k))) (i := 7) rfl h66) (od_ixLm (en := D.int) (xs := counts) LsOf.mu (c16 k hy3))) eva_nil)) (Nat.le_of_ble_eq_true rfl))⟩)) eva_nil) (cd_sortD (en := (eP2 eBR D.int)) (xs := ((rngI 0 (rows.length : Int)).map fun (k : Int) => ((ixD rows k), (ixD counts k)))) LsOf.im c17)) eva_nil) (cd_tuple (es := List.map (eP2 eBR D.int) (sortD (eP2 eBR D.int) ((rngI 0 (rows.length : Int)).map fun (k : Int) => ((ixD rows k), (ixD counts k))))) LsOf.im)) g27.wd fun v13 H29 wd17 s20 h67 => ?_
      have g28 := g27.same s20
      have h68 := rV.same s20 h14
      have h69 := rV.same s20 h15
      exact kk _ _ _ hw g28.w_end (Bu.nil g28.bu eY) (rV.lx Gd.lx_end h67)
theorem ok_l_bag (T : Txt K mg a) : ∀ fu : Nat, FnOk P w K mg base CX0 (1 + fu) a.f_l_bag a.d_l_bag ["_law_entries"] (sp_l_bag fu K)
  | 0 => T.F_l_bag.ok (k := 0) sc_l_bag (fun vs H Q E h => by obtain ⟨M0, x, w0, hx, _⟩ := h; exact hx.len) (fun cdv A outer s H vs Q E hr h => by obtain ⟨M0, x, w0, hx, hp, kq⟩ := h; exact (no_l_bag hp).elim)
  | fu + 1 => ok_l_bag_step T fu (ok_l_bag T fu)

end
end Toy

set_option Elab.async false
set_option linter.all false
set_option maxRecDepth 100000
set_option maxHeartbeats 4000000
set_option pp.maxSteps 1500
set_option pp.deepTerms false
namespace Toy
open PySem L2 Lf
section
variable {P : Program} {w : World} {K : PySem.W.Frag} {mg : Str → Option Value} {base : Heap} {a : Ad}
def isIntF (_ : Int) : Bool := true
def W_l_is_integer (actual : Int) (P : Bool → Prop) : Prop :=
  P (true && (!false))

theorem dW_l_is_integer {i : Int} (P : Bool → Prop) (hP : P (isIntF i)) : W_l_is_integer i P := hP
def isShort (_ : Row) : Bool := true
def pre_is (fu : Nat) (r : Row) : Prop := fu ≤ 8 ∧ RD fu r ∧ ShR fu r
theorem no_l_is_short {r : Row} (h : pre_is 0 r) : False := h.2.1
def W_l_is_short_b2 (fu : Nat) (entries : (List (Int × Row))) (k : Int) (P : Bool → Prop) (nx : Prop) (nx2 : Prop) : Prop :=
  (InB entries k) ∧ ((!true) = false → InB entries k) ∧ (if ((!true) || (!decide ((2 : Int) = 2))) = true then (P false) else ((InB entries k) ∧ ((!(isIntF ((ixD entries k).1))) = false → InB entries k) ∧ ((!(isIntF ((ixD entries k).1))) = false → (decide (((ixD entries k).1) < 1)) = false → InB entries k) ∧ ((!(isIntF ((ixD entries k).1))) = false → (decide (((ixD entries k).1) < 1)) = false → pre_is fu ((ixD entries k).2)) ∧ (if ((!(isIntF ((ixD entries k).1))) || ((decide (((ixD entries k).1) < 1)) || (!(isShort ((ixD entries k).2))))) = true then (P false) else (((decide (0 < k)) = true → InB entries (k - 1)) ∧ ((decide (0 < k)) = true → InB entries k) ∧ ((decide (0 < k)) = true → Shp (eRow ((ixD entries (k - 1)).2))) ∧ ((decide (0 < k)) = true → Shp (eRow ((ixD entries k).2))) ∧ ((decide (0 < k)) = true → PySem.W.alike (py (eRow ((ixD entries (k - 1)).2))) (py (eRow ((ixD entries k).2))) = true) ∧ ((decide (0 < k)) = true → py (eRow ((ixD entries (k - 1)).2)) ≠ .none) ∧ (if ((decide (0 < k)) && (!(ltD eRow ((ixD entries (k - 1)).2) ((ixD entries k).2)))) = true then (P false) else (nx2))))))
def W_l_is_short_k2 (fu : Nat) (P : Bool → Prop) (nx : Prop) : Prop :=
  nx
def W_l_is_short_b1 (fu : Nat) (entries : (List (Int × Row))) (P : Bool → Prop) (nx : Prop) : Prop :=
  (if (!true) = true then (P false) else ((-(2 ^ 62) ≤ ((entries.length : Int) : Int)) ∧ (((entries.length : Int) : Int) < 2 ^ 62) ∧ ∃ Inv2 : Nat → Prop, Inv2 0 ∧ (∀ (i : Nat) (k : Int), (rngI 0 (entries.length : Int))[i]? = some k → Inv2 i → W_l_is_short_b2 fu entries k P nx (Inv2 (i + 1))) ∧ (Inv2 (rngI 0 (entries.length : Int)).length → W_l_is_short_k2 fu P nx)))
def W_l_is_short_k1 (fu : Nat) (P : Bool → Prop) : Prop :=
  P true
def W_l_is_short (fu : Nat) (row_here : Row) (P : Bool → Prop) : Prop :=
  (if ((!true) || ((!decide ((2 : Int) = 2)) || (!true))) = true then (P false) else (∃ Inv : Nat → Prop, Inv 0 ∧ (∀ (i : Nat) (entries : (List (Int × Row))), row_here.sides[i]? = some entries → Inv i → W_l_is_short_b1 fu entries P (Inv (i + 1))) ∧ (Inv row_here.sides.length → W_l_is_short_k1 fu P)))
theorem dW_l_is_short {fu : Nat} {r : Row} (hp : pre_is (fu + 1) r) (P : Bool → Prop) (hP : P (isShort r)) : W_l_is_short fu r P := by
  obtain ⟨h8, h1, h2⟩ := hp
  unfold W_l_is_short
  rw [if_neg (by simp)]
  refine ⟨fun _ => True, trivial, ?_, fun _ => hP⟩
  rintro i es hi -
  have em := List.mem_of_getElem? hi
  obtain ⟨l1, l2⟩ := h1.2 es em
  obtain ⟨s1, s2⟩ := h2 es em
  unfold W_l_is_short_b1
  rw [if_neg (by simp)]
  refine ⟨by omega, by omega, fun _ => True, trivial, ?_, fun _ => trivial⟩
  rintro j k hj -
  have km := rngI_mem.mp (List.mem_of_getElem? hj)
  have ib : InB es k := ⟨by omega, by omega⟩
  have zm := ixD_mem ib
  unfold W_l_is_short_b2
  refine ⟨ib, fun _ => ib, ?_⟩
  rw [if_neg (by simp)]
  have z1 := (s1 _ zm).1
  refine ⟨ib, fun _ => ib, fun _ _ => ib, fun _ _ => ⟨by omega, (l2 _ zm).2, (s1 _ zm).2⟩, ?_⟩
  rw [if_neg (by simp [isIntF, isShort]; omega)]
  have ib2 : (decide (0 < k)) = true → InB es (k - 1) := fun h => by
    have := of_decide_eq_true h
    exact ⟨by omega, by omega⟩
  have shp : ∀ z ∈ es, Shp (eRow z.2) := fun z hz => by
    obtain ⟨a1, a2⟩ := row_shp (l2 z hz).2
    exact ⟨a1, by omega⟩
  refine ⟨ib2, fun _ => ib, fun h => shp _ (ixD_mem (ib2 h)), fun _ => shp _ zm, fun _ => al_row _ _, fun _ => ?_, ?_⟩
  · rw [eRow_eq]
    simp [py]
  · rw [if_neg]
    · trivial
    · simp only [Bool.and_eq_true, decide_eq_true_eq, Bool.not_eq_true', not_and, Bool.not_eq_false]
      intro h
      have e1 : es[(k - 1).toNat]? = some es[(k - 1).toNat] := List.getElem?_eq_getElem (by omega)
      have e2 : es[k.toNat]? = some es[k.toNat] := List.getElem?_eq_getElem (by omega)
      have a1 := ixD_nat e1
      have a2 := ixD_nat e2
      rw [Int.toNat_of_nonneg (by omega)] at a1 a2
      rw [a1, a2]
      exact List.pairwise_iff_getElem.mp s2 (k - 1).toNat k.toNat (by omega) (by omega) (by omega)
def sp_l_is_integer (K : PySem.W.Frag) : Sp := spF K (fun (x : Int) => [D.int x]) D.bl (fun (x : Int) => True) (fun (x : Int) => isIntF x)
theorem cd_l_is_integer {E : XK} (actual : Int) (hp : True) : CaD K (fun vs H Q => sp_l_is_integer K vs H Q E) [.im (D.int actual)] (.im (D.bl (isIntF actual))) := cd_fn (ens := (fun (x : Int) => [D.int x])) (er := D.bl) actual hp
theorem sc_l_is_integer : FnScope ["_law_actual"] ["_law_actual"] (defScope s_l_is_integer) := ⟨rfl, rfl, rfl, by decide +kernel, rfl, by decide +kernel, by decide +kernel⟩
theorem ok_l_is_integer (T : Txt K mg a) : FnOk P w K mg base CX0 1 a.f_l_is_integer a.d_l_is_integer ["_law_actual"] (sp_l_is_integer K) := by
  refine T.F_l_is_integer.ok sc_l_is_integer (fun vs H Q E h => ?_) (fun cdv A outer s H vs Q E hr h => ?_)
  · obtain ⟨M0, x, w0, hx, _⟩ := h
    exact hx.len
  · obtain ⟨M0, x, w0, hx, hp, kq⟩ := h
    obtain ⟨actual, ex⟩ : ∃ z, z = x := ⟨_, rfl⟩
    subst ex
    have hx : rDs K (Fx M0 H) [D.int actual] vs := hx
    obtain ⟨v, _, rfl, h2, rfl⟩ := hx
    obtain ⟨Y, eY⟩ : ∃ Y : List Addr, Y = [] := ⟨_, rfl⟩
    have g : Gd M0 [] Y H H := Gd.start w0 (by rw [eY]; exact fun y h => nomatch h)
    cases (show v = (V.int actual) from h2)
    obtain ⟨P, eP⟩ : ∃ P : Bool → Prop, P = fun r => r = isIntF actual := ⟨_, rfl⟩
    have kk : ∀ r v H2, P r → Wd M0 H2 → Same H H2 → rD K (Fx M0 H2) (D.bl r) v → Q v H2 := fun r v H2 e => by rw [eP] at e; rw [show r = isIntF actual from e]; exact kq v H2
    have hw : W_l_is_integer actual P := dW_l_is_integer  P (by rw [eP])
    unfold W_l_is_integer at hw
    refine ⟨_, (pss_cons (ps_ret (pe_and (pe_callB call_isi (by rfl) T.b_isinstance (by decide +kernel) (pa_cons (pv 0) (pa_cons (pe_bltn (v := .ty "int") (by rfl) T.b_int (by decide +kernel) rfl) pa_nil))) (pe_one (pe_not (pe_callB call_isi (by rfl) T.b_isinstance (by decide +kernel) (pa_cons (pv 0) (pa_cons (pe_bltn (v := .ty "bool") (by rfl) T.b_bool (by decide +kernel) rfl) pa_nil)))))))
      pss_nil), ?_⟩
    refine st_ret ?_
    refine EV.go (K := K) (d := (.im (D.bl (true && (!false))))) (ev_and (ev_cb (eva_cons (ev_vi (i := 0) rfl) (eva_cons ev_ty eva_nil)) (cd_isi (x := D.int actual) (a := "int") (b := "int") (r := true) rfl (by decide +kernel))) fun hb => (ev_not (ev_cb (eva_cons (ev_vi (i := 0) rfl) (eva_cons ev_ty eva_nil)) (cd_isi (x := D.int actual) (a := "int") (b := "bool") (r := false) rfl (by decide +kernel))))) g.wd fun v2 H2 wd s2 h3 => ?_
    have g2 := g.same s2
    exact kk _ _ _ hw g2.w_end (Bu.nil g2.bu eY) (rV.lx Gd.lx_end h3)
def sp_l_is_short (fu : Nat) (K : PySem.W.Frag) : Sp := spF K (fun (x : Row) => [eRow x]) D.bl (fun (x : Row) => pre_is fu x) (fun (x : Row) => isShort x)
theorem cd_l_is_short {E : XK} (fu : Nat) (row_here : Row) (hp : pre_is fu row_here) : CaD K (fun vs H Q => sp_l_is_short fu K vs H Q E) [.im (eRow row_here)] (.im (D.bl (isShort row_here))) := cd_fn (ens := (fun (x : Row) => [eRow x])) (er := D.bl) row_here hp
theorem sc_l_is_short : FnScope ["_law_row_here", "_law_entries", "_law_k"] ["_law_row_here"] (defScope s_l_is_short) := ⟨rfl, rfl, rfl, by decide +kernel, rfl, by decide +kernel, by decide +kernel⟩
theorem ok_l_is_short_step (T : Txt K mg a) (fu : Nat) (ih : FnOk P w K mg base CX0 (2 + fu) a.f_l_is_short a.d_l_is_short ["_law_row_here"] (sp_l_is_short fu K)) : FnOk P w K mg base CX0 (2 + (fu + 1)) a.f_l_is_short a.d_l_is_short ["_law_row_here"] (sp_l_is_short (fu + 1) K) := by
  refine T.F_l_is_short.ok (k := 2 + fu) sc_l_is_short (fun vs H Q E h => ?_) (fun cdv A outer s H vs Q E hr h => ?_)
  · obtain ⟨M0, x, w0, hx, _⟩ := h
    exact hx.len
  · obtain ⟨M0, x, w0, hx, hp, kq⟩ := h
    obtain ⟨row_here, ex⟩ : ∃ z, z = x := ⟨_, rfl⟩
    subst ex
    have hx : rDs K (Fx M0 H) [eRow row_here] vs := hx
    obtain ⟨v, _, rfl, h2, rfl⟩ := hx
    obtain ⟨Y, eY⟩ : ∃ Y : List Addr, Y = [] := ⟨_, rfl⟩
    have g : Gd M0 [] Y H H := Gd.start w0 (by rw [eY]; exact fun y h => nomatch h)
    have h2 : rV K (mxM M0 []) H (.im (eRow row_here)) v := rV.lx Gd.lx0 (show rV K M0 H (.im (eRow row_here)) v from h2)
    obtain ⟨P, eP⟩ : ∃ P : Bool → Prop, P = fun r => r = isShort row_here := ⟨_, rfl⟩
    have kk : ∀ r v H2, P r → Wd M0 H2 → Same H H2 → rD K (Fx M0 H2) (D.bl r) v → Q v H2 := fun r v H2 e => by rw [eP] at e; rw [show r = isShort row_here from e]; exact kq v H2
    have hw : W_l_is_short fu row_here P := dW_l_is_short hp P (by rw [eP])
    unfold W_l_is_short at hw
    refine ⟨_, (pss_cons (ps_if (PW.pt (pw_or (pt_not (pt_val (pe_callB call_isi (by rfl) T.b_isinstance (by decide +kernel) (pa_cons (pv 0) (pa_cons (pe_bltn (v := .ty "tuple") (by rfl) T.b_tuple (by decide +kernel) rfl) pa_nil))))) (pw_or (pt_cmpR op_ne (pe_callB call_len_seq (by rfl) T.b_len PySem.boot_len (pa_cons (pv 0) pa_nil)) pe_int (nomark _)) (pw_or1 (pt_not (pt_val (pe_callB call_isi (by rfl) T.b_isinstance (by decide +kernel) (pa_cons (pe_ix ix_tup (pv 0) pe_int (fun _ _ => rfl)) (pa_cons (pe_bltn (v := .ty "tuple") (by rfl) T.b_tuple (by decide +kernel) rfl) pa_nil))))))))) (pss_cons (ps_ret pe_bl)
      pss_nil) pss_nil)
      (pss_cons (ps_for PassesOwn.never rfl (pi_tup (pe_ix ix_tup (pv 0) pe_int (fun _ _ => rfl))) (pg_name (i := 1) sc_l_is_short.nd rfl (.inl rfl))
      (pss_cons (ps_if (pt_not (pt_val (pe_callB call_isi (by rfl) T.b_isinstance (by decide +kernel) (pa_cons (pv 1) (pa_cons (pe_bltn (v := .ty "tuple") (by rfl) T.b_tuple (by decide +kernel) rfl) pa_nil))))) (pss_cons (ps_ret pe_bl)
      pss_nil) pss_nil)
      (pss_cons (ps_for PassesOwn.never rfl (pi_range1 (by rfl) T.b_range (pa_cons (pe_callB call_len_seq (by rfl) T.b_len PySem.boot_len (pa_cons (pv 1) pa_nil)) pa_nil)) (pg_name (i := 2) sc_l_is_short.nd rfl (.inl rfl))
      (pss_cons (ps_if (PW.pt (pw_or (pt_not (pt_val (pe_callB call_isi (by rfl) T.b_isinstance (by decide +kernel) (pa_cons (pe_ix ix_tup (pv 1) (pv 2) (fun _ _ => rfl)) (pa_cons (pe_bltn (v := .ty "tuple") (by rfl) T.b_tuple (by decide +kernel) rfl) pa_nil))))) (pw_or1 (pt_cmpR op_ne (pe_callB call_len_seq (by rfl) T.b_len PySem.boot_len (pa_cons (pe_ix ix_tup (pv 1) (pv 2) (fun _ _ => rfl)) pa_nil)) pe_int (nomark _))))) (pss_cons (ps_ret pe_bl)
      pss_nil) pss_nil)
      (pss_cons (ps_if (PW.pt (pw_or (pt_not (pt_val (pe_call (ok_l_is_integer T) (hr.mono (by omega)) rfl T.m_l_is_integer T.k_l_is_integer T.a_l_is_integer .nil pass0 (pa_cons (pe_ix ix_tup (pe_ix ix_tup (pv 1) (pv 2) (fun _ _ => rfl)) pe_int (fun _ _ => rfl)) pa_nil)))) (pw_or (pt_cmpR op_lt (pe_ix ix_tup (pe_ix ix_tup (pv 1) (pv 2) (fun _ _ => rfl)) pe_int (fun _ _ => rfl)) pe_int (nomark _)) (pw_or1 (pt_not (pt_val (pe_call ih (hr.mono (by omega)) rfl T.m_l_is_short T.k_l_is_short T.a_l_is_short .nil pass0 (pa_cons (pe_ix ix_tup (pe_ix ix_tup (pv 1) (pv 2) (fun _ _ => rfl)) pe_int (fun _ _ => rfl)) pa_nil)))))))) (pss_cons (ps_ret pe_bl)
      pss_nil) pss_nil)
      (pss_cons (ps_if (PW.pt (pw_and (pt_cmpR op_gt (pv 2) pe_int (nomark _)) (pw_and1 (pt_not (pt_cmpR (op_ltD (un65 hr)) (pe_ix ix_tup (pe_ix ix_tup (pv 1) (pe_op op_sub (pv 2) pe_int) (fun _ _ => rfl)) pe_int (fun _ _ => rfl)) (pe_ix ix_tup (pe_ix ix_tup (pv 1) (pv 2) (fun _ _ => rfl)) pe_int (fun _ _ => rfl)) (nomark _)))))) (pss_cons (ps_ret pe_bl)
      pss_nil) pss_nil)
      pss_nil))))
      pss_nil)))
      (pss_cons (ps_ret pe_bl)
      pss_nil))), ?_⟩
    refine st_if ?_
    refine EVT.go (b := ((!true) || ((!decide ((2 : Int) = 2)) || (!true)))) (evt_or (evt_not (evt_b (K := K) (ev_cb (eva_cons (ev_var (d := (.im (eRow row_here))) (i := 0) rfl h2) (eva_cons ev_ty eva_nil)) (cd_isi (x := eRow row_here) (a := "tuple") (b := "tuple") (r := true) (by rw [eRow_eq row_here]; rfl) (by decide +kernel))))) fun hb => (evt_or (evt_test (K := K) (ev_op (ev_cb (eva_cons (ev_var (d := (.im (eRow row_here))) (i := 0) rfl h2) eva_nil) (by rw [eRow_eq row_here]; exact cd_lenT2)) ev_int od_neI)) fun hb2 => (evt_not (evt_b (K := K) (ev_cb (eva_cons (ev_op (ev_var (d := (.im (eRow row_here))) (i := 0) rfl h2) ev_int (by rw [eRow_eq row_here]; exact (od_ixT (es := [(eT D.int) row_here.kind, (eT (eT (eP2 D.int eRow))) row_here.sides]) rfl))) (eva_cons ev_ty eva_nil)) (cd_isi (x := (eT (eT (eP2 D.int eRow))) row_here.sides) (a := "tuple") (b := "tuple") (r := true) rfl (by decide +kernel))))))) g.wd fun H2 wd s2 => ?_
    have g2 := g.same s2
    refine wite hw (fun hw => ?_) (fun hw => ?_)
    · skip
      refine st_ret ?_
      refine EV.go (K := K) (d := (.im (D.bl false))) ev_bl g2.wd fun v2 H3 wd2 s3 h3 => ?_
      have g3 := g2.same s3
      exact kk _ _ _ hw g3.w_end (Bu.nil g3.bu eY) (rV.lx Gd.lx_end h3)
    · skip
      refine Lf.st_next ?_
      refine st_for ?_
      have h4 : rV K (mxM M0 []) H2 (.im (eRow row_here)) v := (h2.same s2)
      refine EVI.gom (K := K) (en := (eT (eP2 D.int eRow))) (xs := row_here.sides) (evi_tup (es := List.map (eT (eP2 D.int eRow)) row_here.sides) (ev_op (ev_var (d := (.im (eRow row_here))) (i := 0) rfl h4) ev_int (by rw [eRow_eq row_here]; exact (od_ixT (es := [(eT D.int) row_here.kind, (eT (eT (eP2 D.int eRow))) row_here.sides]) rfl)))) g2.wd fun J H4 wd3 s4 wk => ?_
      have g4 := g2.same s4
      obtain ⟨Inv, hI, hI2, hI3⟩ := hw
      refine st_forit wk (fun i σ' H' => ∃ (o : Option V) (o2 : Option V), σ' = [some v, o, o2] ∧ Gd M0 [] Y H H' ∧ Lx (mxM M0 []) (mxM M0 []) H4 H' ∧ Inv i) ⟨_, _, rfl, g4, Lx.refl, hI⟩ (fun i σ' H' _ ⟨_, _, _, _, hl, _⟩ => ⟨_, hl⟩) ?_ ?_
      · rintro i x2 σ' H5 H6 hi ⟨o, o2, rfl, g5, l, hI4⟩ yd
        obtain ⟨entries, hy, s5, hr2⟩ := yd_map yd
        have hw := hI2 i entries  hy hI4
        have hr2 := hr2 _ g5.wd l
        have g6 := g5.same s5
        have hr2 : rV K (mxM M0 []) H6 (.im ((eT (eP2 D.int eRow)) entries)) x2 := hr2
        unfold W_l_is_short_b1 at hw
        try dsimp only [gName]
        refine st_norm (σ' := [some v, some x2, o2]) rfl ?_
        refine st_if ?_
        refine EVT.go (b := (!true)) (evt_not (evt_b (K := K) (ev_cb (eva_cons (ev_var (d := (.im ((eT (eP2 D.int eRow)) entries))) (i := 1) rfl hr2) (eva_cons ev_ty eva_nil)) (cd_isi (x := (eT (eP2 D.int eRow)) entries) (a := "tuple") (b := "tuple") (r := true) rfl (by decide +kernel))))) g6.wd fun H7 wd4 s6 => ?_
        have g7 := g6.same s6
        refine wite hw (fun hw => ?_) (fun hw => ?_)
        · skip
          refine st_ret ?_
          refine EV.go (K := K) (d := (.im (D.bl false))) ev_bl g7.wd fun v3 H8 wd5 s7 h5 => ?_
          have g8 := g7.same s7
          exact kk _ _ _ hw g8.w_end (Bu.nil g8.bu eY) (rV.lx Gd.lx_end h5)
        · skip
          refine Lf.st_next ?_
          refine st_for ?_
          have h6 : rV K (mxM M0 []) H7 (.im ((eT (eP2 D.int eRow)) entries)) x2 := (hr2.same s6)
          obtain ⟨c, c2, hw⟩ := hw
          refine EVI.gom (K := K) (en := D.int) (xs := (rngI 0 (entries.length : Int))) (evi_range1 (eva_cons (ev_cb (eva_cons (ev_var (d := (.im ((eT (eP2 D.int eRow)) entries))) (i := 1) rfl h6) eva_nil) (cd_lenm (en := (eP2 D.int eRow)) (xs := entries) (.inr rfl))) eva_nil) c c2) g7.wd fun J2 H9 wd6 s8 wk2 => ?_
          have g9 := g7.same s8
          obtain ⟨Inv2, hI5, hI6, hI7⟩ := hw
          refine st_forit wk2 (fun i σ' H' => ∃ (o3 : Option V), σ' = [some v, some x2, o3] ∧ Gd M0 [] Y H H' ∧ Lx (mxM M0 []) (mxM M0 []) H9 H' ∧ Inv2 i) ⟨_, rfl, g9, Lx.refl, hI5⟩ (fun i σ' H' _ ⟨_, _, _, hl, _⟩ => ⟨_, hl⟩) ?_ ?_
          · rintro i2 x3 σ' H10 H11 hi2 ⟨o3, rfl, g10, l2, hI8⟩ yd2
            obtain ⟨k, hy2, s9, hr3⟩ := yd_map yd2
            have hw := hI6 i2 k  hy2 hI8
            have hr3 := hr3 _ g10.wd l2
            have g11 := g10.same s9
            cases (show x3 = (V.int k) from hr3)
            unfold W_l_is_short_b2 at hw
            try dsimp only [gName]
            refine st_norm (σ' := [some v, some x2, some (V.int k)]) rfl ?_
            refine st_if ?_
            have h7 : rV K (mxM M0 []) H11 (.im ((eT (eP2 D.int eRow)) entries)) x2 := ((rV.lx l2 (h6.same s8)).same s9)
            obtain ⟨c4, c5, hw⟩ := hw
            refine EVT.go (b := ((!true) || (!decide ((2 : Int) = 2)))) (evt_or (evt_not (evt_b (K := K) (ev_cb (eva_cons (ev_op (ev_var (d := (.im ((eT (eP2 D.int eRow)) entries))) (i := 1) rfl h7) (ev_vi (i := 2) rfl) (od_ixTm (en := (eP2 D.int eRow)) (xs := entries) c4)) (eva_cons ev_ty eva_nil)) (cd_isi (x := (eP2 D.int eRow) (ixD entries k)) (a := "tuple") (b := "tuple") (r := true) rfl (by decide +kernel))))) fun hb3 => (evt_test (K := K) (ev_op (ev_cb (eva_cons (ev_op (ev_var (d := (.im ((eT (eP2 D.int eRow)) entries))) (i := 1) rfl h7) (ev_vi (i := 2) rfl) (od_ixTm (en := (eP2 D.int eRow)) (xs := entries) (c5 hb3))) eva_nil) cd_lenT2) ev_int od_neI))) g11.wd fun H12 wd7 s10 => ?_
            have g12 := g11.same s10
            refine wite hw (fun hw => ?_) (fun hw => ?_)
            · skip
              refine st_ret ?_
              refine EV.go (K := K) (d := (.im (D.bl false))) ev_bl g12.wd fun v4 H13 wd8 s11 h8 => ?_
              have g13 := g12.same s11
              exact kk _ _ _ hw g13.w_end (Bu.nil g13.bu eY) (rV.lx Gd.lx_end h8)
            · skip
              refine Lf.st_next ?_
              refine st_if ?_
              have h9 : rV K (mxM M0 []) H12 (.im ((eT (eP2 D.int eRow)) entries)) x2 := (h7.same s10)
              obtain ⟨c7, c9, c11, c12, hw⟩ := hw
              refine EVT.go (b := ((!(isIntF ((ixD entries k).1))) || ((decide (((ixD entries k).1) < 1)) || (!(isShort ((ixD entries k).2)))))) (evt_or (evt_not (evt_b (K := K) (ev_call (eva_cons (ev_op (ev_op (ev_var (d := (.im ((eT (eP2 D.int eRow)) entries))) (i := 1) rfl h9) (ev_vi (i := 2) rfl) (od_ixTm (en := (eP2 D.int eRow)) (xs := entries) c7)) ev_int (od_ixT (es := [D.int ((ixD entries k).1), eRow ((ixD entries k).2)]) rfl)) eva_nil) (cd_l_is_integer ((ixD entries k).1) True.intro)))) fun hb4 => (evt_or (evt_test (K := K) (ev_op (ev_op (ev_op (ev_var (d := (.im ((eT (eP2 D.int eRow)) entries))) (i := 1) rfl h9) (ev_vi (i := 2) rfl) (od_ixTm (en := (eP2 D.int eRow)) (xs := entries) (c9 hb4))) ev_int (od_ixT (es := [D.int ((ixD entries k).1), eRow ((ixD entries k).2)]) rfl)) ev_int od_lt)) fun hb5 => (evt_not (evt_b (K := K) (ev_call (eva_cons (ev_op (ev_op (ev_var (d := (.im ((eT (eP2 D.int eRow)) entries))) (i := 1) rfl h9) (ev_vi (i := 2) rfl) (od_ixTm (en := (eP2 D.int eRow)) (xs := entries) (c11 hb4 hb5))) ev_int (od_ixT (es := [D.int ((ixD entries k).1), eRow ((ixD entries k).2)]) rfl)) eva_nil) (cd_l_is_short fu ((ixD entries k).2) (c12 hb4 hb5))))))) g12.wd fun H14 wd9 s12 => ?_
              have g14 := g12.same s12
              refine wite hw (fun hw => ?_) (fun hw => ?_)
              · skip
                refine st_ret ?_
                refine EV.go (K := K) (d := (.im (D.bl false))) ev_bl g14.wd fun v5 H15 wd10 s13 h10 => ?_
                have g15 := g14.same s13
                exact kk _ _ _ hw g15.w_end (Bu.nil g15.bu eY) (rV.lx Gd.lx_end h10)
              · skip
                refine Lf.st_next ?_
                refine st_if ?_
                have h11 : rV K (mxM M0 []) H14 (.im ((eT (eP2 D.int eRow)) entries)) x2 := (h9.same s12)
                obtain ⟨c14, c16, c17, c18, c19, c20, hw⟩ := hw
                refine EVT.go (b := ((decide (0 < k)) && (!(ltD eRow ((ixD entries (k - 1)).2) ((ixD entries k).2))))) (evt_and (evt_test (K := K) (ev_op (ev_vi (i := 2) rfl) ev_int od_gt)) fun hb6 => (evt_not (evt_test (K := K) (ev_op (ev_op (ev_op (ev_var (d := (.im ((eT (eP2 D.int eRow)) entries))) (i := 1) rfl h11) (ev_op (ev_vi (i := 2) rfl) ev_int od_sub) (od_ixTm (en := (eP2 D.int eRow)) (xs := entries) (c14 hb6))) ev_int (od_ixT (es := [D.int ((ixD entries (k - 1)).1), eRow ((ixD entries (k - 1)).2)]) rfl)) (ev_op (ev_op (ev_var (d := (.im ((eT (eP2 D.int eRow)) entries))) (i := 1) rfl h11) (ev_vi (i := 2) rfl) (od_ixTm (en := (eP2 D.int eRow)) (xs := entries) (c16 hb6))) ev_int (od_ixT (es := [D.int ((ixD entries k).1), eRow ((ixD entries k).2)]) rfl)) (od_ltD (en := eRow) (x := ((ixD entries (k - 1)).2)) (y := ((ixD entries k).2)) (c17 hb6) (c18 hb6) (c19 hb6) (c20 hb6)))))) g14.wd fun H16 wd11 s14 => ?_
                have g16 := g14.same s14
                refine wite hw (fun hw => ?_) (fun hw => ?_)
                · skip
                  refine st_ret ?_
                  refine EV.go (K := K) (d := (.im (D.bl false))) ev_bl g16.wd fun v6 H17 wd12 s15 h12 => ?_
                  have g17 := g16.same s15
                  exact kk _ _ _ hw g17.w_end (Bu.nil g17.bu eY) (rV.lx Gd.lx_end h12)
                · skip
                  refine Lf.st_next ?_
                  exact ⟨_, rfl, g16, ((((l2.trans (Lx.same s9)).trans (Lx.same s10)).trans (Lx.same s12)).trans (Lx.same s14)), hw⟩
          · rintro σ' H18 ⟨o3, rfl, g18, l3, hI9⟩
            have hw := hI7 hI9
            unfold W_l_is_short_k2 at hw
            exact ⟨_, _, rfl, g18, ((((l.trans (Lx.same s5)).trans (Lx.same s6)).trans (Lx.same s8)).trans l3), hw⟩
      · rintro σ' H19 ⟨o, o2, rfl, g19, l4, hI10⟩
        have hw := hI3 hI10
        unfold W_l_is_short_k1 at hw
        try dsimp only [gName]
        refine st_norm (σ' := [some v, o, o2]) rfl ?_
        refine st_ret ?_
        refine EV.go (K := K) (d := (.im (D.bl true))) ev_bl g19.wd fun v7 H20 wd13 s16 h13 => ?_
        have g20 := g19.same s16
        exact kk _ _ _ hw g20.w_end (Bu.nil g20.bu eY) (rV.lx Gd.lx_end h13)
theorem ok_l_is_short (T : Txt K mg a) : ∀ fu : Nat, FnOk P w K mg base CX0 (2 + fu) a.f_l_is_short a.d_l_is_short ["_law_row_here"] (sp_l_is_short fu K)
  | 0 => T.F_l_is_short.ok (k := 1) sc_l_is_short (fun vs H Q E h => by obtain ⟨M0, x, w0, hx, _⟩ := h; exact hx.len) (fun cdv A outer s H vs Q E hr h => by obtain ⟨M0, x, w0, hx, hp, kq⟩ := h; exact (no_l_is_short hp).elim)
  | fu + 1 => ok_l_is_short_step T fu (ok_l_is_short T fu)

end
end Toy

set_option Elab.async false
set_option linter.all false
set_option maxRecDepth 100000
set_option maxHeartbeats 4000000
set_option pp.maxSteps 1500
set_option pp.deepTerms false
namespace Toy
open PySem L2 Lf
section
variable {P : Program} {w : World} {K : PySem.W.Frag} {mg : Str → Option Value} {base : Heap} {a : Ad}

def RQ : Nat → Row → Prop
  | 0, _ => False
  | k + 1, r => r.sides.length ≤ 6 ∧ ∀ es ∈ r.sides, es.length ≤ 4 ∧ ∀ z ∈ es, 0 ≤ z.1 ∧ z.1 ≤ 10 ^ 30 ∧ RQ k z.2
theorem RQ.rd : ∀ {k : Nat} {r : Row}, RQ k r → RD k r
  | 0, _, h => h.elim
  | k + 1, r, h => ⟨by have := h.1; omega, fun es he => ⟨by have := (h.2 es he).1; omega, fun z hz => ⟨((h.2 es he).2 z hz).1, RQ.rd ((h.2 es he).2 z hz).2.2⟩⟩⟩
theorem RowAt.rq {hs : List Hd} {great : Bool} (W : WfHs hs) : ∀ (k : Nat) (at_ : Int) (r : Row), RowAt hs great k at_ r → RQ k r
  | 0, _, _, h => h.elim
  | k + 1, at_, r, h => by
    obtain ⟨_, hd, hh, _, hl, hp⟩ := h
    have wf := W.2.2 _ _ hh
    refine ⟨by rw [hl]; exact wf.ln, fun es he => ?_⟩
    obtain ⟨j, hj⟩ := List.mem_iff_getElem?.mp he
    have jl := (List.getElem?_eq_some_iff.mp hj).1
    have hlj : hd.links[j]? = some hd.links[j] := List.getElem?_eq_getElem (by omega)
    obtain ⟨h1, _, h3⟩ := hp j _ es hlj hj
    exact ⟨h1, fun e he => ⟨(h3 e he).1, (h3 e he).2.1, RowAt.rq W k _ _ (h3 e he).2.2.2⟩⟩
def S_split (k : Nat) (n : Nat) (r : Row) (P : Row → Nat → Prop) : Prop := RQ k r ∧ n + cost k ≤ 2 ^ 56 ∧ ∀ r' m, RD k r' → shortR r' = shortR r → m ≤ n + cost k → P r' m
theorem no_l_split {n : Nat} {r : Row} {P : Row → Nat → Prop} (h : S_split 0 n r P) : False := h.1
noncomputable def shm (es : List (Int × Row)) : List (Int × Row) := es.map fun z => (z.1, shortR z.2)
theorem ws_shm (g : Row → Int) (a b : List (Int × Row)) : wsum g (shm (a ++ b)) = wsum g (shm a) + wsum g (shm b) := by unfold shm; rw [List.map_append, wsum_app]
theorem ws_one (g : Row → Int) (c : Int) (r : Row) : wsum g (shm [(c, r)]) = c * g (shortR r) := by simp [shm, wsum]
def W_l_split_k3 (fu : Nat) (row_here : Row) (sides : (List (List (Int × Row)))) (turned3 : (List (Int × Row))) (n6 : Nat) (P : Row → Nat → Prop) (nx : (List (List (Int × Row))) → Nat → Prop) (nx2 : (List (Int × Row)) → Nat → Prop) : Prop :=
  nx2 turned3 n6
def W_l_split_b2 (fu : Nat) (row_here : Row) (sides : (List (List (Int × Row)))) (turned2 : (List (Int × Row))) (entry : (Int × Row)) (n3 : Nat) (P : Row → Nat → Prop) (nx : (List (List (Int × Row))) → Nat → Prop) (nx2 : (List (Int × Row)) → Nat → Prop) : Prop :=
  S_draw n3 (entry.1 + 1) (fun less2 n4 => ∀ d : Row, d = entry.2 → S_split fu n4 d (fun other2 n5 => S_draw n5 2 (fun r n7 => (if (decide (r = 0)) = true then ((([(less2, other2)] : (List (Int × Row))).length + turned2.length ≤ sizeLine) ∧ ((([(less2, other2)] : (List (Int × Row))) ++ turned2).length + ([((entry.1 - less2), entry.2)] : (List (Int × Row))).length ≤ sizeLine) ∧ ∀ turned4 : (List (Int × Row)), turned4 = ((([(less2, other2)] : (List (Int × Row))) ++ turned2) ++ ([((entry.1 - less2), entry.2)] : (List (Int × Row)))) → W_l_split_k3 fu row_here sides turned4 n7 P nx nx2) else ((([(entry.1, other2)] : (List (Int × Row))).length + turned2.length ≤ sizeLine) ∧ ((([(entry.1, other2)] : (List (Int × Row))) ++ turned2).length + ([(0, entry.2)] : (List (Int × Row))).length ≤ sizeLine) ∧ ∀ turned5 : (List (Int × Row)), turned5 = ((([(entry.1, other2)] : (List (Int × Row))) ++ turned2) ++ ([(0, entry.2)] : (List (Int × Row)))) → W_l_split_k3 fu row_here sides turned5 n7 P nx nx2)))))
def W_l_split_k2 (fu : Nat) (row_here : Row) (sides : (List (List (Int × Row)))) (turned2 : (List (Int × Row))) (n3 : Nat) (P : Row → Nat → Prop) (nx : (List (List (Int × Row))) → Nat → Prop) : Prop :=
  (sides.length < sizeLine) ∧ ∀ sides2 : (List (List (Int × Row))), sides2 = (sides ++ [turned2]) → nx sides2 n3
def W_l_split_b1 (fu : Nat) (row_here : Row) (sides : (List (List (Int × Row)))) (entries : (List (Int × Row))) (n2 : Nat) (P : Row → Nat → Prop) (nx : (List (List (Int × Row))) → Nat → Prop) : Prop :=
  ∀ turned : (List (Int × Row)), turned = ([] : (List (Int × Row))) → ∃ Inv2 : Nat → (List (Int × Row)) → Nat → Prop, Inv2 0 turned n2 ∧ (∀ (i : Nat) (entry : (Int × Row)) (turned2 : (List (Int × Row))) (n3 : Nat), entries[i]? = some entry → Inv2 i turned2 n3 → W_l_split_b2 fu row_here sides turned2 entry n3 P nx (Inv2 (i + 1))) ∧ (∀ (turned2 : (List (Int × Row))) (n3 : Nat), Inv2 entries.length turned2 n3 → W_l_split_k2 fu row_here sides turned2 n3 P nx)
def W_l_split_k1 (fu : Nat) (row_here : Row) (sides : (List (List (Int × Row)))) (n2 : Nat) (P : Row → Nat → Prop) : Prop :=
  P (Row.mk row_here.kind sides) n2
def W_l_split (fu : Nat) (n : Nat) (row_here : Row) (P : Row → Nat → Prop) : Prop :=
  ∃ Inv : Nat → (List (List (Int × Row))) → Nat → Prop, Inv 0 ([] : (List (List (Int × Row)))) n ∧ (∀ (i : Nat) (entries : (List (Int × Row))) (sides : (List (List (Int × Row)))) (n2 : Nat), row_here.sides[i]? = some entries → Inv i sides n2 → W_l_split_b1 fu row_here sides entries n2 P (Inv (i + 1))) ∧ (∀ (sides : (List (List (Int × Row)))) (n2 : Nat), Inv row_here.sides.length sides n2 → W_l_split_k1 fu row_here sides n2 P)
theorem dW_l_split {k n : Nat} {r : Row} {P : Row → Nat → Prop} (h : S_split (k + 1) n r P) : W_l_split k n r P := by
  obtain ⟨⟨q1, q2⟩, hn, kk⟩ := h
  have sl := sizeLine_eq
  have ck : cost (k + 1) = 40 * cost k := by unfold cost; rw [Nat.pow_succ]; omega
  have c50 : 50 ≤ cost k := by unfold cost; have := Nat.pow_pos (n := k) (show 0 < 40 by decide); omega
  refine ⟨fun i sides m => sides.length = i ∧ (∀ (j : Nat) (es fs : List (Int × Row)), r.sides[j]? = some es → sides[j]? = some fs → shortE fs = shortE es ∧ fs.length ≤ 8 ∧ ∀ z ∈ fs, 0 ≤ z.1 ∧ RD k z.2) ∧ m ≤ n + i * (4 * (2 + cost k)), ⟨rfl, (fun j es fs _ h => by simp at h), by omega⟩, ?_, ?_⟩
  · rintro i es sides m hi ⟨i1, i2, i3⟩
    have il := (List.getElem?_eq_some_iff.mp hi).1
    have em := List.mem_of_getElem? hi
    obtain ⟨e4, ez⟩ := q2 es em
    have b1 : i * (4 * (2 + cost k)) ≤ 5 * (4 * (2 + cost k)) := Nat.mul_le_mul_right _ (by omega)
    rintro _ rfl
    refine ⟨fun j turned m' => (∀ g : Row → Int, wsum g (shm turned) = wsum g (shm (es.take j))) ∧ turned.length ≤ 2 * j ∧ (∀ z ∈ turned, 0 ≤ z.1 ∧ RD k z.2) ∧ m' ≤ m + j * (2 + cost k), ⟨fun g => rfl, Nat.le_refl _, (fun z hz => nomatch hz), by omega⟩, ?_, ?_⟩
    · rintro j z turned m' hj ⟨t1, t2, t3, t4⟩
      have jl := (List.getElem?_eq_some_iff.mp hj).1
      have zm := List.mem_of_getElem? hj
      obtain ⟨z0, z1, zq⟩ := ez z zm
      have b2 : j * (2 + cost k) ≤ 3 * (2 + cost k) := Nat.mul_le_mul_right _ (by omega)
      have b3 : (j + 1) * (2 + cost k) = j * (2 + cost k) + (2 + cost k) := by rw [Nat.add_mul, Nat.one_mul]
      have tk : ∀ g : Row → Int, wsum g (shm (es.take (j + 1))) = wsum g (shm (es.take j)) + z.1 * g (shortR z.2) := fun g => by rw [snoc_take hj, ws_shm, ws_one]
      refine ⟨by omega, by omega, by omega, fun less l0 l1 => ?_⟩
      rintro _ rfl
      refine ⟨zq, by omega, fun other m2 or oe om => ?_⟩
      refine ⟨by omega, by decide, by decide, fun r2 r20 r21 => ?_⟩
      dsimp only
      by_cases cc : (decide (r2 = 0)) = true
      · rw [if_pos cc]
        refine ⟨by simp; omega, by simp; omega, ?_⟩
        rintro _ rfl
        refine ⟨fun g => ?_, by simp; omega, fun y hy => ?_, by omega⟩
        · rw [ws_shm, ws_shm, ws_one, ws_one, t1, tk, oe, Int.sub_mul]
          omega
        · simp only [List.mem_append, List.mem_singleton] at hy
          rcases hy with (rfl | hy) | rfl
          · exact ⟨l0, or⟩
          · exact t3 y hy
          · exact ⟨by dsimp only; omega, zq.rd⟩
      · rw [if_neg cc]
        refine ⟨by simp; omega, by simp; omega, ?_⟩
        rintro _ rfl
        refine ⟨fun g => ?_, by simp; omega, fun y hy => ?_, by omega⟩
        · rw [ws_shm, ws_shm, ws_one, ws_one, t1, tk, oe, Int.zero_mul]
          omega
        · simp only [List.mem_append, List.mem_singleton] at hy
          rcases hy with (rfl | hy) | rfl
          · exact ⟨z0, or⟩
          · exact t3 y hy
          · exact ⟨Int.le_refl _, zq.rd⟩
    · rintro turned m' ⟨t1, t2, t3, t4⟩
      rw [List.take_length] at t1
      refine ⟨by omega, ?_⟩
      rintro _ rfl
      have b4 : es.length * (2 + cost k) ≤ 4 * (2 + cost k) := Nat.mul_le_mul_right _ e4
      refine ⟨by simp [i1], fun j es' fs' h1 h2 => ?_, by rw [Nat.add_mul, Nat.one_mul]; omega⟩
      by_cases hj : j < sides.length
      · rw [List.getElem?_append_left hj] at h2
        exact i2 j es' fs' h1 h2
      · rw [List.getElem?_append_right (by omega)] at h2
        have ej : j = i := by
          have := (List.getElem?_eq_some_iff.mp h2).choose
          simp at this
          omega
        subst ej
        rw [i1, Nat.sub_self] at h2
        cases h2
        rw [hi] at h1
        cases h1
        refine ⟨nrm_eq inj_Row alk_row (shL_nn fun z hz => (t3 z hz).1) (shL_nn fun z hz => (ez z hz).1) t1, by omega, t3⟩
  · rintro sides m ⟨i1, i2, i3⟩
    have b1 : r.sides.length * (4 * (2 + cost k)) ≤ 6 * (4 * (2 + cost k)) := Nat.mul_le_mul_right _ q1
    have at_ : ∀ (j : Nat) (fs : List (Int × Row)), sides[j]? = some fs → ∃ es, r.sides[j]? = some es ∧ shortE fs = shortE es ∧ fs.length ≤ 8 ∧ ∀ z ∈ fs, 0 ≤ z.1 ∧ RD k z.2 := fun j fs h => by
      have jl := (List.getElem?_eq_some_iff.mp h).1
      have e : r.sides[j]? = some r.sides[j] := List.getElem?_eq_getElem (by omega)
      exact ⟨_, e, i2 j _ fs e h⟩
    refine kk (Row.mk r.kind sides) m ⟨by show sides.length ≤ 100; omega, fun fs hf => ?_⟩ ?_ (by omega)
    · obtain ⟨j, hj⟩ := List.mem_iff_getElem?.mp (show fs ∈ sides from hf)
      obtain ⟨es, _, _, h8, hz⟩ := at_ j fs hj
      exact ⟨by omega, hz⟩
    · rw [shortR_eq, shortR_eq r]
      show Row.mk r.kind (sides.map shortE) = _
      congr 1
      refine List.ext_getElem? fun j => ?_
      rw [List.getElem?_map, List.getElem?_map]
      cases h : sides[j]? with
      | none =>
        have := List.getElem?_eq_none_iff.mp h
        rw [List.getElem?_eq_none (by omega)]
      | some fs =>
        obtain ⟨es, e, h1, _⟩ := at_ j fs h
        rw [e]
        show some _ = some _
        rw [h1]
def sp_l_split (fu : Nat) (K : PySem.W.Frag) : Sp := spS SMA K (fun (x : Row) => [eRow x]) eRow (fun n (x : Row) P => S_split fu n x P)
theorem sc_l_split : FnScope ["_law_state", "_law_row_here", "_law_sides", "_law_entries", "_law_turned", "_law_entry", "_law_less", "_law_other"] ["_law_state", "_law_row_here"] (defScope s_l_split) := ⟨rfl, rfl, rfl, by decide +kernel, rfl, by decide +kernel, by decide +kernel⟩
theorem ok_l_split_step (T : Txt K mg a) (fu : Nat) (ih : FnOk P w K mg base CX0 (3 + fu) a.f_l_split a.d_l_split ["_law_state", "_law_row_here"] (sp_l_split fu K)) : FnOk P w K mg base CX0 (3 + (fu + 1)) a.f_l_split a.d_l_split ["_law_state", "_law_row_here"] (sp_l_split (fu + 1) K) := by
  refine T.F_l_split.ok (k := 3 + fu) sc_l_split (fun vs H Q E h => ?_) (fun cdv A outer s H vs Q E hr h => ?_)
  · obtain ⟨M0, st, Y, n, x, us, P, rfl, w0, ys, hS, hx, _⟩ := h
    exact congrArg Nat.succ hx.len
  · obtain ⟨M0, st, Y, n, x, us, P, rfl, w0, ys, hS, hx, hS0, kk⟩ := h
    obtain ⟨row_here, ex⟩ : ∃ z, z = x := ⟨_, rfl⟩
    subst ex
    have hx : rDs K (Fx M0 H) [eRow row_here] us := hx
    obtain ⟨v, _, rfl, h2, rfl⟩ := hx
    have g : Gd M0 [] Y H H := Gd.start w0 ys
    have h2 : rV K (mxM M0 []) H (.im (eRow row_here)) v := rV.lx Gd.lx0 (show rV K M0 H (.im (eRow row_here)) v from h2)
    have hw := dW_l_split hS0
    unfold W_l_split at hw
    refine ⟨_, (pss_cons (ps_set (i := 2) sc_l_split.nd rfl (.inl rfl) (pe_lstS pa_nil))
      (pss_cons (ps_for PassesOwn.never rfl (pi_tup (pe_ix ix_tup (pv 1) pe_int (fun _ _ => rfl))) (pg_name (i := 3) sc_l_split.nd rfl (.inl rfl))
      (pss_cons (ps_set (i := 4) sc_l_split.nd rfl (.inl rfl) (pe_lstS pa_nil))
      (pss_cons (ps_for PassesOwn.never rfl (pi_tup (pv 3)) (pg_name (i := 5) sc_l_split.nd rfl (.inl rfl))
      (pss_cons (ps_set (i := 6) sc_l_split.nd rfl (.inl rfl) (pe_call (ok_l_draw T) (hr.mono (by omega)) rfl T.m_l_draw T.k_l_draw T.a_l_draw .nil pass0 (pa_cons (pv 0) (pa_cons (pe_op op_add (pe_ix ix_tup (pv 5) pe_int (fun _ _ => rfl)) pe_int) pa_nil))))
      (pss_cons (ps_set (i := 7) sc_l_split.nd rfl (.inl rfl) (pe_call ih (hr.mono (by omega)) rfl T.m_l_split T.k_l_split T.a_l_split .nil pass0 (pa_cons (pv 0) (pa_cons (pe_ix ix_tup (pv 5) pe_int (fun _ _ => rfl)) pa_nil))))
      (pss_cons (ps_if (pt_cmpR op_eq (pe_call (ok_l_draw T) (hr.mono (by omega)) rfl T.m_l_draw T.k_l_draw T.a_l_draw .nil pass0 (pa_cons (pv 0) (pa_cons pe_int pa_nil))) pe_int (nomark _)) (pss_cons (ps_set (i := 4) sc_l_split.nd rfl (.inl rfl) (pe_op op_catS (pe_op op_catS (pe_lstS (pa_cons (pe_tupS (pa_cons (pv 6) (pa_cons (pv 7) pa_nil))) pa_nil)) (pv 4)) (pe_lstS (pa_cons (pe_tupS (pa_cons (pe_op op_sub (pe_ix ix_tup (pv 5) pe_int (fun _ _ => rfl)) (pv 6)) (pa_cons (pe_ix ix_tup (pv 5) pe_int (fun _ _ => rfl)) pa_nil))) pa_nil))))
      pss_nil) (pss_cons (ps_set (i := 4) sc_l_split.nd rfl (.inl rfl) (pe_op op_catS (pe_op op_catS (pe_lstS (pa_cons (pe_tupS (pa_cons (pe_ix ix_tup (pv 5) pe_int (fun _ _ => rfl)) (pa_cons (pv 7) pa_nil))) pa_nil)) (pv 4)) (pe_lstS (pa_cons (pe_tupS (pa_cons pe_int (pa_cons (pe_ix ix_tup (pv 5) pe_int (fun _ _ => rfl)) pa_nil))) pa_nil))))
      pss_nil))
      pss_nil))))
      (pss_cons (ps_expr (pe_bm PySem.F.plainAttrs_list PySem.F.slot_list_append PySem.F.type_list_append mt_append (pv 2) (pa_cons (pe_callTy call_tupleD (by rfl) T.b_tuple (by decide +kernel) (pa_cons (pv 4) pa_nil)) pa_nil)))
      pss_nil))))
      (pss_cons (ps_ret (pe_tupS (pa_cons (pe_ix ix_tup (pv 1) pe_int (fun _ _ => rfl)) (pa_cons (pe_callTy call_tupleD (by rfl) T.b_tuple (by decide +kernel) (pa_cons (pv 2) pa_nil)) pa_nil))))
      pss_nil))), ?_⟩
    refine st_set ?_
    refine EVN.go (K := K) (evn_lst (ds := []) eva_nil (Nat.le_of_ble_eq_true rfl)) g.wd fun p H2 H3 wd s2 np s3 vs2 hp2 hv => ?_
    have g2 := g.same s2
    have hS := hS.same s2
    have ex := Gd.ex_new (M0 := M0) (Ls := []) s3 np
    have g3 := g2.new s3 np hp2
    have hS2 := hS.same s3
    have h3 : rV K (mxM M0 [p]) H3 (.mu p (List.map (eT (eP2 D.int eRow)) ([] : (List (List (Int × Row)))))) (V.ref p) := ⟨rfl, vs2, hp2, rDs.mono ex.lx _ _ hv⟩
    try dsimp only [gName]
    refine st_norm (σ' := [some (V.ref st), some v, some (V.ref p), none, none, none, none, none]) rfl ?_
    refine st_for ?_
    have h4 : rV K (mxM M0 [p]) H3 (.im (eRow row_here)) v := ((h2.same s2).ex ex)
    refine EVI.gom (K := K) (en := (eT (eP2 D.int eRow))) (xs := row_here.sides) (evi_tup (es := List.map (eT (eP2 D.int eRow)) row_here.sides) (ev_op (ev_var (d := (.im (eRow row_here))) (i := 1) rfl h4) ev_int (by rw [eRow_eq row_here]; exact (od_ixT (es := [(eT D.int) row_here.kind, (eT (eT (eP2 D.int eRow))) row_here.sides]) rfl)))) g3.wd fun J H4 wd2 s4 wk => ?_
    have g4 := g3.same s4
    have h5 := rV.same s4 h3
    have hS3 := hS2.same s4
    obtain ⟨Inv, hI, hI2, hI3⟩ := hw
    refine st_forit wk (fun i σ' H' => ∃ (sides : (List (List (Int × Row)))) (o : Option V) (o2 : Option V) (o3 : Option V) (o4 : Option V) (o5 : Option V) (n2 : Nat), σ' = [some (V.ref st), some v, some (V.ref p), o, o2, o3, o4, o5] ∧ Gd M0 [p] Y H H' ∧ Lx (mxM M0 [p]) (mxM M0 [p]) H4 H' ∧ rV K (mxM M0 [p]) H' (.mu p (List.map (eT (eP2 D.int eRow)) sides)) (V.ref p) ∧ SMA H' st Y n2 ∧ Inv i sides n2) ⟨([] : (List (List (Int × Row)))), _, _, _, _, _, n, rfl, g4, Lx.refl, h5, hS3, hI⟩ (fun i σ' H' _ ⟨_, _, _, _, _, _, _, _, _, hl, _⟩ => ⟨_, hl⟩) ?_ ?_
    · rintro i x2 σ' H5 H6 hi ⟨sides, o, o2, o3, o4, o5, n2, rfl, g5, l, h6, hS4, hI4⟩ yd
      obtain ⟨entries, hy, s5, hr2⟩ := yd_map yd
      have hw := hI2 i entries  sides n2 hy hI4
      have hr2 := hr2 _ g5.wd l
      have g6 := g5.same s5
      have h7 := rV.same s5 h6
      have hS5 := hS4.same s5
      have hr2 : rV K (mxM M0 [p]) H6 (.im ((eT (eP2 D.int eRow)) entries)) x2 := hr2
      unfold W_l_split_b1 at hw
      try dsimp only [gName]
      refine st_norm (σ' := [some (V.ref st), some v, some (V.ref p), some x2, o2, o3, o4, o5]) rfl ?_
      refine st_set ?_
      refine EV.goA (K := K) (en := (eL (eP2 D.int eRow))) (x0 := ([] : (List (Int × Row)))) (ev_lst (ds := []) eva_nil (Nat.le_of_ble_eq_true rfl)) g6.wd fun turned e v2 H7 wd3 s6 h8 => ?_
      have hw := hw turned e
      have g7 := g6.same s6
      have h9 := rV.same s6 h7
      have hS6 := hS5.same s6
      try dsimp only [gName]
      refine st_norm (σ' := [some (V.ref st), some v, some (V.ref p), some x2, some v2, o3, o4, o5]) rfl ?_
      refine st_for ?_
      have h10 : rV K (mxM M0 [p]) H7 (.im ((eT (eP2 D.int eRow)) entries)) x2 := (hr2.same s6)
      refine EVI.gom (K := K) (en := (eP2 D.int eRow)) (xs := entries) (evi_tup (es := List.map (eP2 D.int eRow) entries) (ev_var (d := (.im ((eT (eP2 D.int eRow)) entries))) (i := 3) rfl h10)) g7.wd fun J2 H8 wd4 s7 wk2 => ?_
      have g8 := g7.same s7
      have h11 := rV.same s7 h9
      have hS7 := hS6.same s7
      obtain ⟨Inv2, hI5, hI6, hI7⟩ := hw
      have h13 : rV K (mxM M0 [p]) H8 (.im ((eL (eP2 D.int eRow)) turned)) v2 := (h8.same s7)
      refine st_forit wk2 (fun i σ' H' => ∃ (v3 : V) (turned2 : (List (Int × Row))) (o6 : Option V) (o7 : Option V) (o8 : Option V) (n3 : Nat), σ' = [some (V.ref st), some v, some (V.ref p), some x2, some v3, o6, o7, o8] ∧ Gd M0 [p] Y H H' ∧ Lx (mxM M0 [p]) (mxM M0 [p]) H8 H' ∧ rV K (mxM M0 [p]) H' (.im ((eL (eP2 D.int eRow)) turned2)) v3 ∧ rV K (mxM M0 [p]) H' (.mu p (List.map (eT (eP2 D.int eRow)) sides)) (V.ref p) ∧ SMA H' st Y n3 ∧ Inv2 i turned2 n3) ⟨_, turned, _, _, _, n2, rfl, g8, Lx.refl, h13, h11, hS7, hI5⟩ (fun i σ' H' _ ⟨_, _, _, _, _, _, _, _, hl, _⟩ => ⟨_, hl⟩) ?_ ?_
      · rintro i2 x3 σ' H9 H10 hi2 ⟨v3, turned2, o6, o7, o8, n3, rfl, g9, l2, h12, h14, hS8, hI8⟩ yd2
        obtain ⟨entry, hy2, s8, hr3⟩ := yd_map yd2
        have hw := hI6 i2 entry  turned2 n3 hy2 hI8
        have hr3 := hr3 _ g9.wd l2
        have g10 := g9.same s8
        have h15 := rV.same s8 h14
        have hS9 := hS8.same s8
        have hr3 : rV K (mxM M0 [p]) H10 (.im ((eP2 D.int eRow) entry)) x3 := hr3
        unfold W_l_split_b2 at hw
        try dsimp only [gName]
        refine st_norm (σ' := [some (V.ref st), some v, some (V.ref p), some x2, some v3, some x3, o7, o8]) rfl ?_
        refine st_set ?_
        refine x_call ?_
        refine x_cons ?_
        refine ⟨_, rfl, ?_⟩
        refine x_cons ?_
        refine EV.go (K := K) (d := (.im (D.int (entry.1 + 1)))) (ev_op (ev_op (ev_var (d := (.im ((eP2 D.int eRow) entry))) (i := 5) rfl hr3) ev_int (od_ixT (es := [D.int entry.1, eRow entry.2]) rfl)) ev_int od_add) g10.wd fun v5 H12 wd6 s10 h17 => ?_
        have g11 := g10.same s10
        have h18 := rV.same s10 h15
        have hS10 := hS9.same s10
        cases (show v5 = (V.int (entry.1 + 1)) from h17)
        refine x_nil ?_
        refine ⟨mxM M0 [p], st, Y, n3, (entry.1 + 1), _, _, rfl, g11.wd, fun y hy => .inl (g11.ys y hy), hS10, ⟨_, _, rfl, rfl, rfl⟩, hw, fun less2 v6 n4 H13 hw wd7 b hS11 h19 => ?_⟩
        have g12 := g11.call wd7 b
        have l3 := Gd.lx_call g11 b
        have h20 := mu_call h18 rfl g11 (by simp) b
        cases (show v6 = (V.int less2) from h19)
        try dsimp only [gName]
        refine st_norm (σ' := [some (V.ref st), some v, some (V.ref p), some x2, some v3, some x3, some (V.int less2), o8]) rfl ?_
        refine st_set ?_
        refine x_call ?_
        refine x_cons ?_
        refine ⟨_, rfl, ?_⟩
        refine x_cons ?_
        have h22 : rV K (mxM M0 [p]) H13 (.im ((eP2 D.int eRow) entry)) x3 := (rV.lx l3 (hr3.same s10))
        refine EV.goA (K := K) (en := eRow) (x0 := entry.2) (ev_op (ev_var (d := (.im ((eP2 D.int eRow) entry))) (i := 5) rfl h22) ev_int (od_ixT (es := [D.int entry.1, eRow entry.2]) rfl)) g12.wd fun d e2 v8 H15 wd9 s12 h23 => ?_
        have hw := hw d e2
        have g13 := g12.same s12
        have h24 := rV.same s12 h20
        have hS12 := hS11.same s12
        refine x_nil ?_
        refine ⟨mxM M0 [p], st, Y, n4, d, _, _, rfl, g13.wd, fun y hy => .inl (g13.ys y hy), hS12, ⟨_, _, rfl, h23, rfl⟩, hw, fun other2 v9 n5 H16 hw wd10 b2 hS13 h25 => ?_⟩
        have g14 := g13.call wd10 b2
        have l4 := Gd.lx_call g13 b2
        have h26 := mu_call h24 rfl g13 (by simp) b2
        have h25 : rV K (mxM M0 [p]) H16 (.im (eRow other2)) v9 := h25
        try dsimp only [gName]
        refine st_norm (σ' := [some (V.ref st), some v, some (V.ref p), some x2, some v3, some x3, some (V.int less2), some v9]) rfl ?_
        try dsimp only [gName]
        refine if_cut (fun σ' H' => ∃ (v10 : V) (turned3 : (List (Int × Row))) (n6 : Nat), σ' = [some (V.ref st), some v, some (V.ref p), some x2, some v10, some x3, some (V.int less2), some v9] ∧ Gd M0 [p] Y H H' ∧ Lx (mxM M0 [p]) (mxM M0 [p]) H16 H' ∧ rV K (mxM M0 [p]) H' (.im ((eL (eP2 D.int eRow)) turned3)) v10 ∧ rV K (mxM M0 [p]) H' (.mu p (List.map (eT (eP2 D.int eRow)) sides)) (V.ref p) ∧ SMA H' st Y n6 ∧ W_l_split_k3 fu row_here sides turned3 n6 P (Inv (i + 1)) (Inv2 (i2 + 1))) (fun nx hnx => ?_) ?_
        · refine x_test ?_
          refine x_op ?_
          refine x_call ?_
          refine x_cons ?_
          refine ⟨_, rfl, ?_⟩
          refine x_cons ?_
          refine EV.go (K := K) (d := (.im (D.int 2))) ev_int g14.wd fun v12 H18 wd12 s14 h29 => ?_
          have g15 := g14.same s14
          have h30 := rV.same s14 h26
          have hS14 := hS13.same s14
          cases (show v12 = (V.int 2) from h29)
          refine x_nil ?_
          refine ⟨mxM M0 [p], st, Y, n5, 2, _, _, rfl, g15.wd, fun y hy => .inl (g15.ys y hy), hS14, ⟨_, _, rfl, rfl, rfl⟩, hw, fun r v13 n7 H19 hw wd13 b3 hS15 h31 => ?_⟩
          have g16 := g15.call wd13 b3
          have l5 := Gd.lx_call g15 b3
          have h32 := mu_call h30 rfl g15 (by simp) b3
          cases (show v13 = (V.int r) from h31)
          refine EV.go (K := K) (d := (.im (D.int 0))) ev_int g16.wd fun v14 H20 wd14 s15 h33 => ?_
          have g17 := g16.same s15
          have h34 := rV.same s15 h32
          have hS16 := hS15.same s15
          cases (show v14 = (V.int 0) from h33)
          refine opd_go (K := K) (d := (.im (D.int r))) (e := (.im (D.int 0))) (f := .im (D.bl (decide (r = 0)))) od_eqI g17.wd rfl rfl fun v15 H21 wd15 s16 h35 => ?_
          have g18 := g17.same s16
          have h36 := rV.same s16 h34
          have hS17 := hS16.same s16
          cases (show v15 = (V.bl (decide (r = 0))) from h35)
          refine ⟨_, rfl, ?_⟩
          refine wite hw (fun hw => ?_) (fun hw => ?_)
          · skip
            refine st_set ?_
            have h37 : rV K (mxM M0 [p]) H21 (.im (eRow other2)) v9 := (((rV.lx l5 (h25.same s14)).same s15).same s16)
            have h38 : rV K (mxM M0 [p]) H21 (.im ((eL (eP2 D.int eRow)) turned2)) v3 := (((rV.lx l5 ((rV.lx l4 ((rV.lx l3 ((h12.same s8).same s10)).same s12)).same s14)).same s15).same s16)
            have h39 : rV K (mxM M0 [p]) H21 (.im ((eP2 D.int eRow) entry)) x3 := (((rV.lx l5 ((rV.lx l4 (h22.same s12)).same s14)).same s15).same s16)
            obtain ⟨c, c2, hw⟩ := hw
            refine EV.goA (K := K) (en := (eL (eP2 D.int eRow))) (x0 := ((([(less2, other2)] : (List (Int × Row))) ++ turned2) ++ ([((entry.1 - less2), entry.2)] : (List (Int × Row))))) (ev_op (ev_op (ev_lst (ds := [(eP2 D.int eRow) (less2, other2)]) (eva_cons (ev_tup (ds := [D.int less2, eRow other2]) (eva_cons (ev_vi (i := 6) rfl) (eva_cons (ev_var (d := (.im (eRow other2))) (i := 7) rfl h37) eva_nil)) (Nat.le_of_ble_eq_true rfl)) eva_nil) (Nat.le_of_ble_eq_true rfl)) (ev_var (d := (.im ((eL (eP2 D.int eRow)) turned2))) (i := 4) rfl h38) (od_catm (en := (eP2 D.int eRow)) (xs := ([(less2, other2)] : (List (Int × Row)))) (ys := turned2) LsOf.im LsOf.im c)) (ev_lst (ds := [(eP2 D.int eRow) ((entry.1 - less2), entry.2)]) (eva_cons (ev_tup (ds := [D.int (entry.1 - less2), eRow entry.2]) (eva_cons (ev_op (ev_op (ev_var (d := (.im ((eP2 D.int eRow) entry))) (i := 5) rfl h39) ev_int (od_ixT (es := [D.int entry.1, eRow entry.2]) rfl)) (ev_vi (i := 6) rfl) od_sub) (eva_cons (ev_op (ev_var (d := (.im ((eP2 D.int eRow) entry))) (i := 5) rfl h39) ev_int (od_ixT (es := [D.int entry.1, eRow entry.2]) rfl)) eva_nil)) (Nat.le_of_ble_eq_true rfl)) eva_nil) (Nat.le_of_ble_eq_true rfl)) (od_catm (en := (eP2 D.int eRow)) (xs := (([(less2, other2)] : (List (Int × Row))) ++ turned2)) (ys := ([((entry.1 - less2), entry.2)] : (List (Int × Row)))) LsOf.im LsOf.im c2)) g18.wd fun turned4 e3 v16 H22 wd16 s17 h40 => ?_
            have hw := hw turned4 e3
            have g19 := g18.same s17
            have h41 := rV.same s17 h36
            have hS18 := hS17.same s17
            exact hnx _ _ ⟨_, turned4, n7, rfl, g19, (((((Lx.same s14).trans l5).trans (Lx.same s15)).trans (Lx.same s16)).trans (Lx.same s17)), h40, h41, hS18, hw⟩
          · skip
            refine st_set ?_
            have h42 : rV K (mxM M0 [p]) H21 (.im ((eP2 D.int eRow) entry)) x3 := (((rV.lx l5 ((rV.lx l4 (h22.same s12)).same s14)).same s15).same s16)
            have h43 : rV K (mxM M0 [p]) H21 (.im (eRow other2)) v9 := (((rV.lx l5 (h25.same s14)).same s15).same s16)
            have h44 : rV K (mxM M0 [p]) H21 (.im ((eL (eP2 D.int eRow)) turned2)) v3 := (((rV.lx l5 ((rV.lx l4 ((rV.lx l3 ((h12.same s8).same s10)).same s12)).same s14)).same s15).same s16)
            obtain ⟨c3, c4, hw⟩ := hw
            refine EV.goA (K := K) (en := (eL (eP2 D.int eRow))) (x0 := ((([(entry.1, other2)] : (List (Int × Row))) ++ turned2) ++ ([(0, entry.2)] : (List (Int × Row))))) (ev_op (ev_op (ev_lst (ds := [(eP2 D.int eRow) (entry.1, other2)]) (eva_cons (ev_tup (ds := [D.int entry.1, eRow other2]) (eva_cons (ev_op (ev_var (d := (.im ((eP2 D.int eRow) entry))) (i := 5) rfl h42) ev_int (od_ixT (es := [D.int entry.1, eRow entry.2]) rfl)) (eva_cons (ev_var (d := (.im (eRow other2))) (i := 7) rfl h43) eva_nil)) (Nat.le_of_ble_eq_true rfl)) eva_nil) (Nat.le_of_ble_eq_true rfl)) (ev_var (d := (.im ((eL (eP2 D.int eRow)) turned2))) (i := 4) rfl h44) (od_catm (en := (eP2 D.int eRow)) (xs := ([(entry.1, other2)] : (List (Int × Row)))) (ys := turned2) LsOf.im LsOf.im c3)) (ev_lst (ds := [(eP2 D.int eRow) (0, entry.2)]) (eva_cons (ev_tup (ds := [D.int 0, eRow entry.2]) (eva_cons ev_int (eva_cons (ev_op (ev_var (d := (.im ((eP2 D.int eRow) entry))) (i := 5) rfl h42) ev_int (od_ixT (es := [D.int entry.1, eRow entry.2]) rfl)) eva_nil)) (Nat.le_of_ble_eq_true rfl)) eva_nil) (Nat.le_of_ble_eq_true rfl)) (od_catm (en := (eP2 D.int eRow)) (xs := (([(entry.1, other2)] : (List (Int × Row))) ++ turned2)) (ys := ([(0, entry.2)] : (List (Int × Row)))) LsOf.im LsOf.im c4)) g18.wd fun turned5 e4 v17 H23 wd17 s18 h45 => ?_
            have hw := hw turned5 e4
            have g20 := g18.same s18
            have h46 := rV.same s18 h36
            have hS19 := hS17.same s18
            exact hnx _ _ ⟨_, turned5, n7, rfl, g20, (((((Lx.same s14).trans l5).trans (Lx.same s15)).trans (Lx.same s16)).trans (Lx.same s18)), h45, h46, hS19, hw⟩
        rintro σ' H24 ⟨v10, turned3, n6, rfl, g21, l6, h27, h47, hS20, hw⟩
        exact ⟨_, turned3, _, _, _, n6, rfl, g21, ((((((l2.trans (Lx.same s8)).trans (Lx.same s10)).trans l3).trans (Lx.same s12)).trans l4).trans l6), h27, h47, hS20, hw⟩
      · rintro σ' H25 ⟨v3, turned2, o6, o7, o8, n3, rfl, g22, l7, h12, h14, hS8, hI9⟩
        have hw := hI7 turned2 n3 hI9
        unfold W_l_split_k2 at hw
        try dsimp only [gName]
        refine st_norm (σ' := [some (V.ref st), some v, some (V.ref p), some x2, some v3, o6, o7, o8]) rfl ?_
        refine st_expr ?_
        refine x_bm (ev_var (d := (.mu p (List.map (eT (eP2 D.int eRow)) sides))) (i := 2) rfl h14) LsOf.mu g22.wd fun v18 H26 wd18 s19 h48 => ?_
        have g23 := g22.same s19
        have h49 := rV.same s19 h14
        have hS21 := hS8.same s19
        cases h48.1
        refine x_cons ?_
        have h50 : rV K (mxM M0 [p]) H26 (.im ((eL (eP2 D.int eRow)) turned2)) v3 := (h12.same s19)
        refine EV.go (K := K) (d := (.im ((eT (eP2 D.int eRow)) turned2))) (ev_cb (eva_cons (ev_var (d := (.im ((eL (eP2 D.int eRow)) turned2))) (i := 4) rfl h50) eva_nil) (cd_tuple (es := List.map (eP2 D.int eRow) turned2) LsOf.im)) g23.wd fun v19 H27 wd19 s20 h51 => ?_
        have g24 := g23.same s20
        have h52 := rV.same s20 h49
        have hS22 := hS21.same s20
        refine x_nil ?_
        obtain ⟨c5, hw⟩ := hw
        refine x_append (d := (eT (eP2 D.int eRow)) turned2) h52 h51 (by simp) (by rw [List.length_map]; exact c5) fun H28 ⟨vs3, eu⟩ h53 => ?_
        obtain ⟨sides2, esides2⟩ : ∃ z_ : (List (List (Int × Row))), z_ = (sides ++ [turned2]) := ⟨_, rfl⟩
        have hw := hw sides2 esides2
        have h53 : rV K (mxM M0 [p]) H28 (.mu p (List.map (eT (eP2 D.int eRow)) sides2)) (V.ref p) := by rw [esides2, List.map_append]; exact h53
        subst eu
        have g25 : Gd M0 [p] Y H (upd H27 p (.lst vs3)) := g24.upd (by simp)
        have l8 : Lx (mxM M0 [p]) (mxM M0 [p]) H27 (upd H27 p (.lst vs3)) := Gd.lx_upd (by simp)
        have hS23 : SMA (upd H27 p (.lst vs3)) st Y n3 := hS22.updL (g24.noY (by simp))
        exact ⟨sides2, _, _, _, _, _, n3, rfl, g25, (((((((l.trans (Lx.same s5)).trans (Lx.same s6)).trans (Lx.same s7)).trans l7).trans (Lx.same s19)).trans (Lx.same s20)).trans l8), h53, hS23, hw⟩
    · rintro σ' H29 ⟨sides, o, o2, o3, o4, o5, n2, rfl, g26, l9, h6, hS4, hI10⟩
      have hw := hI3 sides n2 hI10
      unfold W_l_split_k1 at hw
      try dsimp only [gName]
      refine st_norm (σ' := [some (V.ref st), some v, some (V.ref p), o, o2, o3, o4, o5]) rfl ?_
      refine st_ret ?_
      have h54 : rV K (mxM M0 [p]) H29 (.im (eRow row_here)) v := (rV.lx l9 (h4.same s4))
      refine EV.go (K := K) (d := (.im (eRow (Row.mk row_here.kind sides)))) (by rw [eRow_eq (Row.mk row_here.kind sides)]; exact (ev_tup (ds := [(eT D.int) row_here.kind, (eT (eT (eP2 D.int eRow))) sides]) (eva_cons (ev_op (ev_var (d := (.im (eRow row_here))) (i := 1) rfl h54) ev_int (by rw [eRow_eq row_here]; exact (od_ixT (es := [(eT D.int) row_here.kind, (eT (eT (eP2 D.int eRow))) row_here.sides]) rfl))) (eva_cons (ev_cb (eva_cons (ev_var (d := (.mu p (List.map (eT (eP2 D.int eRow)) sides))) (i := 2) rfl h6) eva_nil) (cd_tuple (es := List.map (eT (eP2 D.int eRow)) sides) LsOf.mu)) eva_nil)) (Nat.le_of_ble_eq_true rfl))) g26.wd fun v20 H30 wd20 s21 h55 => ?_
      have g27 := g26.same s21
      have h56 := rV.same s21 h6
      have hS24 := hS4.same s21
      exact kk _ _ _ _ hw g27.w_end g27.bu hS24 (rV.lx Gd.lx_end h55)
theorem ok_l_split (T : Txt K mg a) : ∀ fu : Nat, FnOk P w K mg base CX0 (3 + fu) a.f_l_split a.d_l_split ["_law_state", "_law_row_here"] (sp_l_split fu K)
  | 0 => T.F_l_split.ok (k := 2) sc_l_split (fun vs H Q E h => by obtain ⟨M0, st, Y, n, x, us, P, rfl, w0, ys, hS, hx, _⟩ := h; exact congrArg Nat.succ hx.len) (fun cdv A outer s H vs Q E hr h => by obtain ⟨M0, st, Y, n, x, us, P, rfl, w0, ys, hS, hx, hS0, kk⟩ := h; exact (no_l_split hS0).elim)
  | fu + 1 => ok_l_split_step T fu (ok_l_split T fu)

end
end Toy

set_option Elab.async false
set_option linter.all false
set_option maxRecDepth 100000
set_option maxHeartbeats 4000000
set_option pp.maxSteps 1500
set_option pp.deepTerms false
namespace Toy
open PySem L2 Lf
section
variable {P : Program} {w : World} {K : PySem.W.Frag} {mg : Str → Option Value} {base : Heap} {a : Ad}

def W_law (n : Nat) (P : Bool → Nat → Prop) : Prop :=
  S_records 0 5 2 (fun records_here2 n2 => (pre_heads records_here2) ∧ ∀ heads_here : (List Hd), heads_here = (headsOf records_here2) → S_draw n2 (heads_here.length : Int) (fun r n3 => S_draw n3 3 (fun r2 n4 => (CDiv r2 2) ∧ (CMul r (r2 / 2)) ∧ ∀ at_ : Int, at_ = (r * (r2 / 2)) → S_row 6 n4 heads_here at_ 3 true (fun row_here2 n5 => S_split 6 n5 row_here2 (fun other2 n6 => (pre_sR 8 row_here2) ∧ ∀ told : Row, told = (shortR row_here2) → (pre_is 8 told) ∧ ((!(isShort told)) = false → Shp ((eT D.int) told.kind)) ∧ ((!(isShort told)) = false → Shp ((eT D.int) row_here2.kind)) ∧ (if ((!(isShort told)) || ((!decide (told.kind = row_here2.kind)) || (!decide ((told.sides.length : Int) = (row_here2.sides.length : Int))))) = true then (P false n6) else ((told.sides.length ≤ sizeLine) ∧ (∀ entries ∈ told.sides, pre_bE 8 entries) ∧ (row_here2.sides.length ≤ sizeLine) ∧ (∀ entries2 ∈ row_here2.sides, pre_bE 8 entries2) ∧ (Shp ((eL (eT (eP2 eBR D.int))) (told.sides.map fun (entries : (List (Int × Row))) => (bagE entries)))) ∧ (Shp ((eL (eT (eP2 eBR D.int))) (row_here2.sides.map fun (entries2 : (List (Int × Row))) => (bagE entries2)))) ∧ (if (!decide ((told.sides.map fun (entries : (List (Int × Row))) => (bagE entries)) = (row_here2.sides.map fun (entries2 : (List (Int × Row))) => (bagE entries2)))) = true then (P false n6) else ((pre_sR 8 other2) ∧ (Shp (eRow (shortR other2))) ∧ (Shp (eRow told)) ∧ ((decide ((shortR other2) = told)) = true → pre_sR 8 told) ∧ ((decide ((shortR other2) = told)) = true → Shp (eRow (shortR told))) ∧ ((decide ((shortR other2) = told)) = true → Shp (eRow told)) ∧ P ((decide ((shortR other2) = told)) && (decide ((shortR told) = told))) n6)))))))))
theorem dW_law : W_law 0 (fun r _ => r = true) := by
  have sl := sizeLine_eq
  refine ⟨by decide, by decide, by decide, by decide, by decide, fun rs m W _ hm => ⟨W, ?_⟩⟩
  rintro hs ehs
  have WH : WfHs hs := by rw [ehs]; exact heads_wf W
  clear ehs
  obtain ⟨h6, h0, _⟩ := id WH
  have hl : 0 < hs.length := List.length_pos_iff.mpr h0
  have c6 : cost 6 ≤ 2 ^ 45 := by decide
  refine ⟨by omega, by omega, by omega, fun r r0 r1 => ⟨by omega, by decide, by decide, fun r2 r20 r21 => ?_⟩⟩
  have hq : r2 / 2 = 0 ∨ r2 / 2 = 1 := by omega
  refine ⟨⟨by decide, by decide⟩, .inl ⟨by omega, by omega⟩, ?_⟩
  rintro at_ rfl
  generalize r2 / 2 = q at hq
  have ha : 0 ≤ r * q ∧ r * q < hs.length := by rcases hq with e | e <;> rw [e] <;> omega
  refine ⟨WH, ha.1, ha.2, by omega, by decide, by decide, by omega, fun row m5 hrow hm5 => ?_⟩
  have rq := RowAt.rq WH 6 _ _ hrow
  refine ⟨rq, by omega, fun other m6 od oe hm6 => ?_⟩
  have d8 : RD 8 row := rq.rd.mono.mono
  have o8 : RD 8 other := od.mono.mono
  refine ⟨⟨by decide, d8⟩, ?_⟩
  rintro told et
  have t8 : RD 8 told := by rw [et]; exact short_rd d8
  have shp : ∀ {x : Row}, RD 8 x → Shp (eRow x) := fun {x} h => by
    obtain ⟨a1, a2⟩ := row_shp h
    exact ⟨a1, by omega⟩
  have kshp : ∀ k : List Int, Shp (eT D.int k) := fun k => by
    obtain ⟨a1, a2⟩ := kind_shp (k := k) (n := 1) (by decide)
    exact ⟨a1, by omega⟩
  have ek : told.kind = row.kind := by rw [et, shortR_eq]; rfl
  have es : told.sides = row.sides.map shortE := by rw [et, shortR_eq]; rfl
  refine ⟨⟨by decide, t8, by rw [et]; exact short_is d8⟩, fun _ => kshp _, fun _ => kshp _, ?_⟩
  rw [if_neg (by simp [isShort, ek, es])]
  have bshp : ∀ {x : Row}, RD 8 x → Shp (eL (eT (eP2 eBR D.int)) (x.sides.map fun es => bagE es)) := fun {x} h => by
    have := br_shp h
    rw [eBR_eq, bagR_eq] at this
    obtain ⟨a1, a2⟩ := this
    refine Shp.list fun z hz => ?_
    have b1 : pur (eT (eT (eP2 eBR D.int)) (x.sides.map bagE)) = true := by
      rw [pur] at a1
      simp only [purs, Bool.and_eq_true, Bool.and_true] at a1
      exact a1.2
    have b2 : dep (eT (eT (eP2 eBR D.int)) (x.sides.map bagE)) ≤ 40 := by
      rw [dep] at a2
      simp only [deps] at a2
      have : dep (eT (eT (eP2 eBR D.int)) (BR.mk x.kind (x.sides.map bagE)).sides) ≤ 31 := by omega
      exact Nat.le_trans this (by decide)
    have c1 : pur (.tup ((x.sides.map bagE).map (eT (eP2 eBR D.int)))) = true := b1
    rw [pur, purs_all, List.all_map, List.all_eq_true] at c1
    refine ⟨c1 z hz, ?_⟩
    have c2 : dep (.tup ((x.sides.map bagE).map (eT (eP2 eBR D.int)))) ≤ 40 := b2
    rw [dep] at c2
    have := le_deps (List.mem_map.mpr ⟨z, hz, rfl⟩ : eT (eP2 eBR D.int) z ∈ (x.sides.map bagE).map (eT (eP2 eBR D.int)))
    omega
  refine ⟨by have := t8.len; omega, t8.bags (by decide), by have := d8.len; omega, d8.bags (by decide), bshp t8, bshp d8, ?_⟩
  have eb : (told.sides.map fun es => bagE es) = row.sides.map fun es => bagE es := by
    have := bag_short d8
    rw [← et, bagR_eq, bagR_eq row] at this
    injection this
  rw [if_neg (by simp [eb])]
  have e1 : shortR other = told := by rw [et, oe]
  have e2 : shortR told = told := by rw [et]; exact short_short d8
  refine ⟨⟨by decide, o8⟩, by rw [e1]; exact shp t8, shp t8, fun _ => ⟨by decide, t8⟩, fun _ => by rw [e2]; exact shp t8, fun _ => shp t8, ?_⟩
  simp [e1, e2]
def spLaw (K : PySem.W.Frag) : Sp := fun vs H Q _ => ∃ (a : Addr) (ns : List Int), vs = [.ref a] ∧ SqL K H a (ns.map V.int) ∧ ns.length ≤ 63 ∧ ∀ H', Q (.bl true) H'
theorem sc_law : FnScope ["_law_script", "_law_state", "_law_records_here", "_law_heads_here", "_law_at", "_law_row_here", "_law_other", "_law_told", "_law_entries"] ["_law_script"] (defScope s_law) := ⟨rfl, rfl, rfl, by decide +kernel, rfl, by decide +kernel, by decide +kernel⟩
theorem ok_law (T : Txt K mg a) : FnOk P w K mg base CX0 30 a.f_law a.d_law ["_law_script"] (spLaw K) := by
  refine T.F_law.ok sc_law (fun vs H Q E h => ?_) (fun cdv A outer s H vs Q E hr h => ?_)
  · obtain ⟨l, ns, rfl, _⟩ := h
    rfl
  · obtain ⟨l, ns, rfl, hl, hlen, kq⟩ := h
    refine ⟨_, (pss_cons (ps_set (i := 1) sc_law.nd rfl (.inl rfl) (pe_call (ok_l_begin T) (hr.mono (by decide)) rfl T.m_l_begin T.k_l_begin T.a_l_begin .nil pass0 (pa_cons (pv 0) pa_nil)))
      (pss_cons (ps_set (i := 2) sc_law.nd rfl (.inl rfl) (pe_call (ok_l_records T) (hr.mono (by decide)) rfl T.m_l_records T.k_l_records T.a_l_records .nil pass0 (pa_cons (pv 1) (pa_cons pe_int (pa_cons pe_int pa_nil)))))
      (pss_cons (ps_set (i := 3) sc_law.nd rfl (.inl rfl) (pe_call (ok_l_heads T) (hr.mono (by decide)) rfl T.m_l_heads T.k_l_heads T.a_l_heads .nil pass0 (pa_cons (pv 2) pa_nil)))
      (pss_cons (ps_set (i := 4) sc_law.nd rfl (.inl rfl) (pe_op op_mul (pe_call (ok_l_draw T) (hr.mono (by decide)) rfl T.m_l_draw T.k_l_draw T.a_l_draw .nil pass0 (pa_cons (pv 1) (pa_cons (pe_callB call_len_seq (by rfl) T.b_len PySem.boot_len (pa_cons (pv 3) pa_nil)) pa_nil))) (pe_op op_fdiv (pe_call (ok_l_draw T) (hr.mono (by decide)) rfl T.m_l_draw T.k_l_draw T.a_l_draw .nil pass0 (pa_cons (pv 1) (pa_cons pe_int pa_nil))) pe_int)))
      (pss_cons (ps_set (i := 5) sc_law.nd rfl (.inl rfl) (pe_call (ok_l_row T 6) (hr.mono (by decide)) rfl T.m_l_row T.k_l_row T.a_l_row .nil pass0 (pa_cons (pv 1) (pa_cons (pv 3) (pa_cons (pv 4) (pa_cons pe_int (pa_cons pe_bl pa_nil)))))))
      (pss_cons (ps_set (i := 6) sc_law.nd rfl (.inl rfl) (pe_call (ok_l_split T 6) (hr.mono (by decide)) rfl T.m_l_split T.k_l_split T.a_l_split .nil pass0 (pa_cons (pv 1) (pa_cons (pv 5) pa_nil))))
      (pss_cons (ps_set (i := 7) sc_law.nd rfl (.inl rfl) (pe_call (ok_short_row T 8) (hr.mono (by decide)) rfl T.m_short_row T.k_short_row T.a_short_row .nil pass0 (pa_cons (pv 5) pa_nil)))
      (pss_cons (ps_if (PW.pt (pw_or (pt_not (pt_val (pe_call (ok_l_is_short T 8) (hr.mono (by decide)) rfl T.m_l_is_short T.k_l_is_short T.a_l_is_short .nil pass0 (pa_cons (pv 7) pa_nil)))) (pw_or (pt_cmpR (op_neD hr.units) (pe_ix ix_tup (pv 7) pe_int (fun _ _ => rfl)) (pe_ix ix_tup (pv 5) pe_int (fun _ _ => rfl)) (nomark _)) (pw_or1 (pt_cmpR op_ne (pe_callB call_len_seq (by rfl) T.b_len PySem.boot_len (pa_cons (pe_ix ix_tup (pv 7) pe_int (fun _ _ => rfl)) pa_nil)) (pe_callB call_len_seq (by rfl) T.b_len PySem.boot_len (pa_cons (pe_ix ix_tup (pv 5) pe_int (fun _ _ => rfl)) pa_nil)) (nomark _)))))) (pss_cons (ps_ret pe_bl)
      pss_nil) pss_nil)
      (pss_cons (ps_if (pt_cmpR (op_neD hr.units) (pe_lc (own := [("_law_entries", 8)]) (g := gName 8) (tt := tYes) (te := (tCall (sp_l_bag 8 K) [] E0 (tCons (tVar 8) tNil))) rfl sc_law.nd (pi_tup (pe_ix ix_tup (pv 7) pe_int (fun _ _ => rfl))) (blkOk_by (own := [("_law_entries", 8)]) (N := ["_law_script", "_law_state", "_law_records_here", "_law_heads_here", "_law_at", "_law_row_here", "_law_other", "_law_told", "_law_entries"]) (sc := defScope s_law) (by decide +kernel)) (fun _ _ _ _ _ => (pg_name (i := 8) sc_law.nd rfl (.inl rfl))) (fun _ _ _ _ _ => pts_nil) (fun _ _ _ _ _ => (pe_call (ok_l_bag T 8) (hr.mono (by decide)) rfl T.m_l_bag T.k_l_bag T.a_l_bag .nil pass0 (pa_cons (pv 8) pa_nil)))) (pe_lc (own := [("_law_entries", 8)]) (g := gName 8) (tt := tYes) (te := (tCall (sp_l_bag 8 K) [] E0 (tCons (tVar 8) tNil))) rfl sc_law.nd (pi_tup (pe_ix ix_tup (pv 5) pe_int (fun _ _ => rfl))) (blkOk_by (own := [("_law_entries", 8)]) (N := ["_law_script", "_law_state", "_law_records_here", "_law_heads_here", "_law_at", "_law_row_here", "_law_other", "_law_told", "_law_entries"]) (sc := defScope s_law) (by decide +kernel)) (fun _ _ _ _ _ => (pg_name (i := 8) sc_law.nd rfl (.inl rfl))) (fun _ _ _ _ _ => pts_nil) (fun _ _ _ _ _ => (pe_call (ok_l_bag T 8) (hr.mono (by decide)) rfl T.m_l_bag T.k_l_bag T.a_l_bag .nil pass0 (pa_cons (pv 8) pa_nil)))) (nomark _)) (pss_cons (ps_ret pe_bl)
      pss_nil) pss_nil)
      (pss_cons (ps_ret (pe_and (pe_cmpR (op_eqD hr.units) (pe_call (ok_short_row T 8) (hr.mono (by decide)) rfl T.m_short_row T.k_short_row T.a_short_row .nil pass0 (pa_cons (pv 6) pa_nil)) (pv 7) (nomark _)) (pe_one (pe_cmpR (op_eqD hr.units) (pe_call (ok_short_row T 8) (hr.mono (by decide)) rfl T.m_short_row T.k_short_row T.a_short_row .nil pass0 (pa_cons (pv 7) pa_nil)) (pv 7) (nomark _)))))
      pss_nil)))))))))), ?_⟩
    refine st_set ?_
    refine x_call ?_
    refine x_cons ?_
    refine ⟨_, rfl, ?_⟩
    refine x_nil ?_
    refine ⟨l, ns, rfl, hl, hlen, fun st g0 sm H nst ng s1 hSt => ?_⟩
    obtain ⟨M0, eM⟩ : ∃ M0 : Addr → Prop, M0 = fun q => q ∈ [st, g0, sm] := ⟨_, rfl⟩
    obtain ⟨Y, eY⟩ : ∃ Y : List Addr, Y = [st, g0, sm] := ⟨_, rfl⟩
    have hS : SMA H st Y 0 := ⟨g0, sm, eY, hSt⟩
    have w0 : Wd M0 H := by rw [eM]; exact hSt.wd
    have g : Gd M0 [] Y H H := Gd.start w0 (by rw [eM, eY]; exact fun y hy => hy)
    obtain ⟨P, eP⟩ : ∃ P : Bool → Nat → Prop, P = fun r _ => r = true := ⟨_, rfl⟩
    have kk : ∀ r v n' H2, P r n' → Wd M0 H2 → Bu Y H H2 → SMA H2 st Y n' → rD K (Fx M0 H2) (D.bl r) v → Q v H2 := fun r v n' H2 e _ _ _ hv => by rw [eP] at e; cases (show v = V.bl r from hv); rw [show r = true from e]; exact kq H2
    have hw : W_law 0 P := by rw [eP]; exact dW_law
    unfold W_law at hw
    refine st_set ?_
    refine x_call ?_
    refine x_cons ?_
    refine ⟨_, rfl, ?_⟩
    refine x_cons ?_
    refine EV.go (K := K) (d := (.im (D.int 5))) ev_int g.wd fun v2 H3 wd2 s4 h3 => ?_
    have g3 := g.same s4
    have hS2 := hS.same s4
    cases (show v2 = (V.int 5) from h3)
    refine x_cons ?_
    refine EV.go (K := K) (d := (.im (D.int 2))) ev_int g3.wd fun v3 H4 wd3 s5 h4 => ?_
    have g4 := g3.same s5
    have hS3 := hS2.same s5
    cases (show v3 = (V.int 2) from h4)
    refine x_nil ?_
    refine ⟨mxM M0 [], st, Y, 0, (5, 2), _, _, rfl, g4.wd, fun y hy => .inl (g4.ys y hy), hS3, ⟨_, _, rfl, rfl, ⟨_, _, rfl, rfl, rfl⟩⟩, hw, fun records_here2 v4 n2 H5 hw wd4 b hS4 h5 => ?_⟩
    have g5 := g4.call wd4 b
    have l2 := Gd.lx_call g4 b
    have h5 : rV K (mxM M0 []) H5 (.im ((eL eRc) records_here2)) v4 := h5
    try dsimp only [gName]
    refine st_norm (σ' := [some (V.ref l), some (V.ref st), some v4, none, none, none, none, none, none]) rfl ?_
    refine st_set ?_
    obtain ⟨c, hw⟩ := hw
    refine EV.goA (K := K) (en := (eL eHd)) (x0 := (headsOf records_here2)) (ev_call (eva_cons (ev_var (d := (.im ((eL eRc) records_here2))) (i := 2) rfl h5) eva_nil) (cd_l_heads records_here2 c)) g5.wd fun heads_here e v5 H6 wd5 s6 h6 => ?_
    have hw := hw heads_here e
    have g6 := g5.same s6
    have hS5 := hS4.same s6
    try dsimp only [gName]
    refine st_norm (σ' := [some (V.ref l), some (V.ref st), some v4, some v5, none, none, none, none, none]) rfl ?_
    refine st_set ?_
    refine x_op ?_
    refine x_call ?_
    refine x_cons ?_
    refine ⟨_, rfl, ?_⟩
    refine x_cons ?_
    refine EV.go (K := K) (d := (.im (D.int (heads_here.length : Int)))) (ev_cb (eva_cons (ev_var (d := (.im ((eL eHd) heads_here))) (i := 3) rfl h6) eva_nil) (cd_lenm (en := eHd) (xs := heads_here) (.inl LsOf.im))) g6.wd fun v7 H8 wd7 s8 h8 => ?_
    have g7 := g6.same s8
    have hS6 := hS5.same s8
    cases (show v7 = (V.int (heads_here.length : Int)) from h8)
    refine x_nil ?_
    refine ⟨mxM M0 [], st, Y, n2, (heads_here.length : Int), _, _, rfl, g7.wd, fun y hy => .inl (g7.ys y hy), hS6, ⟨_, _, rfl, rfl, rfl⟩, hw, fun r v8 n3 H9 hw wd8 b2 hS7 h9 => ?_⟩
    have g8 := g7.call wd8 b2
    have l3 := Gd.lx_call g7 b2
    cases (show v8 = (V.int r) from h9)
    refine x_op ?_
    refine x_call ?_
    refine x_cons ?_
    refine ⟨_, rfl, ?_⟩
    refine x_cons ?_
    refine EV.go (K := K) (d := (.im (D.int 3))) ev_int g8.wd fun v10 H11 wd10 s10 h11 => ?_
    have g9 := g8.same s10
    have hS8 := hS7.same s10
    cases (show v10 = (V.int 3) from h11)
    refine x_nil ?_
    refine ⟨mxM M0 [], st, Y, n3, 3, _, _, rfl, g9.wd, fun y hy => .inl (g9.ys y hy), hS8, ⟨_, _, rfl, rfl, rfl⟩, hw, fun r2 v11 n4 H12 hw wd11 b3 hS9 h12 => ?_⟩
    have g10 := g9.call wd11 b3
    have l4 := Gd.lx_call g9 b3
    cases (show v11 = (V.int r2) from h12)
    refine EV.go (K := K) (d := (.im (D.int 2))) ev_int g10.wd fun v12 H13 wd12 s11 h13 => ?_
    have g11 := g10.same s11
    have hS10 := hS9.same s11
    cases (show v12 = (V.int 2) from h13)
    obtain ⟨c2, hw⟩ := hw
    refine opd_go (K := K) (d := (.im (D.int r2))) (e := (.im (D.int 2))) (f := .im (D.int (r2 / 2))) (od_fdiv c2) g11.wd rfl rfl fun v13 H14 wd13 s12 h14 => ?_
    have g12 := g11.same s12
    have hS11 := hS10.same s12
    cases (show v13 = (V.int (r2 / 2)) from h14)
    obtain ⟨c3, hw⟩ := hw
    refine opd_go (K := K) (d := (.im (D.int r))) (e := (.im (D.int (r2 / 2)))) (f := .im (D.int (r * (r2 / 2)))) (od_mul c3) g12.wd rfl rfl fun v14 H15 wd14 s13 h15 => ?_
    obtain ⟨at_, e2⟩ : ∃ z_ : Int, z_ = (r * (r2 / 2)) := ⟨_, rfl⟩
    have hw := hw at_ e2
    rw [← e2] at h15
    have g13 := g12.same s13
    have hS12 := hS11.same s13
    cases (show v14 = (V.int at_) from h15)
    try dsimp only [gName]
    refine st_norm (σ' := [some (V.ref l), some (V.ref st), some v4, some v5, some (V.int at_), none, none, none, none]) rfl ?_
    refine st_set ?_
    refine x_call ?_
    refine x_cons ?_
    refine ⟨_, rfl, ?_⟩
    refine x_cons ?_
    have h17 : rV K (mxM M0 []) H15 (.im ((eL eHd) heads_here)) v5 := ((((rV.lx l4 ((rV.lx l3 (h6.same s8)).same s10)).same s11).same s12).same s13)
    refine EV.go (K := K) (d := (.im ((eL eHd) heads_here))) (ev_var (d := (.im ((eL eHd) heads_here))) (i := 3) rfl h17) g13.wd fun v16 H17 wd16 s15 h18 => ?_
    have g14 := g13.same s15
    have hS13 := hS12.same s15
    refine x_cons ?_
    refine EV.go (K := K) (d := (.im (D.int at_))) (ev_vi (i := 4) rfl) g14.wd fun v17 H18 wd17 s16 h19 => ?_
    have g15 := g14.same s16
    have hS14 := hS13.same s16
    cases (show v17 = (V.int at_) from h19)
    refine x_cons ?_
    refine EV.go (K := K) (d := (.im (D.int 3))) ev_int g15.wd fun v18 H19 wd18 s17 h20 => ?_
    have g16 := g15.same s17
    have hS15 := hS14.same s17
    cases (show v18 = (V.int 3) from h20)
    refine x_cons ?_
    refine EV.go (K := K) (d := (.im (D.bl true))) ev_bl g16.wd fun v19 H20 wd19 s18 h21 => ?_
    have g17 := g16.same s18
    have hS16 := hS15.same s18
    cases (show v19 = (V.bl true) from h21)
    refine x_nil ?_
    have h22 : rV K (mxM M0 []) H20 (.im ((eL eHd) heads_here)) v16 := (((h18.same s16).same s17).same s18)
    refine ⟨mxM M0 [], st, Y, n4, (heads_here, at_, 3, true), _, _, rfl, g17.wd, fun y hy => .inl (g17.ys y hy), hS16, ⟨_, _, rfl, h22, ⟨_, _, rfl, rfl, ⟨_, _, rfl, rfl, ⟨_, _, rfl, rfl, rfl⟩⟩⟩⟩, hw, fun row_here2 v20 n5 H21 hw wd20 b4 hS17 h23 => ?_⟩
    have g18 := g17.call wd20 b4
    have l5 := Gd.lx_call g17 b4
    have h23 : rV K (mxM M0 []) H21 (.im (eRow row_here2)) v20 := h23
    try dsimp only [gName]
    refine st_norm (σ' := [some (V.ref l), some (V.ref st), some v4, some v5, some (V.int at_), some v20, none, none, none]) rfl ?_
    refine st_set ?_
    refine x_call ?_
    refine x_cons ?_
    refine ⟨_, rfl, ?_⟩
    refine x_cons ?_
    refine EV.go (K := K) (d := (.im (eRow row_here2))) (ev_var (d := (.im (eRow row_here2))) (i := 5) rfl h23) g18.wd fun v22 H23 wd22 s20 h25 => ?_
    have g19 := g18.same s20
    have hS18 := hS17.same s20
    refine x_nil ?_
    refine ⟨mxM M0 [], st, Y, n5, row_here2, _, _, rfl, g19.wd, fun y hy => .inl (g19.ys y hy), hS18, ⟨_, _, rfl, h25, rfl⟩, hw, fun other2 v23 n6 H24 hw wd23 b5 hS19 h26 => ?_⟩
    have g20 := g19.call wd23 b5
    have l6 := Gd.lx_call g19 b5
    have h26 : rV K (mxM M0 []) H24 (.im (eRow other2)) v23 := h26
    try dsimp only [gName]
    refine st_norm (σ' := [some (V.ref l), some (V.ref st), some v4, some v5, some (V.int at_), some v20, some v23, none, none]) rfl ?_
    refine st_set ?_
    have h27 : rV K (mxM M0 []) H24 (.im (eRow row_here2)) v20 := (rV.lx l6 (h23.same s20))
    obtain ⟨c4, hw⟩ := hw
    refine EV.goA (K := K) (en := eRow) (x0 := (shortR row_here2)) (ev_call (eva_cons (ev_var (d := (.im (eRow row_here2))) (i := 5) rfl h27) eva_nil) (cd_short_row 8 row_here2 c4)) g20.wd fun told e3 v24 H25 wd24 s21 h28 => ?_
    have hw := hw told e3
    have g21 := g20.same s21
    have hS20 := hS19.same s21
    try dsimp only [gName]
    refine st_norm (σ' := [some (V.ref l), some (V.ref st), some v4, some v5, some (V.int at_), some v20, some v23, some v24, none]) rfl ?_
    refine st_if ?_
    have h29 : rV K (mxM M0 []) H25 (.im (eRow row_here2)) v20 := (h27.same s21)
    obtain ⟨c5, c6, c7, hw⟩ := hw
    refine EVT.go (b := ((!(isShort told)) || ((!decide (told.kind = row_here2.kind)) || (!decide ((told.sides.length : Int) = (row_here2.sides.length : Int)))))) (evt_or (evt_not (evt_b (K := K) (ev_call (eva_cons (ev_var (d := (.im (eRow told))) (i := 7) rfl h28) eva_nil) (cd_l_is_short 8 told c5)))) fun hb => (evt_or (evt_test (K := K) (ev_op (ev_op (ev_var (d := (.im (eRow told))) (i := 7) rfl h28) ev_int (by rw [eRow_eq told]; exact (od_ixT (es := [(eT D.int) told.kind, (eT (eT (eP2 D.int eRow))) told.sides]) rfl))) (ev_op (ev_var (d := (.im (eRow row_here2))) (i := 5) rfl h29) ev_int (by rw [eRow_eq row_here2]; exact (od_ixT (es := [(eT D.int) row_here2.kind, (eT (eT (eP2 D.int eRow))) row_here2.sides]) rfl))) (od_neD (en := (eT D.int)) (x := told.kind) (y := row_here2.kind) (inj_T inj_int) (c6 hb) (c7 hb) DvOf.im DvOf.im))) fun hb2 => (evt_test (K := K) (ev_op (ev_cb (eva_cons (ev_op (ev_var (d := (.im (eRow told))) (i := 7) rfl h28) ev_int (by rw [eRow_eq told]; exact (od_ixT (es := [(eT D.int) told.kind, (eT (eT (eP2 D.int eRow))) told.sides]) rfl))) eva_nil) (cd_lenm (en := (eT (eP2 D.int eRow))) (xs := told.sides) (.inr rfl))) (ev_cb (eva_cons (ev_op (ev_var (d := (.im (eRow row_here2))) (i := 5) rfl h29) ev_int (by rw [eRow_eq row_here2]; exact (od_ixT (es := [(eT D.int) row_here2.kind, (eT (eT (eP2 D.int eRow))) row_here2.sides]) rfl))) eva_nil) (cd_lenm (en := (eT (eP2 D.int eRow))) (xs := row_here2.sides) (.inr rfl))) od_neI)))) g21.wd fun H26 wd25 s22 => ?_
    have g22 := g21.same s22
    have hS21 := hS20.same s22
    refine wite hw (fun hw => ?_) (fun hw => ?_)
    · skip
      refine st_ret ?_
      refine EV.go (K := K) (d := (.im (D.bl false))) ev_bl g22.wd fun v25 H27 wd26 s23 h30 => ?_
      have g23 := g22.same s23
      have hS22 := hS21.same s23
      exact kk _ _ _ _ hw g23.w_end g23.bu hS22 (rV.lx Gd.lx_end h30)
    · skip
      refine Lf.st_next ?_
      refine st_if ?_
      have h31 : rV K (mxM M0 []) H26 (.im (eRow told)) v24 := (h28.same s22)
      have h33 : rV K (mxM M0 []) H26 (.im (eRow row_here2)) v20 := (h29.same s22)
      obtain ⟨c8, c9, c10, c11, c12, c13, hw⟩ := hw
      refine EVT.go (b := (!decide ((told.sides.map fun (entries : (List (Int × Row))) => (bagE entries)) = (row_here2.sides.map fun (entries2 : (List (Int × Row))) => (bagE entries2))))) (evt_test (K := K) (ev_op (ev_lcmm (fd := fun (entries : (List (Int × Row))) => (bagE entries)) (en2 := (eT (eP2 eBR D.int))) (xs := told.sides) (en := (eT (eP2 D.int eRow))) (evi_tup (es := List.map (eT (eP2 D.int eRow)) told.sides) (ev_op (ev_var (d := (.im (eRow told))) (i := 7) rfl h31) ev_int (by rw [eRow_eq told]; exact (od_ixT (es := [(eT D.int) told.kind, (eT (eT (eP2 D.int eRow))) told.sides]) rfl)))) GI.ex gm_name c8 (fun entries hy M H28 v26 wd27 ex h32 => ⟨rfl, rfl, (ev_call (eva_cons (ev_var (d := (.im ((eT (eP2 D.int eRow)) entries))) (i := 8) rfl h32) eva_nil) (cd_l_bag 8 entries (c9 entries hy)))⟩)) (ev_lcmm (fd := fun (entries2 : (List (Int × Row))) => (bagE entries2)) (en2 := (eT (eP2 eBR D.int))) (xs := row_here2.sides) (en := (eT (eP2 D.int eRow))) (evi_tup (es := List.map (eT (eP2 D.int eRow)) row_here2.sides) (ev_op (ev_var (d := (.im (eRow row_here2))) (i := 5) rfl h33) ev_int (by rw [eRow_eq row_here2]; exact (od_ixT (es := [(eT D.int) row_here2.kind, (eT (eT (eP2 D.int eRow))) row_here2.sides]) rfl)))) GI.ex gm_name c10 (fun entries2 hy2 M2 H29 v27 wd28 ex2 h34 => ⟨rfl, rfl, (ev_call (eva_cons (ev_var (d := (.im ((eT (eP2 D.int eRow)) entries2))) (i := 8) rfl h34) eva_nil) (cd_l_bag 8 entries2 (c11 entries2 hy2)))⟩)) (od_neD (en := (eL (eT (eP2 eBR D.int)))) (x := (told.sides.map fun (entries : (List (Int × Row))) => (bagE entries))) (y := (row_here2.sides.map fun (entries2 : (List (Int × Row))) => (bagE entries2))) (inj_L (inj_T (inj_P2 inj_BR inj_int))) c12 c13 DvOf.im DvOf.im))) g22.wd fun H30 wd29 s24 => ?_
      have g24 := g22.same s24
      have hS23 := hS21.same s24
      refine wite hw (fun hw => ?_) (fun hw => ?_)
      · skip
        refine st_ret ?_
        refine EV.go (K := K) (d := (.im (D.bl false))) ev_bl g24.wd fun v28 H31 wd30 s25 h35 => ?_
        have g25 := g24.same s25
        have hS24 := hS23.same s25
        exact kk _ _ _ _ hw g25.w_end g25.bu hS24 (rV.lx Gd.lx_end h35)
      · skip
        refine Lf.st_next ?_
        refine st_ret ?_
        have h36 : rV K (mxM M0 []) H30 (.im (eRow other2)) v23 := (((h26.same s21).same s22).same s24)
        have h37 : rV K (mxM M0 []) H30 (.im (eRow told)) v24 := (h31.same s24)
        obtain ⟨c14, c15, c16, c17, c18, c19, hw⟩ := hw
        refine EV.go (K := K) (d := (.im (D.bl ((decide ((shortR other2) = told)) && (decide ((shortR told) = told)))))) (ev_and (ev_op (ev_call (eva_cons (ev_var (d := (.im (eRow other2))) (i := 6) rfl h36) eva_nil) (cd_short_row 8 other2 c14)) (ev_var (d := (.im (eRow told))) (i := 7) rfl h37) (od_eqD (en := eRow) (x := (shortR other2)) (y := told) inj_Row c15 c16 DvOf.im DvOf.im)) fun hb3 => (ev_op (ev_call (eva_cons (ev_var (d := (.im (eRow told))) (i := 7) rfl h37) eva_nil) (cd_short_row 8 told (c17 hb3))) (ev_var (d := (.im (eRow told))) (i := 7) rfl h37) (od_eqD (en := eRow) (x := (shortR told)) (y := told) inj_Row (c18 hb3) (c19 hb3) DvOf.im DvOf.im))) g24.wd fun v29 H32 wd31 s26 h38 => ?_
        have g26 := g24.same s26
        have hS25 := hS23.same s26
        exact kk _ _ _ _ hw g26.w_end g26.bu hS25 (rV.lx Gd.lx_end h38)

end
end Toy

set_option Elab.async false
set_option linter.all false
set_option maxRecDepth 100000
set_option maxHeartbeats 4000000
set_option pp.maxSteps 1500
set_option pp.deepTerms false
namespace Toy
open PySem L2 Lf
theorem txt_mk {K : PySem.W.Frag} {h : Heap} {mg : Str → Option Value} {f_l_begin : Addr} {od_l_begin an_l_begin : Option Addr} {sl_l_begin : Array (Option Value)} {oc_l_begin kV_l_begin dc_l_begin pm_l_begin cd_l_begin ct_l_begin : Value} {f_l_draw : Addr} {od_l_draw an_l_draw : Option Addr} {sl_l_draw : Array (Option Value)} {oc_l_draw kV_l_draw dc_l_draw pm_l_draw cd_l_draw ct_l_draw : Value} {f_l_word : Addr} {od_l_word an_l_word : Option Addr} {sl_l_word : Array (Option Value)} {oc_l_word kV_l_word dc_l_word pm_l_word cd_l_word ct_l_word : Value} {f_l_record : Addr} {od_l_record an_l_record : Option Addr} {sl_l_record : Array (Option Value)} {oc_l_record kV_l_record dc_l_record pm_l_record cd_l_record ct_l_record : Value} {f_l_head : Addr} {od_l_head an_l_head : Option Addr} {sl_l_head : Array (Option Value)} {oc_l_head kV_l_head dc_l_head pm_l_head cd_l_head ct_l_head : Value} {f_l_records : Addr} {od_l_records an_l_records : Option Addr} {sl_l_records : Array (Option Value)} {oc_l_records kV_l_records dc_l_records pm_l_records cd_l_records ct_l_records : Value} {f_l_group : Addr} {od_l_group an_l_group : Option Addr} {sl_l_group : Array (Option Value)} {oc_l_group kV_l_group dc_l_group pm_l_group cd_l_group ct_l_group : Value} {f_l_seen : Addr} {od_l_seen an_l_seen : Option Addr} {sl_l_seen : Array (Option Value)} {oc_l_seen kV_l_seen dc_l_seen pm_l_seen cd_l_seen ct_l_seen : Value} {f_l_more_kinds : Addr} {od_l_more_kinds an_l_more_kinds : Option Addr} {sl_l_more_kinds : Array (Option Value)} {oc_l_more_kinds kV_l_more_kinds dc_l_more_kinds pm_l_more_kinds cd_l_more_kinds ct_l_more_kinds : Value} {f_l_head_row : Addr} {od_l_head_row an_l_head_row : Option Addr} {sl_l_head_row : Array (Option Value)} {oc_l_head_row kV_l_head_row dc_l_head_row pm_l_head_row cd_l_head_row ct_l_head_row : Value} {f_l_heads : Addr} {od_l_heads an_l_heads : Option Addr} {sl_l_heads : Array (Option Value)} {oc_l_heads kV_l_heads dc_l_heads pm_l_heads cd_l_heads ct_l_heads : Value} {f_l_count : Addr} {od_l_count an_l_count : Option Addr} {sl_l_count : Array (Option Value)} {oc_l_count kV_l_count dc_l_count pm_l_count cd_l_count ct_l_count : Value} {f_l_row : Addr} {od_l_row an_l_row : Option Addr} {sl_l_row : Array (Option Value)} {oc_l_row kV_l_row dc_l_row pm_l_row cd_l_row ct_l_row : Value} {f_l_is_integer : Addr} {od_l_is_integer an_l_is_integer : Option Addr} {sl_l_is_integer : Array (Option Value)} {oc_l_is_integer kV_l_is_integer dc_l_is_integer pm_l_is_integer cd_l_is_integer ct_l_is_integer : Value} {f_short_entries : Addr} {od_short_entries an_short_entries : Option Addr} {sl_short_entries : Array (Option Value)} {oc_short_entries kV_short_entries dc_short_entries pm_short_entries cd_short_entries ct_short_entries : Value} {f_short_row : Addr} {od_short_row an_short_row : Option Addr} {sl_short_row : Array (Option Value)} {oc_short_row kV_short_row dc_short_row pm_short_row cd_short_row ct_short_row : Value} {f_l_split : Addr} {od_l_split an_l_split : Option Addr} {sl_l_split : Array (Option Value)} {oc_l_split kV_l_split dc_l_split pm_l_split cd_l_split ct_l_split : Value} {f_l_is_short : Addr} {od_l_is_short an_l_is_short : Option Addr} {sl_l_is_short : Array (Option Value)} {oc_l_is_short kV_l_is_short dc_l_is_short pm_l_is_short cd_l_is_short ct_l_is_short : Value} {f_l_bag : Addr} {od_l_bag an_l_bag : Option Addr} {sl_l_bag : Array (Option Value)} {oc_l_bag kV_l_bag dc_l_bag pm_l_bag cd_l_bag ct_l_bag : Value} {f_law : Addr} {od_law an_law : Option Addr} {sl_law : Array (Option Value)} {oc_law kV_law dc_law pm_law cd_law ct_law : Value} (X : K.In h) (Gm : h.Ns mainGlobals mg)
    (a_l_begin : PySem.W.nsIn K mainGlobals "_law_begin" = some (some (.ref f_l_begin)))
    (l_l_begin : K.lookup f_l_begin = some ⟨oc_l_begin, od_l_begin, .func (PySem.W.fnOf "_law_begin" "_law_begin" (defArgs s_l_begin) (defBody s_l_begin) (defScope s_l_begin) .none kV_l_begin dc_l_begin pm_l_begin an_l_begin cd_l_begin ct_l_begin), sl_l_begin⟩)
    (c_l_begin : PySem.W.codeIn K cd_l_begin "_law_begin" = true)
    (k_l_begin : PySem.W.keepIn K (.ref f_l_begin) = true)
    (a_l_draw : PySem.W.nsIn K mainGlobals "_law_draw" = some (some (.ref f_l_draw)))
    (l_l_draw : K.lookup f_l_draw = some ⟨oc_l_draw, od_l_draw, .func (PySem.W.fnOf "_law_draw" "_law_draw" (defArgs s_l_draw) (defBody s_l_draw) (defScope s_l_draw) .none kV_l_draw dc_l_draw pm_l_draw an_l_draw cd_l_draw ct_l_draw), sl_l_draw⟩)
    (c_l_draw : PySem.W.codeIn K cd_l_draw "_law_draw" = true)
    (k_l_draw : PySem.W.keepIn K (.ref f_l_draw) = true)
    (a_l_word : PySem.W.nsIn K mainGlobals "_law_word" = some (some (.ref f_l_word)))
    (l_l_word : K.lookup f_l_word = some ⟨oc_l_word, od_l_word, .func (PySem.W.fnOf "_law_word" "_law_word" (defArgs s_l_word) (defBody s_l_word) (defScope s_l_word) .none kV_l_word dc_l_word pm_l_word an_l_word cd_l_word ct_l_word), sl_l_word⟩)
    (c_l_word : PySem.W.codeIn K cd_l_word "_law_word" = true)
    (k_l_word : PySem.W.keepIn K (.ref f_l_word) = true)
    (a_l_record : PySem.W.nsIn K mainGlobals "_law_record" = some (some (.ref f_l_record)))
    (l_l_record : K.lookup f_l_record = some ⟨oc_l_record, od_l_record, .func (PySem.W.fnOf "_law_record" "_law_record" (defArgs s_l_record) (defBody s_l_record) (defScope s_l_record) .none kV_l_record dc_l_record pm_l_record an_l_record cd_l_record ct_l_record), sl_l_record⟩)
    (c_l_record : PySem.W.codeIn K cd_l_record "_law_record" = true)
    (k_l_record : PySem.W.keepIn K (.ref f_l_record) = true)
    (a_l_head : PySem.W.nsIn K mainGlobals "_law_head" = some (some (.ref f_l_head)))
    (l_l_head : K.lookup f_l_head = some ⟨oc_l_head, od_l_head, .func (PySem.W.fnOf "_law_head" "_law_head" (defArgs s_l_head) (defBody s_l_head) (defScope s_l_head) .none kV_l_head dc_l_head pm_l_head an_l_head cd_l_head ct_l_head), sl_l_head⟩)
    (c_l_head : PySem.W.codeIn K cd_l_head "_law_head" = true)
    (k_l_head : PySem.W.keepIn K (.ref f_l_head) = true)
    (a_l_records : PySem.W.nsIn K mainGlobals "_law_records" = some (some (.ref f_l_records)))
    (l_l_records : K.lookup f_l_records = some ⟨oc_l_records, od_l_records, .func (PySem.W.fnOf "_law_records" "_law_records" (defArgs s_l_records) (defBody s_l_records) (defScope s_l_records) .none kV_l_records dc_l_records pm_l_records an_l_records cd_l_records ct_l_records), sl_l_records⟩)
    (c_l_records : PySem.W.codeIn K cd_l_records "_law_records" = true)
    (k_l_records : PySem.W.keepIn K (.ref f_l_records) = true)
    (a_l_group : PySem.W.nsIn K mainGlobals "_law_group" = some (some (.ref f_l_group)))
    (l_l_group : K.lookup f_l_group = some ⟨oc_l_group, od_l_group, .func (PySem.W.fnOf "_law_group" "_law_group" (defArgs s_l_group) (defBody s_l_group) (defScope s_l_group) .none kV_l_group dc_l_group pm_l_group an_l_group cd_l_group ct_l_group), sl_l_group⟩)
    (c_l_group : PySem.W.codeIn K cd_l_group "_law_group" = true)
    (k_l_group : PySem.W.keepIn K (.ref f_l_group) = true)
    (a_l_seen : PySem.W.nsIn K mainGlobals "_law_seen" = some (some (.ref f_l_seen)))
    (l_l_seen : K.lookup f_l_seen = some ⟨oc_l_seen, od_l_seen, .func (PySem.W.fnOf "_law_seen" "_law_seen" (defArgs s_l_seen) (defBody s_l_seen) (defScope s_l_seen) .none kV_l_seen dc_l_seen pm_l_seen an_l_seen cd_l_seen ct_l_seen), sl_l_seen⟩)
    (c_l_seen : PySem.W.codeIn K cd_l_seen "_law_seen" = true)
    (k_l_seen : PySem.W.keepIn K (.ref f_l_seen) = true)
    (a_l_more_kinds : PySem.W.nsIn K mainGlobals "_law_more_kinds" = some (some (.ref f_l_more_kinds)))
    (l_l_more_kinds : K.lookup f_l_more_kinds = some ⟨oc_l_more_kinds, od_l_more_kinds, .func (PySem.W.fnOf "_law_more_kinds" "_law_more_kinds" (defArgs s_l_more_kinds) (defBody s_l_more_kinds) (defScope s_l_more_kinds) .none kV_l_more_kinds dc_l_more_kinds pm_l_more_kinds an_l_more_kinds cd_l_more_kinds ct_l_more_kinds), sl_l_more_kinds⟩)
    (c_l_more_kinds : PySem.W.codeIn K cd_l_more_kinds "_law_more_kinds" = true)
    (k_l_more_kinds : PySem.W.keepIn K (.ref f_l_more_kinds) = true)
    (a_l_head_row : PySem.W.nsIn K mainGlobals "_law_head_row" = some (some (.ref f_l_head_row)))
    (l_l_head_row : K.lookup f_l_head_row = some ⟨oc_l_head_row, od_l_head_row, .func (PySem.W.fnOf "_law_head_row" "_law_head_row" (defArgs s_l_head_row) (defBody s_l_head_row) (defScope s_l_head_row) .none kV_l_head_row dc_l_head_row pm_l_head_row an_l_head_row cd_l_head_row ct_l_head_row), sl_l_head_row⟩)
    (c_l_head_row : PySem.W.codeIn K cd_l_head_row "_law_head_row" = true)
    (k_l_head_row : PySem.W.keepIn K (.ref f_l_head_row) = true)
    (a_l_heads : PySem.W.nsIn K mainGlobals "_law_heads" = some (some (.ref f_l_heads)))
    (l_l_heads : K.lookup f_l_heads = some ⟨oc_l_heads, od_l_heads, .func (PySem.W.fnOf "_law_heads" "_law_heads" (defArgs s_l_heads) (defBody s_l_heads) (defScope s_l_heads) .none kV_l_heads dc_l_heads pm_l_heads an_l_heads cd_l_heads ct_l_heads), sl_l_heads⟩)
    (c_l_heads : PySem.W.codeIn K cd_l_heads "_law_heads" = true)
    (k_l_heads : PySem.W.keepIn K (.ref f_l_heads) = true)
    (a_l_count : PySem.W.nsIn K mainGlobals "_law_count" = some (some (.ref f_l_count)))
    (l_l_count : K.lookup f_l_count = some ⟨oc_l_count, od_l_count, .func (PySem.W.fnOf "_law_count" "_law_count" (defArgs s_l_count) (defBody s_l_count) (defScope s_l_count) .none kV_l_count dc_l_count pm_l_count an_l_count cd_l_count ct_l_count), sl_l_count⟩)
    (c_l_count : PySem.W.codeIn K cd_l_count "_law_count" = true)
    (k_l_count : PySem.W.keepIn K (.ref f_l_count) = true)
    (a_l_row : PySem.W.nsIn K mainGlobals "_law_row" = some (some (.ref f_l_row)))
    (l_l_row : K.lookup f_l_row = some ⟨oc_l_row, od_l_row, .func (PySem.W.fnOf "_law_row" "_law_row" (defArgs s_l_row) (defBody s_l_row) (defScope s_l_row) .none kV_l_row dc_l_row pm_l_row an_l_row cd_l_row ct_l_row), sl_l_row⟩)
    (c_l_row : PySem.W.codeIn K cd_l_row "_law_row" = true)
    (k_l_row : PySem.W.keepIn K (.ref f_l_row) = true)
    (a_l_is_integer : PySem.W.nsIn K mainGlobals "_law_is_integer" = some (some (.ref f_l_is_integer)))
    (l_l_is_integer : K.lookup f_l_is_integer = some ⟨oc_l_is_integer, od_l_is_integer, .func (PySem.W.fnOf "_law_is_integer" "_law_is_integer" (defArgs s_l_is_integer) (defBody s_l_is_integer) (defScope s_l_is_integer) .none kV_l_is_integer dc_l_is_integer pm_l_is_integer an_l_is_integer cd_l_is_integer ct_l_is_integer), sl_l_is_integer⟩)
    (c_l_is_integer : PySem.W.codeIn K cd_l_is_integer "_law_is_integer" = true)
    (k_l_is_integer : PySem.W.keepIn K (.ref f_l_is_integer) = true)
    (a_short_entries : PySem.W.nsIn K mainGlobals "short_entries" = some (some (.ref f_short_entries)))
    (l_short_entries : K.lookup f_short_entries = some ⟨oc_short_entries, od_short_entries, .func (PySem.W.fnOf "short_entries" "short_entries" (defArgs s_short_entries) (defBody s_short_entries) (defScope s_short_entries) .none kV_short_entries dc_short_entries pm_short_entries an_short_entries cd_short_entries ct_short_entries), sl_short_entries⟩)
    (c_short_entries : PySem.W.codeIn K cd_short_entries "short_entries" = true)
    (k_short_entries : PySem.W.keepIn K (.ref f_short_entries) = true)
    (a_short_row : PySem.W.nsIn K mainGlobals "short_row" = some (some (.ref f_short_row)))
    (l_short_row : K.lookup f_short_row = some ⟨oc_short_row, od_short_row, .func (PySem.W.fnOf "short_row" "short_row" (defArgs s_short_row) (defBody s_short_row) (defScope s_short_row) .none kV_short_row dc_short_row pm_short_row an_short_row cd_short_row ct_short_row), sl_short_row⟩)
    (c_short_row : PySem.W.codeIn K cd_short_row "short_row" = true)
    (k_short_row : PySem.W.keepIn K (.ref f_short_row) = true)
    (a_l_split : PySem.W.nsIn K mainGlobals "_law_split" = some (some (.ref f_l_split)))
    (l_l_split : K.lookup f_l_split = some ⟨oc_l_split, od_l_split, .func (PySem.W.fnOf "_law_split" "_law_split" (defArgs s_l_split) (defBody s_l_split) (defScope s_l_split) .none kV_l_split dc_l_split pm_l_split an_l_split cd_l_split ct_l_split), sl_l_split⟩)
    (c_l_split : PySem.W.codeIn K cd_l_split "_law_split" = true)
    (k_l_split : PySem.W.keepIn K (.ref f_l_split) = true)
    (a_l_is_short : PySem.W.nsIn K mainGlobals "_law_is_short" = some (some (.ref f_l_is_short)))
    (l_l_is_short : K.lookup f_l_is_short = some ⟨oc_l_is_short, od_l_is_short, .func (PySem.W.fnOf "_law_is_short" "_law_is_short" (defArgs s_l_is_short) (defBody s_l_is_short) (defScope s_l_is_short) .none kV_l_is_short dc_l_is_short pm_l_is_short an_l_is_short cd_l_is_short ct_l_is_short), sl_l_is_short⟩)
    (c_l_is_short : PySem.W.codeIn K cd_l_is_short "_law_is_short" = true)
    (k_l_is_short : PySem.W.keepIn K (.ref f_l_is_short) = true)
    (a_l_bag : PySem.W.nsIn K mainGlobals "_law_bag" = some (some (.ref f_l_bag)))
    (l_l_bag : K.lookup f_l_bag = some ⟨oc_l_bag, od_l_bag, .func (PySem.W.fnOf "_law_bag" "_law_bag" (defArgs s_l_bag) (defBody s_l_bag) (defScope s_l_bag) .none kV_l_bag dc_l_bag pm_l_bag an_l_bag cd_l_bag ct_l_bag), sl_l_bag⟩)
    (c_l_bag : PySem.W.codeIn K cd_l_bag "_law_bag" = true)
    (k_l_bag : PySem.W.keepIn K (.ref f_l_bag) = true)
    (a_law : PySem.W.nsIn K mainGlobals "law" = some (some (.ref f_law)))
    (l_law : K.lookup f_law = some ⟨oc_law, od_law, .func (PySem.W.fnOf "law" "law" (defArgs s_law) (defBody s_law) (defScope s_law) .none kV_law dc_law pm_law an_law cd_law ct_law), sl_law⟩)
    (c_law : PySem.W.codeIn K cd_law "law" = true)
    (k_law : PySem.W.keepIn K (.ref f_law) = true)
    (b_abs : PySem.W.nsIn K mainGlobals "abs" = some none)
    (b_int : PySem.W.nsIn K mainGlobals "int" = some none)
    (b_len : PySem.W.nsIn K mainGlobals "len" = some none)
    (b_range : PySem.W.nsIn K mainGlobals "range" = some none)
    (b_min : PySem.W.nsIn K mainGlobals "min" = some none)
    (b_max : PySem.W.nsIn K mainGlobals "max" = some none)
    (b_any : PySem.W.nsIn K mainGlobals "any" = some none)
    (b_sorted : PySem.W.nsIn K mainGlobals "sorted" = some none)
    (b_tuple : PySem.W.nsIn K mainGlobals "tuple" = some none)
    (b_list : PySem.W.nsIn K mainGlobals "list" = some none)
    (b_zip : PySem.W.nsIn K mainGlobals "zip" = some none)
    (b_isinstance : PySem.W.nsIn K mainGlobals "isinstance" = some none)
    (b_bool : PySem.W.nsIn K mainGlobals "bool" = some none) :
    Txt K mg ⟨f_l_begin, PySem.W.fnOf "_law_begin" "_law_begin" (defArgs s_l_begin) (defBody s_l_begin) (defScope s_l_begin) .none kV_l_begin dc_l_begin pm_l_begin an_l_begin cd_l_begin ct_l_begin, f_l_draw, PySem.W.fnOf "_law_draw" "_law_draw" (defArgs s_l_draw) (defBody s_l_draw) (defScope s_l_draw) .none kV_l_draw dc_l_draw pm_l_draw an_l_draw cd_l_draw ct_l_draw, f_l_word, PySem.W.fnOf "_law_word" "_law_word" (defArgs s_l_word) (defBody s_l_word) (defScope s_l_word) .none kV_l_word dc_l_word pm_l_word an_l_word cd_l_word ct_l_word, f_l_record, PySem.W.fnOf "_law_record" "_law_record" (defArgs s_l_record) (defBody s_l_record) (defScope s_l_record) .none kV_l_record dc_l_record pm_l_record an_l_record cd_l_record ct_l_record, f_l_head, PySem.W.fnOf "_law_head" "_law_head" (defArgs s_l_head) (defBody s_l_head) (defScope s_l_head) .none kV_l_head dc_l_head pm_l_head an_l_head cd_l_head ct_l_head, f_l_records, PySem.W.fnOf "_law_records" "_law_records" (defArgs s_l_records) (defBody s_l_records) (defScope s_l_records) .none kV_l_records dc_l_records pm_l_records an_l_records cd_l_records ct_l_records, f_l_group, PySem.W.fnOf "_law_group" "_law_group" (defArgs s_l_group) (defBody s_l_group) (defScope s_l_group) .none kV_l_group dc_l_group pm_l_group an_l_group cd_l_group ct_l_group, f_l_seen, PySem.W.fnOf "_law_seen" "_law_seen" (defArgs s_l_seen) (defBody s_l_seen) (defScope s_l_seen) .none kV_l_seen dc_l_seen pm_l_seen an_l_seen cd_l_seen ct_l_seen, f_l_more_kinds, PySem.W.fnOf "_law_more_kinds" "_law_more_kinds" (defArgs s_l_more_kinds) (defBody s_l_more_kinds) (defScope s_l_more_kinds) .none kV_l_more_kinds dc_l_more_kinds pm_l_more_kinds an_l_more_kinds cd_l_more_kinds ct_l_more_kinds, f_l_head_row, PySem.W.fnOf "_law_head_row" "_law_head_row" (defArgs s_l_head_row) (defBody s_l_head_row) (defScope s_l_head_row) .none kV_l_head_row dc_l_head_row pm_l_head_row an_l_head_row cd_l_head_row ct_l_head_row, f_l_heads, PySem.W.fnOf "_law_heads" "_law_heads" (defArgs s_l_heads) (defBody s_l_heads) (defScope s_l_heads) .none kV_l_heads dc_l_heads pm_l_heads an_l_heads cd_l_heads ct_l_heads, f_l_count, PySem.W.fnOf "_law_count" "_law_count" (defArgs s_l_count) (defBody s_l_count) (defScope s_l_count) .none kV_l_count dc_l_count pm_l_count an_l_count cd_l_count ct_l_count, f_l_row, PySem.W.fnOf "_law_row" "_law_row" (defArgs s_l_row) (defBody s_l_row) (defScope s_l_row) .none kV_l_row dc_l_row pm_l_row an_l_row cd_l_row ct_l_row, f_l_is_integer, PySem.W.fnOf "_law_is_integer" "_law_is_integer" (defArgs s_l_is_integer) (defBody s_l_is_integer) (defScope s_l_is_integer) .none kV_l_is_integer dc_l_is_integer pm_l_is_integer an_l_is_integer cd_l_is_integer ct_l_is_integer, f_short_entries, PySem.W.fnOf "short_entries" "short_entries" (defArgs s_short_entries) (defBody s_short_entries) (defScope s_short_entries) .none kV_short_entries dc_short_entries pm_short_entries an_short_entries cd_short_entries ct_short_entries, f_short_row, PySem.W.fnOf "short_row" "short_row" (defArgs s_short_row) (defBody s_short_row) (defScope s_short_row) .none kV_short_row dc_short_row pm_short_row an_short_row cd_short_row ct_short_row, f_l_split, PySem.W.fnOf "_law_split" "_law_split" (defArgs s_l_split) (defBody s_l_split) (defScope s_l_split) .none kV_l_split dc_l_split pm_l_split an_l_split cd_l_split ct_l_split, f_l_is_short, PySem.W.fnOf "_law_is_short" "_law_is_short" (defArgs s_l_is_short) (defBody s_l_is_short) (defScope s_l_is_short) .none kV_l_is_short dc_l_is_short pm_l_is_short an_l_is_short cd_l_is_short ct_l_is_short, f_l_bag, PySem.W.fnOf "_law_bag" "_law_bag" (defArgs s_l_bag) (defBody s_l_bag) (defScope s_l_bag) .none kV_l_bag dc_l_bag pm_l_bag an_l_bag cd_l_bag ct_l_bag, f_law, PySem.W.fnOf "law" "law" (defArgs s_law) (defBody s_law) (defScope s_law) .none kV_law dc_law pm_law an_law cd_law ct_law⟩ where
  k_l_begin := k_l_begin
  F_l_begin := fun_mk (st := s_l_begin) l_l_begin c_l_begin k_l_begin
  a_l_begin := (fun_mk (st := s_l_begin) l_l_begin c_l_begin k_l_begin).binds (ps := ["_law_script"]) fun _ _ _ _ _ _ us hl => match us, hl with | [_], _ => rfl
  m_l_begin := PySem.W.mg_of X Gm a_l_begin
  k_l_draw := k_l_draw
  F_l_draw := fun_mk (st := s_l_draw) l_l_draw c_l_draw k_l_draw
  a_l_draw := (fun_mk (st := s_l_draw) l_l_draw c_l_draw k_l_draw).binds (ps := ["_law_state", "_law_many"]) fun _ _ _ _ _ _ us hl => match us, hl with | [_, _], _ => rfl
  m_l_draw := PySem.W.mg_of X Gm a_l_draw
  k_l_word := k_l_word
  F_l_word := fun_mk (st := s_l_word) l_l_word c_l_word k_l_word
  a_l_word := (fun_mk (st := s_l_word) l_l_word c_l_word k_l_word).binds (ps := ["_law_state", "_law_first"]) fun _ _ _ _ _ _ us hl => match us, hl with | [_, _], _ => rfl
  m_l_word := PySem.W.mg_of X Gm a_l_word
  k_l_record := k_l_record
  F_l_record := fun_mk (st := s_l_record) l_l_record c_l_record k_l_record
  a_l_record := (fun_mk (st := s_l_record) l_l_record c_l_record k_l_record).binds (ps := ["_law_records_here", "_law_path"]) fun _ _ _ _ _ _ us hl => match us, hl with | [_, _], _ => rfl
  m_l_record := PySem.W.mg_of X Gm a_l_record
  k_l_head := k_l_head
  F_l_head := fun_mk (st := s_l_head) l_l_head c_l_head k_l_head
  a_l_head := (fun_mk (st := s_l_head) l_l_head c_l_head k_l_head).binds (ps := ["_law_records_here", "_law_path"]) fun _ _ _ _ _ _ us hl => match us, hl with | [_, _], _ => rfl
  m_l_head := PySem.W.mg_of X Gm a_l_head
  k_l_records := k_l_records
  F_l_records := fun_mk (st := s_l_records) l_l_records c_l_records k_l_records
  a_l_records := (fun_mk (st := s_l_records) l_l_records c_l_records k_l_records).binds (ps := ["_law_state", "_law_most", "_law_top"]) fun _ _ _ _ _ _ us hl => match us, hl with | [_, _, _], _ => rfl
  m_l_records := PySem.W.mg_of X Gm a_l_records
  k_l_group := k_l_group
  F_l_group := fun_mk (st := s_l_group) l_l_group c_l_group k_l_group
  a_l_group := (fun_mk (st := s_l_group) l_l_group c_l_group k_l_group).binds (ps := ["_law_records_here", "_law_head_here"]) fun _ _ _ _ _ _ us hl => match us, hl with | [_, _], _ => rfl
  m_l_group := PySem.W.mg_of X Gm a_l_group
  k_l_seen := k_l_seen
  F_l_seen := fun_mk (st := s_l_seen) l_l_seen c_l_seen k_l_seen
  a_l_seen := (fun_mk (st := s_l_seen) l_l_seen c_l_seen k_l_seen).binds (ps := ["_law_head_here", "_law_path"]) fun _ _ _ _ _ _ us hl => match us, hl with | [_, _], _ => rfl
  m_l_seen := PySem.W.mg_of X Gm a_l_seen
  k_l_more_kinds := k_l_more_kinds
  F_l_more_kinds := fun_mk (st := s_l_more_kinds) l_l_more_kinds c_l_more_kinds k_l_more_kinds
  a_l_more_kinds := (fun_mk (st := s_l_more_kinds) l_l_more_kinds c_l_more_kinds k_l_more_kinds).binds (ps := ["_law_kinds", "_law_lack", "_law_columns", "_law_may"]) fun _ _ _ _ _ _ us hl => match us, hl with | [_, _, _, _], _ => rfl
  m_l_more_kinds := PySem.W.mg_of X Gm a_l_more_kinds
  k_l_head_row := k_l_head_row
  F_l_head_row := fun_mk (st := s_l_head_row) l_l_head_row c_l_head_row k_l_head_row
  a_l_head_row := (fun_mk (st := s_l_head_row) l_l_head_row c_l_head_row k_l_head_row).binds (ps := ["_law_records_here", "_law_heads_here", "_law_head_here"]) fun _ _ _ _ _ _ us hl => match us, hl with | [_, _, _], _ => rfl
  m_l_head_row := PySem.W.mg_of X Gm a_l_head_row
  k_l_heads := k_l_heads
  F_l_heads := fun_mk (st := s_l_heads) l_l_heads c_l_heads k_l_heads
  a_l_heads := (fun_mk (st := s_l_heads) l_l_heads c_l_heads k_l_heads).binds (ps := ["_law_records_here"]) fun _ _ _ _ _ _ us hl => match us, hl with | [_], _ => rfl
  m_l_heads := PySem.W.mg_of X Gm a_l_heads
  k_l_count := k_l_count
  F_l_count := fun_mk (st := s_l_count) l_l_count c_l_count k_l_count
  a_l_count := (fun_mk (st := s_l_count) l_l_count c_l_count k_l_count).binds (ps := ["_law_state", "_law_great"]) fun _ _ _ _ _ _ us hl => match us, hl with | [_, _], _ => rfl
  m_l_count := PySem.W.mg_of X Gm a_l_count
  k_l_row := k_l_row
  F_l_row := fun_mk (st := s_l_row) l_l_row c_l_row k_l_row
  a_l_row := (fun_mk (st := s_l_row) l_l_row c_l_row k_l_row).binds (ps := ["_law_state", "_law_heads_here", "_law_at", "_law_most", "_law_great"]) fun _ _ _ _ _ _ us hl => match us, hl with | [_, _, _, _, _], _ => rfl
  m_l_row := PySem.W.mg_of X Gm a_l_row
  k_l_is_integer := k_l_is_integer
  F_l_is_integer := fun_mk (st := s_l_is_integer) l_l_is_integer c_l_is_integer k_l_is_integer
  a_l_is_integer := (fun_mk (st := s_l_is_integer) l_l_is_integer c_l_is_integer k_l_is_integer).binds (ps := ["_law_actual"]) fun _ _ _ _ _ _ us hl => match us, hl with | [_], _ => rfl
  m_l_is_integer := PySem.W.mg_of X Gm a_l_is_integer
  k_short_entries := k_short_entries
  F_short_entries := fun_mk (st := s_short_entries) l_short_entries c_short_entries k_short_entries
  a_short_entries := (fun_mk (st := s_short_entries) l_short_entries c_short_entries k_short_entries).binds (ps := ["entries"]) fun _ _ _ _ _ _ us hl => match us, hl with | [_], _ => rfl
  m_short_entries := PySem.W.mg_of X Gm a_short_entries
  k_short_row := k_short_row
  F_short_row := fun_mk (st := s_short_row) l_short_row c_short_row k_short_row
  a_short_row := (fun_mk (st := s_short_row) l_short_row c_short_row k_short_row).binds (ps := ["row"]) fun _ _ _ _ _ _ us hl => match us, hl with | [_], _ => rfl
  m_short_row := PySem.W.mg_of X Gm a_short_row
  k_l_split := k_l_split
  F_l_split := fun_mk (st := s_l_split) l_l_split c_l_split k_l_split
  a_l_split := (fun_mk (st := s_l_split) l_l_split c_l_split k_l_split).binds (ps := ["_law_state", "_law_row_here"]) fun _ _ _ _ _ _ us hl => match us, hl with | [_, _], _ => rfl
  m_l_split := PySem.W.mg_of X Gm a_l_split
  k_l_is_short := k_l_is_short
  F_l_is_short := fun_mk (st := s_l_is_short) l_l_is_short c_l_is_short k_l_is_short
  a_l_is_short := (fun_mk (st := s_l_is_short) l_l_is_short c_l_is_short k_l_is_short).binds (ps := ["_law_row_here"]) fun _ _ _ _ _ _ us hl => match us, hl with | [_], _ => rfl
  m_l_is_short := PySem.W.mg_of X Gm a_l_is_short
  k_l_bag := k_l_bag
  F_l_bag := fun_mk (st := s_l_bag) l_l_bag c_l_bag k_l_bag
  a_l_bag := (fun_mk (st := s_l_bag) l_l_bag c_l_bag k_l_bag).binds (ps := ["_law_entries"]) fun _ _ _ _ _ _ us hl => match us, hl with | [_], _ => rfl
  m_l_bag := PySem.W.mg_of X Gm a_l_bag
  k_law := k_law
  F_law := fun_mk (st := s_law) l_law c_law k_law
  a_law := (fun_mk (st := s_law) l_law c_law k_law).binds (ps := ["_law_script"]) fun _ _ _ _ _ _ us hl => match us, hl with | [_], _ => rfl
  m_law := PySem.W.mg_of X Gm a_law
  b_abs := PySem.W.mg_none_of X Gm b_abs
  b_int := PySem.W.mg_none_of X Gm b_int
  b_len := PySem.W.mg_none_of X Gm b_len
  b_range := PySem.W.mg_none_of X Gm b_range
  b_min := PySem.W.mg_none_of X Gm b_min
  b_max := PySem.W.mg_none_of X Gm b_max
  b_any := PySem.W.mg_none_of X Gm b_any
  b_sorted := PySem.W.mg_none_of X Gm b_sorted
  b_tuple := PySem.W.mg_none_of X Gm b_tuple
  b_list := PySem.W.mg_none_of X Gm b_list
  b_zip := PySem.W.mg_none_of X Gm b_zip
  b_isinstance := PySem.W.mg_none_of X Gm b_isinstance
  b_bool := PySem.W.mg_none_of X Gm b_bool
theorem all_mk {l : PySem.W.OpenLaw} {w : World} {K : PySem.W.Frag} {h : Heap} {mg : Str → Option Value} {fa : Addr} {a : Ad} {kV' dc pm cd ct : Value} {an : Option Addr} (hfa : mg "law" = some (.ref fa)) (T : Txt K mg a) (e0 : a.d_law = PySem.W.fnOf "law" "law" (defArgs s_law) (defBody s_law) (defScope s_law) .none kV' dc pm an cd ct) :
    ∃ fd : FuncData, (∀ (s : Shared) (v : Value), BindsTo s fd ⟨[v], []⟩ [("_law_script", v)]) ∧ ∀ base : Heap, K.In base → base.Ns mainGlobals mg → FnOk l.prog w K mg base CX0 30 fa fd ["_law_script"] (spLaw K) := by
  have e := hfa.symm.trans T.m_law
  cases e
  refine ⟨a.d_law, fun s v => by rw [e0]; exact .of_eq rfl, fun base _ _ => ok_law T⟩
theorem walk {l : PySem.W.OpenLaw} {q : Program} {loose : List Str} {XP : (Str → Option Value) → Heap → Prop} {YP : World → Heap → Prop} {d : DefRec} {K : Params → PySem.W.Frag} (hn : l.most = some 63) (hdf : d.params.defaults = [])
    (hY : ∀ (w : World) (h : Heap), YP w h → (K w.params).In h)
    (F : ∀ (w : World) (mg : Str → Option Value) (fa : Addr) (h : Heap), (K w.params).In h → h.Ns mainGlobals mg → mg d.name = some (.ref fa) →
      ∃ fd : FuncData, (∀ (s : Shared) (u : Value), BindsTo s fd ⟨[u], []⟩ [("_law_script", u)]) ∧ ∀ base : Heap, (K w.params).In base → base.Ns mainGlobals mg → FnOk l.prog w (K w.params) mg base CX0 30 fa fd ["_law_script"] (spLaw (K w.params))) :
    PySem.W.WalkO q loose XP YP l.row.toRowW d [] (fun f vs => PySem.call f vs) :=
  L2.walk_of (n := 63) (k := 30) (x := "_law_script") (CX := fun _ => CX0) (sp := fun w => spLaw (K w.params)) hn (by decide) hdf ⟨rfl, by decide, by decide⟩ hY F (fun _ _ a ns hl _ hS => ⟨a, ns, rfl, hS, hl, fun _ => rfl⟩) fun _ _ _ _ _ z => z
end Toy
open PySem PySem.W PyProof.Rows
set_option maxRecDepth 100000 in
set_option maxHeartbeats 0 in
theorem PySem.Challenge.cw_linkedfilters_k34_short_rows_holds : PySem.Challenge.rw_linkedfilters_k34_short_rows.Holds := by
  w_on; o_law; k_head; (case hw => w_witness2)
  k_fill
  refine Toy.walk (l := PySem.Challenge.rw_linkedfilters_k34_short_rows) rfl rfl (fun w h Y => PySem.W.kIn_of Y) ?F
  case F =>
    intro w mg fa h KX G hmg
    refine' Toy.all_mk (h := h) hmg (Toy.txt_mk KX G ?h_a_l_begin ?h_l_l_begin ?h_c_l_begin ?h_k_l_begin ?h_a_l_draw ?h_l_l_draw ?h_c_l_draw ?h_k_l_draw ?h_a_l_word ?h_l_l_word ?h_c_l_word ?h_k_l_word ?h_a_l_record ?h_l_l_record ?h_c_l_record ?h_k_l_record ?h_a_l_head ?h_l_l_head ?h_c_l_head ?h_k_l_head ?h_a_l_records ?h_l_l_records ?h_c_l_records ?h_k_l_records ?h_a_l_group ?h_l_l_group ?h_c_l_group ?h_k_l_group ?h_a_l_seen ?h_l_l_seen ?h_c_l_seen ?h_k_l_seen ?h_a_l_more_kinds ?h_l_l_more_kinds ?h_c_l_more_kinds ?h_k_l_more_kinds ?h_a_l_head_row ?h_l_l_head_row ?h_c_l_head_row ?h_k_l_head_row ?h_a_l_heads ?h_l_l_heads ?h_c_l_heads ?h_k_l_heads ?h_a_l_count ?h_l_l_count ?h_c_l_count ?h_k_l_count ?h_a_l_row ?h_l_l_row ?h_c_l_row ?h_k_l_row ?h_a_l_is_integer ?h_l_l_is_integer ?h_c_l_is_integer ?h_k_l_is_integer ?h_a_short_entries ?h_l_short_entries ?h_c_short_entries ?h_k_short_entries ?h_a_short_row ?h_l_short_row ?h_c_short_row ?h_k_short_row ?h_a_l_split ?h_l_l_split ?h_c_l_split ?h_k_l_split ?h_a_l_is_short ?h_l_l_is_short ?h_c_l_is_short ?h_k_l_is_short ?h_a_l_bag ?h_l_l_bag ?h_c_l_bag ?h_k_l_bag ?h_a_law ?h_l_law ?h_c_law ?h_k_law ?h_b_abs ?h_b_int ?h_b_len ?h_b_range ?h_b_min ?h_b_max ?h_b_any ?h_b_sorted ?h_b_tuple ?h_b_list ?h_b_zip ?h_b_isinstance ?h_b_bool) rfl
    (case h_a_l_begin => k_is); (case h_l_l_begin => k_is); (case h_c_l_begin => k_is); (case h_k_l_begin => k_is); (case h_a_l_draw => k_is); (case h_l_l_draw => k_is)
    (case h_c_l_draw => k_is); (case h_k_l_draw => k_is); (case h_a_l_word => k_is); (case h_l_l_word => k_is); (case h_c_l_word => k_is); (case h_k_l_word => k_is)
    (case h_a_l_record => k_is); (case h_l_l_record => k_is); (case h_c_l_record => k_is); (case h_k_l_record => k_is); (case h_a_l_head => k_is); (case h_l_l_head => k_is)
    (case h_c_l_head => k_is); (case h_k_l_head => k_is); (case h_a_l_records => k_is); (case h_l_l_records => k_is); (case h_c_l_records => k_is); (case h_k_l_records => k_is)
    (case h_a_l_group => k_is); (case h_l_l_group => k_is); (case h_c_l_group => k_is); (case h_k_l_group => k_is); (case h_a_l_seen => k_is); (case h_l_l_seen => k_is)
    (case h_c_l_seen => k_is); (case h_k_l_seen => k_is); (case h_a_l_more_kinds => k_is); (case h_l_l_more_kinds => k_is); (case h_c_l_more_kinds => k_is); (case h_k_l_more_kinds => k_is)
    (case h_a_l_head_row => k_is); (case h_l_l_head_row => k_is); (case h_c_l_head_row => k_is); (case h_k_l_head_row => k_is); (case h_a_l_heads => k_is); (case h_l_l_heads => k_is)
    (case h_c_l_heads => k_is); (case h_k_l_heads => k_is); (case h_a_l_count => k_is); (case h_l_l_count => k_is); (case h_c_l_count => k_is); (case h_k_l_count => k_is)
    (case h_a_l_row => k_is); (case h_l_l_row => k_is); (case h_c_l_row => k_is); (case h_k_l_row => k_is); (case h_a_l_is_integer => k_is); (case h_l_l_is_integer => k_is)
    (case h_c_l_is_integer => k_is); (case h_k_l_is_integer => k_is); (case h_a_short_entries => k_is); (case h_l_short_entries => k_is); (case h_c_short_entries => k_is); (case h_k_short_entries => k_is)
    (case h_a_short_row => k_is); (case h_l_short_row => k_is); (case h_c_short_row => k_is); (case h_k_short_row => k_is); (case h_a_l_split => k_is); (case h_l_l_split => k_is)
    (case h_c_l_split => k_is); (case h_k_l_split => k_is); (case h_a_l_is_short => k_is); (case h_l_l_is_short => k_is); (case h_c_l_is_short => k_is); (case h_k_l_is_short => k_is)
    (case h_a_l_bag => k_is); (case h_l_l_bag => k_is); (case h_c_l_bag => k_is); (case h_k_l_bag => k_is); (case h_a_law => k_is); (case h_l_law => k_is)
    (case h_c_law => k_is); (case h_k_law => k_is); (case h_b_abs => k_is); (case h_b_int => k_is); (case h_b_len => k_is); (case h_b_range => k_is)
    (case h_b_min => k_is); (case h_b_max => k_is); (case h_b_any => k_is); (case h_b_sorted => k_is); (case h_b_tuple => k_is); (case h_b_list => k_is)
    (case h_b_zip => k_is); (case h_b_isinstance => k_is); (case h_b_bool => k_is)

